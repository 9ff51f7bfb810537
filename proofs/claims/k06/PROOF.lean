import PyProof.Rows.All
import Wide.All
import OpenK.AllK
import Wide.FinOn
import HandS.ForMost
import HandS.ExcOwn
import HandS.IsInst
import HandS.Style
import HandS.Flow
import HandS.Wide
import HandS.WordsExc
import HandS.Comp
import HandS.Iter
import HandS.Zip
import HandS.Rev
import KE.GoesNew
import HandS.TupAny
import HandS.TupMul
import HandS.SetFor
import HandS.Text
import PyProof.Rows.CountFlat
import KE.KDictList
import HandS.HotCalls
import HandS.ExcIs
import HandS.EndBits
import HandS.Defaults
import HandS.Head0
import HandS.Head1
import HandS.Head2
import HandS.HeadEnd
import HandS.HeadHook1
import HandS.HeadHook2
import HandS.HeadHook3
import HandS.HeadHook4
import HandS.Star
import HandS.SortInts
import KE.DataMinMax
import PySem.Challenge.RW_humpyard_k06_whole_great_cuts
set_option Elab.async false
set_option linter.all false
set_option maxRecDepth 100000
set_option maxHeartbeats 2000000
/-! Z: readings at the level of plain data. A value is data (never written again), an owned object (a list that is still written; it stands in the
ledger), or a raw value. -/
namespace Z
open PySem PySem.Spec PyProof.Rows L2

/-- an owned object's content: some list of numbers that are not negative (the draws), a list of data -/
inductive Mo where
  | drw
  | lst (ds : List PyData)
abbrev Led := List (Addr × Mo)
abbrev Led.ks (L : Led) : List Addr := L.map Prod.fst
inductive Rs where
  | dat (d : PyData)
  | own (a : Addr)
  | raw (v : V)
  | scr (ns : List Int)
abbrev Ev := List (Option Rs)

def natV (n : Nat) : V := .int (n : Int)

def hid (L : Led) (H : Hp) : Hp := fun a => if a ∈ L.ks then none else H a
theorem hid_in {L : Led} {H : Hp} {a : Addr} (h : a ∈ L.ks) : hid L H a = none := if_pos h
theorem hid_out {L : Led} {H : Hp} {a : Addr} (h : a ∉ L.ks) : hid L H a = H a := if_neg h
def Ext (H H' : Hp) : Prop := ∀ a o, H a = some o → H' a = some o
theorem Ext.refl (H : Hp) : Ext H H := fun _ _ h => h
theorem Ext.trans {H H1 H2 : Hp} (a : Ext H H1) (b : Ext H1 H2) : Ext H H2 := fun x o h => b x o (a x o h)
theorem hid_sub {L : Led} {H : Hp} : Ext (hid L H) H := fun a o h => by
  unfold hid at h
  split at h
  · cases h
  · exact h
theorem ext_rd {H H' : Hp} {a : Addr} {u : HO} (e : Ext H H') (h : Rd H a u) : Rd H' a u := by
  rcases h with h | ⟨o, h⟩
  · exact .inl (e _ _ h)
  · exact .inr ⟨o, e _ _ h⟩
theorem ext_l {K : PySem.W.Frag} {H H' : Hp} {a : Addr} {xs : List V} (e : Ext H H') (h : SqL K H a xs) : SqL K H' a xs := by
  rcases h with h | h
  · exact .inl (ext_rd e h)
  · exact .inr h
theorem ext_t {K : PySem.W.Frag} {H H' : Hp} {a : Addr} {xs : List V} (e : Ext H H') (h : SqT K H a xs) : SqT K H' a xs := by
  rcases h with h | h
  · exact .inl (ext_rd e h)
  · exact .inr h
/-- the keys of dicts as data -/
def kD : Key → PyData
  | .inl i => .int i
  | .inr x => .str x
mutual
inductive Rp (K : PySem.W.Frag) (H : Hp) : V → PyData → Prop
  | non : Rp K H .non .none
  | bl (b : Bool) : Rp K H (.bl b) (.bool b)
  | int (i : Int) : Rp K H (.int i) (.int i)
  | str (x : Str) : Rp K H (.str x) (.str x)
  | lst {a : Addr} {xs : List V} {ds : List PyData} : H a = some (.lst xs) → RpAll K H xs ds → Rp K H (.ref a) (.list ds)
  | tup {a : Addr} {xs : List V} {ds : List PyData} : SqT K H a xs → RpAll K H xs ds → Rp K H (.ref a) (.tuple ds)
  | dct {a : Addr} {kvs : List (Key × V)} {ds : List (PyData × PyData)} : H a = some (.dK kvs) → RpKv K H kvs ds → Rp K H (.ref a) (.dict ds)
inductive RpAll (K : PySem.W.Frag) (H : Hp) : List V → List PyData → Prop
  | nil : RpAll K H [] []
  | cons {v : V} {vs : List V} {d : PyData} {ds : List PyData} : Rp K H v d → RpAll K H vs ds → RpAll K H (v :: vs) (d :: ds)
inductive RpKv (K : PySem.W.Frag) (H : Hp) : List (Key × V) → List (PyData × PyData) → Prop
  | nil : RpKv K H [] []
  | cons {k : Key} {v : V} {vs : List (Key × V)} {d : PyData} {ds : List (PyData × PyData)} : Rp K H v d → RpKv K H vs ds → RpKv K H ((k, v) :: vs) ((kD k, d) :: ds)
end
mutual
theorem rp_mono {K : PySem.W.Frag} {H H' : Hp} (e : Ext H H') : ∀ {v : V} {d : PyData}, Rp K H v d → Rp K H' v d
  | _, _, .non => .non
  | _, _, .bl b => .bl b
  | _, _, .int i => .int i
  | _, _, .str x => .str x
  | _, _, .lst s h => .lst (e _ _ s) (rpAll_mono e h)
  | _, _, .tup s h => .tup (ext_t e s) (rpAll_mono e h)
  | _, _, .dct s h => .dct (e _ _ s) (rpKv_mono e h)
theorem rpAll_mono {K : PySem.W.Frag} {H H' : Hp} (e : Ext H H') : ∀ {vs : List V} {ds : List PyData}, RpAll K H vs ds → RpAll K H' vs ds
  | _, _, .nil => .nil
  | _, _, .cons h t => .cons (rp_mono e h) (rpAll_mono e t)
theorem rpKv_mono {K : PySem.W.Frag} {H H' : Hp} (e : Ext H H') : ∀ {vs : List (Key × V)} {ds : List (PyData × PyData)}, RpKv K H vs ds → RpKv K H' vs ds
  | _, _, .nil => .nil
  | _, _, .cons h t => .cons (rp_mono e h) (rpKv_mono e t)
end
section
variable {K : PySem.W.Frag} {H : Hp}
theorem rpAll_len : ∀ {vs : List V} {ds : List PyData}, RpAll K H vs ds → vs.length = ds.length
  | _, _, .nil => rfl
  | _, _, .cons _ t => by rw [List.length_cons, List.length_cons, rpAll_len t]
theorem rpAll_get : ∀ {vs : List V} {ds : List PyData} {i : Nat} {d : PyData}, RpAll K H vs ds → ds[i]? = some d → ∃ v, vs[i]? = some v ∧ Rp K H v d
  | _, _, _, _, .nil, h => by simp at h
  | _, _, 0, _, .cons h _, e => ⟨_, rfl, by simp at e; subst e; exact h⟩
  | _, _, i + 1, _, .cons _ t, e => by
    obtain ⟨v, h1, h2⟩ := rpAll_get (i := i) t (by simpa using e)
    exact ⟨v, by simpa using h1, h2⟩
theorem rpAll_at : ∀ {vs : List V} {ds : List PyData} {i : Nat} {v : V}, RpAll K H vs ds → vs[i]? = some v → ∃ d, ds[i]? = some d ∧ Rp K H v d
  | _, _, _, _, .nil, h => by simp at h
  | _, _, 0, _, .cons h _, e => ⟨_, rfl, by simp at e; subst e; exact h⟩
  | _, _, i + 1, _, .cons _ t, e => by
    obtain ⟨v, h1, h2⟩ := rpAll_at (i := i) t (by simpa using e)
    exact ⟨v, by simpa using h1, h2⟩
theorem rpAll_app : ∀ {vs ws : List V} {ds es : List PyData}, RpAll K H vs ds → RpAll K H ws es → RpAll K H (vs ++ ws) (ds ++ es)
  | _, _, _, _, .nil, s => s
  | _, _, _, _, .cons h t, s => .cons h (rpAll_app t s)
theorem rpAll_one {v : V} {d : PyData} (h : Rp K H v d) : RpAll K H [v] [d] := .cons h .nil
theorem rpAll_map {α : Type} {f : α → V} {g : α → PyData} : ∀ (l : List α), (∀ x ∈ l, Rp K H (f x) (g x)) → RpAll K H (l.map f) (l.map g)
  | [], _ => .nil
  | x :: r, h => .cons (h x List.mem_cons_self) (rpAll_map r fun y hy => h y (List.mem_cons_of_mem _ hy))
theorem rpAll_ints (l : List Int) : RpAll K H (l.map V.int) (l.map PyData.int) := rpAll_map l fun x _ => .int x
theorem rpAll_strs (l : List Str) : RpAll K H (l.map V.str) (l.map PyData.str) := rpAll_map l fun x _ => .str x
theorem rpAll_bools (l : List Bool) : RpAll K H (l.map V.bl) (l.map PyData.bool) := rpAll_map l fun x _ => .bl x
theorem ints_of : ∀ {vs : List V} {l : List Int}, RpAll K H vs (l.map PyData.int) → vs = l.map V.int
  | _, [], .nil => rfl
  | _, i :: r, .cons h t => by
    cases h
    rw [ints_of t] <;> rfl
theorem strs_of : ∀ {vs : List V} {l : List Str}, RpAll K H vs (l.map PyData.str) → vs = l.map V.str
  | _, [], .nil => rfl
  | _, i :: r, .cons h t => by
    cases h
    rw [strs_of t] <;> rfl
theorem bools_of : ∀ {vs : List V} {l : List Bool}, RpAll K H vs (l.map PyData.bool) → vs = l.map V.bl
  | _, [], .nil => rfl
  | _, i :: r, .cons h t => by
    cases h
    rw [bools_of t] <;> rfl
theorem rpAll_take : ∀ {vs : List V} {ds : List PyData} (n : Nat), RpAll K H vs ds → RpAll K H (vs.take n) (ds.take n)
  | _, _, 0, _ => .nil
  | _, _, _ + 1, .nil => .nil
  | _, _, n + 1, .cons h t => .cons h (rpAll_take n t)
theorem rpAll_drop : ∀ {vs : List V} {ds : List PyData} (n : Nat), RpAll K H vs ds → RpAll K H (vs.drop n) (ds.drop n)
  | _, _, 0, r => r
  | _, _, _ + 1, .nil => .nil
  | _, _, n + 1, .cons _ t => rpAll_drop n t
theorem rpAll_set {v : V} {d : PyData} (h : Rp K H v d) : ∀ {vs : List V} {ds : List PyData} (n : Nat), RpAll K H vs ds → RpAll K H (vs.set n v) (ds.set n d)
  | _, _, _, .nil => .nil
  | _, _, 0, .cons _ t => .cons h t
  | _, _, n + 1, .cons q t => .cons q (rpAll_set h n t)
theorem rpAll_rev : ∀ {vs : List V} {ds : List PyData}, RpAll K H vs ds → RpAll K H vs.reverse ds.reverse
  | _, _, .nil => .nil
  | _, _, .cons h t => by
    rw [List.reverse_cons, List.reverse_cons]
    exact rpAll_app (rpAll_rev t) (rpAll_one h)
/-! without dicts: data as the library has it -/
mutual
def flatD : PyData → Bool
  | .dict _ => false
  | .list xs => flatAll xs
  | .tuple xs => flatAll xs
  | _ => true
def flatAll : List PyData → Bool
  | [] => true
  | x :: xs => flatD x && flatAll xs
end
mutual
theorem rp_dp : ∀ {v : V} {d : PyData}, Rp K H v d → flatD d = true → Dp K H v d
  | _, _, .non, _ => .non
  | _, _, .bl b, _ => .bl b
  | _, _, .int i, _ => .int i
  | _, _, .str x, _ => .str x
  | _, _, .lst s h, f => .lst (SqL.of s) (rpAll_dp h (by simpa [flatD] using f))
  | _, _, .tup s h, f => .tup s (rpAll_dp h (by simpa [flatD] using f))
  | _, _, .dct s h, f => by simp [flatD] at f
theorem rpAll_dp : ∀ {vs : List V} {ds : List PyData}, RpAll K H vs ds → flatAll ds = true → DpAll K H vs ds
  | _, _, .nil, _ => .nil
  | _, _, .cons h t, f => by
    simp only [flatAll, Bool.and_eq_true] at f
    exact .cons (rp_dp h f.1) (rpAll_dp t f.2)
end
end

/-! ### what holds of values, of the ledger, of the names -/
section
variable (K : PySem.W.Frag)
def RsOk (L : Led) (H : Hp) (v : V) : Rs → Prop
  | .dat d => Rp K (hid L H) v d
  | .own a => v = .ref a ∧ a ∈ L.ks
  | .raw w => v = w
  | .scr ns => ∃ a, v = .ref a ∧ SqL K (hid L H) a (ns.map V.int)
def MoOk (L : Led) (H : Hp) (a : Addr) : Mo → Prop
  | .drw => ∃ ns : List Nat, H a = some (.lst (ns.map natV))
  | .lst ds => ∃ xs, H a = some (.lst xs) ∧ RpAll K (hid L H) xs ds
structure LOk (L : Led) (H : Hp) : Prop where
  nd : L.ks.Nodup
  at_ : ∀ p ∈ L, MoOk K L H p.1 p.2
structure Rel (L : Led) (ε : Ev) (σ : L2.St) (H : Hp) : Prop where
  len : σ.length = ε.length
  slot : ∀ (i : Nat) (r : Rs), ε[i]? = some (some r) → ∃ v, σ[i]? = some (some v) ∧ RsOk K L H v r
  led : LOk K L H
end
/-- from the one state to the other: what isn't owned stands; what is owned anew was not there -/
structure Grow (H : Hp) (L : Led) (H' : Hp) (L' : Led) : Prop where
  old : ∀ a o, H a = some o → a ∉ L.ks → H' a = some o
  new : ∀ a ∈ L'.ks, a ∈ L.ks ∨ H a = none
abbrev Keeps (L L' : Led) : Prop := ∀ a ∈ L.ks, a ∈ L'.ks
theorem Grow.refl (H : Hp) (L : Led) : Grow H L H L := ⟨fun _ _ h _ => h, fun _ h => .inl h⟩
theorem Grow.trans {H H1 H2 : Hp} {L L1 L2 : Led} (a : Grow H L H1 L1) (b : Grow H1 L1 H2 L2) : Grow H L H2 L2 := by
  refine ⟨fun x o h hx => ?_, fun x hx => ?_⟩
  · refine b.old x o (a.old x o h hx) fun hm => ?_
    rcases a.new x hm with q | q
    · exact hx q
    · rw [h] at q
      cases q
  · rcases b.new x hx with q | q
    · exact a.new x q
    · cases e : H x with
      | none => exact .inr rfl
      | some o =>
        by_cases hx : x ∈ L.ks
        · exact .inl hx
        · rw [a.old x o e hx] at q
          cases q
theorem Grow.ext {H H1 : Hp} {L L1 : Led} (a : Grow H L H1 L1) : Ext (hid L H) (hid L1 H1) := fun x o h => by
  have h1 := hid_sub x o h
  have hx : x ∉ L.ks := fun z => by
    rw [hid_in z] at h
    cases h
  have hn : x ∉ L1.ks := fun z => by
    rcases a.new x z with q | q
    · exact hx q
    · rw [h1] at q
      cases q
  rw [hid_out hn]
  exact a.old x o h1 hx
section
variable {K : PySem.W.Frag} {L L' : Led} {H H' : Hp} {v : V} {r : Rs} {ε : Ev} {σ : L2.St}
theorem RsOk.grow (h : RsOk K L H v r) (g : Grow H L H' L') (k : Keeps L L') : RsOk K L' H' v r := by
  cases r with
  | dat d => exact rp_mono g.ext h
  | own a => exact ⟨h.1, k a h.2⟩
  | raw w => exact h
  | scr ns => exact let ⟨a, e, q⟩ := h; ⟨a, e, ext_l g.ext q⟩
theorem Rel.grow (h : Rel K L ε σ H) (g : Grow H L H' L') (k : Keeps L L') (l : LOk K L' H') : Rel K L' ε σ H' :=
  ⟨h.len, fun i r e => let ⟨v, a, b⟩ := h.slot i r e; ⟨v, a, b.grow g k⟩, l⟩
theorem LOk.isLst (h : LOk K L H) {a : Addr} {ds : List PyData} (m : (a, Mo.lst ds) ∈ L) : ∃ xs, H a = some (.lst xs) ∧ RpAll K (hid L H) xs ds := h.at_ _ m
theorem LOk.isDrw (h : LOk K L H) {a : Addr} (m : (a, Mo.drw) ∈ L) : ∃ ns : List Nat, H a = some (.lst (ns.map natV)) := h.at_ _ m
theorem Led.key {a : Addr} {m : Mo} (h : (a, m) ∈ L) : a ∈ L.ks := List.mem_map.mpr ⟨_, h, rfl⟩
/-- a new object that is not owned -/
theorem grow_new {p : Addr} {o : HO} (h : H p = none) : Grow H L (upd H p o) L :=
  ⟨fun a u e _ => by rw [upd_ne (ne_of_none e h)]; exact e, fun _ h => .inl h⟩
theorem hid_ext_new {p : Addr} {o : HO} (h : H p = none) : Ext (hid L H) (hid L (upd H p o)) := (grow_new h).ext
theorem LOk.mono_at (h : LOk K L H) (g : ∀ a ∈ L.ks, H' a = H a) (e : Ext (hid L H) (hid L H')) : LOk K L H' := by
  refine ⟨h.nd, fun p hp => ?_⟩
  have q := h.at_ p hp
  have ea := g p.1 (List.mem_map.mpr ⟨p, hp, rfl⟩)
  obtain ⟨a, m⟩ := p
  cases m with
  | drw =>
    obtain ⟨ns, z⟩ := q
    exact ⟨ns, ea.trans z⟩
  | lst ds =>
    obtain ⟨xs, z, y⟩ := q
    exact ⟨xs, ea.trans z, rpAll_mono e y⟩
theorem LOk.here (h : LOk K L H) {a : Addr} (ha : a ∈ L.ks) : ∃ o, H a = some o := by
  obtain ⟨p, hp, rfl⟩ := List.mem_map.mp ha
  have q := h.at_ p hp
  obtain ⟨a, m⟩ := p
  cases m with
  | drw => exact let ⟨ns, z⟩ := q; ⟨_, z⟩
  | lst ds => exact let ⟨xs, z, _⟩ := q; ⟨_, z⟩
theorem LOk.fresh (h : LOk K L H) {p : Addr} (e : H p = none) : p ∉ L.ks := fun z => by
  obtain ⟨o, q⟩ := h.here z
  rw [e] at q
  cases q
theorem LOk.new {p : Addr} {o : HO} (h : LOk K L H) (e : H p = none) : LOk K L (upd H p o) :=
  h.mono_at (fun a ha => upd_ne (fun z => h.fresh e (z ▸ ha))) (hid_ext_new e)
/-- a new object that is owned from now on -/
theorem grow_own {p : Addr} {o : HO} {m : Mo} (h : H p = none) : Grow H L (upd H p o) (L ++ [(p, m)]) :=
  ⟨fun a u e _ => by rw [upd_ne (ne_of_none e h)]; exact e, fun a ha => by
    rw [Led.ks, List.map_append, List.mem_append] at ha
    rcases ha with ha | ha
    · exact .inl ha
    · exact .inr (by rw [List.mem_singleton.mp ha]; exact h)⟩
theorem keeps_own {p : Addr} {m : Mo} : Keeps L (L ++ [(p, m)]) := fun a ha => by
  rw [Led.ks, List.map_append, List.mem_append]
  exact .inl ha
theorem Keeps.refl (L : Led) : Keeps L L := fun _ h => h
theorem Keeps.trans {L1 L2 : Led} (a : Keeps L L1) (b : Keeps L1 L2) : Keeps L L2 := fun x h => b x (a x h)
theorem LOk.own {p : Addr} {xs : List V} {ds : List PyData} (h : LOk K L H) (e : H p = none) (d : RpAll K (hid L H) xs ds) : LOk K (L ++ [(p, .lst ds)]) (upd H p (.lst xs)) := by
  have hp := h.fresh e
  have ex : Ext (hid L H) (hid (L ++ [(p, Mo.lst ds)]) (upd H p (.lst xs))) := (grow_own e).ext
  refine ⟨?_, fun q hq => ?_⟩
  · rw [Led.ks, List.map_append]
    refine List.nodup_append.mpr ⟨h.nd, by simp, fun a ha b hb => ?_⟩
    have eb : b = p := List.mem_singleton.mp hb
    rw [eb]
    exact fun z => hp (z ▸ ha)
  · rcases List.mem_append.mp hq with hq | hq
    · have z := h.at_ q hq
      have en : q.1 ≠ p := fun z => hp (z ▸ List.mem_map.mpr ⟨q, hq, rfl⟩)
      obtain ⟨a, m⟩ := q
      cases m with
      | drw =>
        obtain ⟨ns, z⟩ := z
        exact ⟨ns, by rw [upd_ne en]; exact z⟩
      | lst es =>
        obtain ⟨ys, z, y⟩ := z
        exact ⟨ys, by rw [upd_ne en]; exact z, rpAll_mono ex y⟩
    · have e := List.mem_singleton.mp hq
      subst e
      exact ⟨xs, upd_same, rpAll_mono ex d⟩
end
end Z

set_option Elab.async false
set_option linter.all false
set_option maxRecDepth 100000
set_option maxHeartbeats 2000000
namespace Z
open PySem PySem.Spec PyProof.Rows L2
/-- what is wanted of an error: its class's address, the names, the ledger -/
abbrev KX := Addr → Ev → Led → Prop
structure Cz where
  K : PySem.W.Frag
  W : WX
  kx : KX
def ExOk (C : Cz) (L : Led) (H : Hp) : Prop := ∀ c ε' σ' L' H', Grow H L H' L' → Rel C.K L' ε' σ' H' → C.kx c ε' L' → C.W (.ref c) none σ' H'
theorem ExOk.grow {C : Cz} {L L' : Led} {H H' : Hp} (h : ExOk C L H) (g : Grow H L H' L') : ExOk C L' H' := fun c ε σ L2 H2 g2 r k => h c ε σ L2 H2 (g.trans g2) r k
abbrev RsAll (K : PySem.W.Frag) (L : Led) (H : Hp) : List V → List Rs → Prop := Paired fun v r => RsOk K L H v r
theorem RsAll.grow {K : PySem.W.Frag} {L L' : Led} {H H' : Hp} {vs : List V} {rs : List Rs} (h : RsAll K L H vs rs) (g : Grow H L H' L') (k : Keeps L L') : RsAll K L' H' vs rs := Paired.mapP h fun _ _ q => q.grow g k

/-! ### the judgements -/
/-- an expression: k holds of its value and the ledger -/
def CP (C : Cz) (te : TE) (ε : Ev) (L : Led) (k : Rs → Led → Prop) : Prop :=
  ∀ (σ : L2.St) (H : Hp) (Q : VK), Rel C.K L ε σ H → ExOk C L H → (∀ v r L' H', Grow H L H' L' → Keeps L L' → Rel C.K L' ε σ H' → RsOk C.K L' H' v r → k r L' → Q v H') → te σ H Q
def CT (C : Cz) (tt : TT) (ε : Ev) (L : Led) (k : Bool → Led → Prop) : Prop :=
  ∀ (σ : L2.St) (H : Hp) (Q : Bool → Hp → Prop), Rel C.K L ε σ H → ExOk C L H → (∀ b L' H', Grow H L H' L' → Keeps L L' → Rel C.K L' ε σ H' → k b L' → Q b H') → tt σ H Q
def CA (C : Cz) (ta : TA) (ε : Ev) (L : Led) (k : List Rs → Led → Prop) : Prop :=
  ∀ (σ : L2.St) (H : Hp) (Q : List V → Hp → Prop), Rel C.K L ε σ H → ExOk C L H → (∀ vs rs L' H', Grow H L H' L' → Keeps L L' → Rel C.K L' ε σ H' → RsAll C.K L' H' vs rs → k rs L' → Q vs H') → ta σ H Q
/-- by values: an operator, a call -/
def OD (C : Cz) (r : R2) (x y : Rs) (L : Led) (k : Rs → Led → Prop) : Prop :=
  ∀ (v w : V) (H : Hp) (Q : VK), LOk C.K L H → RsOk C.K L H v x → RsOk C.K L H w y → (∀ z s L' H', Grow H L H' L' → Keeps L L' → LOk C.K L' H' → RsOk C.K L' H' z s → k s L' → Q z H') → r v w H Q
def CD (C : Cz) (r : List V → Hp → VK → Prop) (xs : List Rs) (L : Led) (k : Rs → Led → Prop) : Prop :=
  ∀ (vs : List V) (H : Hp) (Q : VK), LOk C.K L H → RsAll C.K L H vs xs → (∀ z s L' H', Grow H L H' L' → Keeps L L' → LOk C.K L' H' → RsOk C.K L' H' z s → k s L' → Q z H') → r vs H Q
structure Post where
  nx : Ev → Led → Prop
  rt : Rs → Led → Prop
  bk : Ev → Led → Prop := fun _ _ => False
  ct : Ev → Led → Prop := fun _ _ => False
def StOk (K : PySem.W.Frag) (L : Led) (H : Hp) (q : Ev → Led → Prop) (D : L2.St → Hp → Prop) : Prop := ∀ ε' L' σ' H', Grow H L H' L' → Rel K L' ε' σ' H' → q ε' L' → D σ' H'
def RtOk (K : PySem.W.Frag) (L : Led) (H : Hp) (q : Rs → Led → Prop) (D : VK) : Prop := ∀ v r L' H', Grow H L H' L' → LOk K L' H' → RsOk K L' H' v r → q r L' → D v H'
theorem StOk.grow {K : PySem.W.Frag} {L L' : Led} {H H' : Hp} {q : Ev → Led → Prop} {D : L2.St → Hp → Prop} (h : StOk K L H q D) (g : Grow H L H' L') : StOk K L' H' q D := fun e l σ h2 g2 => h e l σ h2 (g.trans g2)
theorem RtOk.grow {K : PySem.W.Frag} {L L' : Led} {H H' : Hp} {q : Rs → Led → Prop} {D : VK} (h : RtOk K L H q D) (g : Grow H L H' L') : RtOk K L' H' q D := fun v r l h2 g2 => h v r l h2 (g.trans g2)
structure EndsOk (K : PySem.W.Frag) (L : Led) (H : Hp) (P : Post) (D : Ends) : Prop where
  nx : StOk K L H P.nx D.nx
  rt : RtOk K L H P.rt D.rt
  bk : StOk K L H P.bk D.bk
  ct : StOk K L H P.ct D.ct
theorem EndsOk.grow {K : PySem.W.Frag} {L L' : Led} {H H' : Hp} {P : Post} {D : Ends} (h : EndsOk K L H P D) (g : Grow H L H' L') : EndsOk K L' H' P D := ⟨h.nx.grow g, h.rt.grow g, h.bk.grow g, h.ct.grow g⟩
def HS (C : Cz) (t : TS) (ε : Ev) (L : Led) (P : Post) : Prop :=
  ∀ (σ : L2.St) (H : Hp) (D : Ends), Rel C.K L ε σ H → ExOk C L H → EndsOk C.K L H P D → t D σ H

section
variable {C : Cz} {ε : Ev} {L : Led} {k : Rs → Led → Prop} {kb : Bool → Led → Prop} {ta tb te tl : TE} {tt tu : TT}
/-! ### expressions -/
theorem cp_var {i : Nat} {r : Rs} (h : ε[i]? = some (some r)) (q : k r L) : CP C (tVar i) ε L k := fun σ H Q R X z => by
  obtain ⟨v, e, o⟩ := R.slot i r h
  exact ⟨v, e, z v r L H (Grow.refl H L) (Keeps.refl L) R o q⟩
theorem cp_of {v : V} {r : Rs} (h : ∀ H, RsOk C.K L H v r) (q : k r L) : CP C (tC v) ε L k := fun σ H Q R X z =>
  z v r L H (Grow.refl H L) (Keeps.refl L) R (h H) q
theorem cp_int {i : Int} (q : k (.dat (.int i)) L) : CP C (tC (.int i)) ε L k := cp_of (r := .dat (.int i)) (fun _ => Rp.int i) q
theorem cp_bl {b : Bool} (q : k (.dat (.bool b)) L) : CP C (tC (.bl b)) ε L k := cp_of (r := .dat (.bool b)) (fun _ => Rp.bl b) q
theorem cp_str {x : Str} (q : k (.dat (.str x)) L) : CP C (tC (.str x)) ε L k := cp_of (r := .dat (.str x)) (fun _ => Rp.str x) q
theorem cp_non (q : k (.dat .none) L) : CP C (tC .non) ε L k := cp_of (r := .dat .none) (fun _ => Rp.non) q
theorem cp_ref {a : Addr} (q : k (.raw (.ref a)) L) : CP C (tC (.ref a)) ε L k := cp_of (r := .raw (.ref a)) (fun _ => rfl) q
theorem cp_ty {n : String} (q : k (.raw (.ty n)) L) : CP C (tC (.ty n)) ε L k := cp_of (r := .raw (.ty n)) (fun _ => rfl) q
theorem CP.mono {k' : Rs → Led → Prop} (h : CP C te ε L k) (f : ∀ r L, k r L → k' r L) : CP C te ε L k' := fun σ H Q R X z => h σ H Q R X fun v r L' H' g kp R' o q => z v r L' H' g kp R' o (f r L' q)
theorem CT.mono {k' : Bool → Led → Prop} (h : CT C tt ε L kb) (f : ∀ r L, kb r L → k' r L) : CT C tt ε L k' := fun σ H Q R X z => h σ H Q R X fun b L' H' g kp R' q => z b L' H' g kp R' (f b L' q)
theorem HS.mono {t : TS} {P P' : Post} (h : HS C t ε L P) (f1 : ∀ e l, P.nx e l → P'.nx e l) (f2 : ∀ r l, P.rt r l → P'.rt r l) (f3 : ∀ e l, P.bk e l → P'.bk e l) (f4 : ∀ e l, P.ct e l → P'.ct e l) : HS C t ε L P' := fun σ H D R X E =>
  h σ H D R X ⟨fun e l s h2 g r q => E.nx e l s h2 g r (f1 _ _ q), fun v r l h2 g lo o q => E.rt v r l h2 g lo o (f2 _ _ q), fun e l s h2 g r q => E.bk e l s h2 g r (f3 _ _ q), fun e l s h2 g r q => E.ct e l s h2 g r (f4 _ _ q)⟩
theorem cp_op {r : R2} (h : CP C ta ε L fun x L1 => CP C tb ε L1 fun y L2 => OD C r x y L2 k) : CP C (tOp r ta tb) ε L k := fun σ H Q R X z =>
  h σ H _ R X fun v x L1 H1 g1 k1 R1 o1 h1 => h1 σ H1 _ R1 (X.grow g1) fun w y L2 H2 g2 k2 R2 o2 h2 =>
    h2 v w H2 Q R2.led (o1.grow g2 k2) o2 fun u s L3 H3 g3 k3 l3 o3 q => z u s L3 H3 ((g1.trans g2).trans g3) ((k1.trans k2).trans k3) (R2.grow g3 k3 l3) o3 q
theorem cp_un {r : V → Hp → VK → Prop} (h : CP C ta ε L fun x L1 => CD C (fun vs H Q => ∃ v, vs = [v] ∧ r v H Q) [x] L1 k) : CP C (tUn r ta) ε L k := fun σ H Q R X z =>
  h σ H _ R X fun v x L1 H1 g1 k1 R1 o1 h1 => by
    obtain ⟨v', e, q⟩ := h1 [v] H1 Q R1.led (.cons o1 .nil) fun u s L3 H3 g3 k3 l3 o3 q => z u s L3 H3 (g1.trans g3) (k1.trans k3) (R1.grow g3 k3 l3) o3 q
    cases e
    exact q
theorem ca_nil {k : List Rs → Led → Prop} (q : k [] L) : CA C tNil ε L k := fun σ H Q R X z => z [] [] L H (Grow.refl H L) (Keeps.refl L) R .nil q
theorem ca_cons {tr : TA} {k : List Rs → Led → Prop} (h : CP C ta ε L fun x L1 => CA C tr ε L1 fun xs L2 => k (x :: xs) L2) : CA C (tCons ta tr) ε L k := fun σ H Q R X z =>
  h σ H _ R X fun v x L1 H1 g1 k1 R1 o1 h1 => h1 σ H1 _ R1 (X.grow g1) fun vs xs L2 H2 g2 k2 R2 o2 q => z (v :: vs) (x :: xs) L2 H2 (g1.trans g2) (k1.trans k2) R2 (.cons (o1.grow g2 k2) o2) q
/-- a built-in's call -/
theorem cp_cb {ta : TA} {r : List V → Hp → VK → Prop} (h : CA C ta ε L fun xs L1 => CD C r xs L1 k) : CP C (tCB r ta) ε L k := fun σ H Q R X z =>
  h σ H _ R X fun vs xs L1 H1 g1 k1 R1 o1 h1 => h1 vs H1 Q R1.led o1 fun u s L3 H3 g3 k3 l3 o3 q => z u s L3 H3 (g1.trans g3) (k1.trans k3) (R1.grow g3 k3 l3) o3 q
/-! ### tests -/
theorem ct_test (h : CP C te ε L fun x L1 => ∃ b, x = .dat (.bool b) ∧ kb b L1) : CT C (tTest te) ε L kb := fun σ H Q R X z =>
  h σ H _ R X fun v x L1 H1 g1 k1 R1 o1 ⟨b, e, q⟩ => by
    subst e
    cases o1
    exact ⟨b, rfl, z b L1 H1 g1 k1 R1 q⟩
theorem ct_b (h : CP C te ε L fun x L1 => ∃ b, x = .dat (.bool b) ∧ kb b L1) : CT C (tB te) ε L kb := fun σ H Q R X z =>
  h σ H _ R X fun v x L1 H1 g1 k1 R1 o1 ⟨b, e, q⟩ => by
    subst e
    cases o1
    exact ⟨b, rfl, z b L1 H1 g1 k1 R1 q⟩
theorem ct_and (h : CT C tt ε L fun b L1 => if b = true then CT C tu ε L1 kb else kb false L1) : CT C (tAnd tt tu) ε L kb := fun σ H Q R X z =>
  h σ H _ R X fun b L1 H1 g1 k1 R1 q => by
    cases b with
    | true =>
      rw [if_pos rfl] at q ⊢
      exact q σ H1 Q R1 (X.grow g1) fun c L2 H2 g2 k2 R2 q => z c L2 H2 (g1.trans g2) (k1.trans k2) R2 q
    | false =>
      rw [if_neg (by decide)] at q ⊢
      exact z false L1 H1 g1 k1 R1 q
theorem ct_or (h : CT C tt ε L fun b L1 => if b = true then kb true L1 else CT C tu ε L1 kb) : CT C (tOr tt tu) ε L kb := fun σ H Q R X z =>
  h σ H _ R X fun b L1 H1 g1 k1 R1 q => by
    cases b with
    | true =>
      rw [if_pos rfl] at q ⊢
      exact z true L1 H1 g1 k1 R1 q
    | false =>
      rw [if_neg (by decide)] at q ⊢
      exact q σ H1 Q R1 (X.grow g1) fun c L2 H2 g2 k2 R2 q => z c L2 H2 (g1.trans g2) (k1.trans k2) R2 q
theorem ct_not (h : CT C tt ε L fun b L1 => kb (!b) L1) : CT C (tNot tt) ε L kb := fun σ H Q R X z =>
  h σ H _ R X fun b L1 H1 g1 k1 R1 q => z (!b) L1 H1 g1 k1 R1 q
/-! values that are tests -/
theorem cp_andV (h : CP C ta ε L fun x L1 => ∃ b, x = .dat (.bool b) ∧ if b = true then CP C tb ε L1 k else k (.dat (.bool false)) L1) : CP C (tAndV ta tb) ε L k := fun σ H Q R X z =>
  h σ H _ R X fun v x L1 H1 g1 k1 R1 o1 ⟨b, e, q⟩ => by
    subst e
    cases o1
    refine ⟨b, rfl, ?_⟩
    cases b with
    | true =>
      rw [if_pos rfl] at q ⊢
      exact q σ H1 Q R1 (X.grow g1) fun c s L2 H2 g2 k2 R2 o2 q => z c s L2 H2 (g1.trans g2) (k1.trans k2) R2 o2 q
    | false =>
      rw [if_neg (by decide)] at q ⊢
      exact z _ (.dat (.bool false)) L1 H1 g1 k1 R1 (.bl false) q
theorem cp_orV (h : CP C ta ε L fun x L1 => ∃ b, x = .dat (.bool b) ∧ if b = true then k (.dat (.bool true)) L1 else CP C tb ε L1 k) : CP C (tOrV ta tb) ε L k := fun σ H Q R X z =>
  h σ H _ R X fun v x L1 H1 g1 k1 R1 o1 ⟨b, e, q⟩ => by
    subst e
    cases o1
    refine ⟨b, rfl, ?_⟩
    cases b with
    | true =>
      rw [if_pos rfl] at q ⊢
      exact z _ (.dat (.bool true)) L1 H1 g1 k1 R1 (.bl true) q
    | false =>
      rw [if_neg (by decide)] at q ⊢
      exact q σ H1 Q R1 (X.grow g1) fun c s L2 H2 g2 k2 R2 o2 q => z c s L2 H2 (g1.trans g2) (k1.trans k2) R2 o2 q
theorem cp_notV (h : CP C ta ε L fun x L1 => ∃ b, x = .dat (.bool b) ∧ k (.dat (.bool (!b))) L1) : CP C (tNotV ta) ε L k := fun σ H Q R X z =>
  h σ H _ R X fun v x L1 H1 g1 k1 R1 o1 ⟨b, e, q⟩ => by
    subst e
    cases o1
    exact ⟨b, rfl, z _ (.dat (.bool (!b))) L1 H1 g1 k1 R1 (.bl _) q⟩
theorem cp_if (h : CT C tt ε L fun b L1 => if b = true then CP C ta ε L1 k else CP C tb ε L1 k) : CP C (tIf tt ta tb) ε L k := fun σ H Q R X z =>
  h σ H _ R X fun b L1 H1 g1 k1 R1 q => by
    cases b with
    | true =>
      rw [if_pos rfl] at q ⊢
      exact q σ H1 Q R1 (X.grow g1) fun c s L2 H2 g2 k2 R2 o2 q => z c s L2 H2 (g1.trans g2) (k1.trans k2) R2 o2 q
    | false =>
      rw [if_neg (by decide)] at q ⊢
      exact q σ H1 Q R1 (X.grow g1) fun c s L2 H2 g2 k2 R2 o2 q => z c s L2 H2 (g1.trans g2) (k1.trans k2) R2 o2 q
/-! ### new lists, new tuples -/
theorem rsAll_dats {K : PySem.W.Frag} {H : Hp} : ∀ {vs : List V} {ds : List PyData}, RsAll K L H vs (ds.map Rs.dat) → RpAll K (hid L H) vs ds
  | _, [], .nil => .nil
  | _, d :: r, .cons h t => .cons h (rsAll_dats t)
theorem cp_lst {ta : TA} (h : CA C ta ε L fun xs L1 => ∃ ds : List PyData, xs = ds.map Rs.dat ∧ ds.length ≤ sizeLine ∧ k (.dat (.list ds)) L1) : CP C (tLst ta) ε L k := fun σ H Q R X z =>
  h σ H _ R X fun vs xs L1 H1 g1 k1 R1 o1 ⟨ds, e, hl, q⟩ => by
    subst e
    have o2 := rsAll_dats o1
    refine ⟨by rw [rpAll_len o2]; exact hl, fun p hp => ?_⟩
    have g2 : Grow H1 L1 (upd H1 p (.lst vs)) L1 := grow_new hp
    have hn : p ∉ L1.ks := R1.led.fresh hp
    exact z _ (.dat (.list ds)) L1 _ (g1.trans g2) k1 (R1.grow g2 (Keeps.refl _) (R1.led.new hp)) (.lst (by rw [hid_out hn]; exact upd_same) (rpAll_mono g2.ext o2)) q
theorem cp_lstO {ta : TA} (h : CA C ta ε L fun xs L1 => ∃ ds : List PyData, xs = ds.map Rs.dat ∧ ds.length ≤ sizeLine ∧ ∀ p, p ∉ L1.ks → k (.own p) (L1 ++ [(p, .lst ds)])) : CP C (tLst ta) ε L k := fun σ H Q R X z =>
  h σ H _ R X fun vs xs L1 H1 g1 k1 R1 o1 ⟨ds, e, hl, q⟩ => by
    subst e
    have o2 := rsAll_dats o1
    refine ⟨by rw [rpAll_len o2]; exact hl, fun p hp => ?_⟩
    have g2 : Grow H1 L1 (upd H1 p (.lst vs)) (L1 ++ [(p, .lst ds)]) := grow_own hp
    exact z _ (.own p) _ _ (g1.trans g2) (k1.trans keeps_own) (R1.grow g2 keeps_own (R1.led.own hp o2)) ⟨rfl, by rw [Led.ks, List.map_append]; exact List.mem_append_right _ List.mem_cons_self⟩ (q p (R1.led.fresh hp))
theorem cp_tup {ta : TA} (h : CA C ta ε L fun xs L1 => ∃ ds : List PyData, xs = ds.map Rs.dat ∧ ds.length ≤ sizeLine ∧ k (.dat (.tuple ds)) L1) : CP C (tTup ta) ε L k := fun σ H Q R X z =>
  h σ H _ R X fun vs xs L1 H1 g1 k1 R1 o1 ⟨ds, e, hl, q⟩ => by
    subst e
    have o2 := rsAll_dats o1
    refine ⟨by rw [rpAll_len o2]; exact hl, fun p hp => ?_⟩
    have g2 : Grow H1 L1 (upd H1 p (.tup vs)) L1 := grow_new hp
    have hn : p ∉ L1.ks := R1.led.fresh hp
    exact z _ (.dat (.tuple ds)) L1 _ (g1.trans g2) k1 (R1.grow g2 (Keeps.refl _) (R1.led.new hp)) (.tup (SqT.of (by rw [hid_out hn]; exact upd_same)) (rpAll_mono g2.ext o2)) q

/-! ### statements -/
variable {P : Post} {t u : TS}
theorem hs_next (h : P.nx ε L) : HS C tNext ε L P := fun σ H D R X E => E.nx ε L σ H (Grow.refl H L) R h
theorem hs_brk (h : P.bk ε L) : HS C tBreak ε L P := fun σ H D R X E => E.bk ε L σ H (Grow.refl H L) R h
theorem hs_cont (h : P.ct ε L) : HS C tCont ε L P := fun σ H D R X E => E.ct ε L σ H (Grow.refl H L) R h
theorem hs_seq (h : HS C t ε L { P with nx := fun e l => HS C u e l P }) : HS C (tSeq t u) ε L P := fun σ H D R X E =>
  h σ H _ R X ⟨fun e l s h2 g r q => q s h2 D r (X.grow g) (E.grow g), E.rt, E.bk, E.ct⟩
theorem rel_set {K : PySem.W.Frag} {H : Hp} {σ : L2.St} {i : Nat} {v : V} {r : Rs} (R : Rel K L ε σ H) (o : RsOk K L H v r) : Rel K L (ε.set i (some r)) (σ.set i (some v)) H := by
  refine ⟨by rw [List.length_set, List.length_set]; exact R.len, fun j s e => ?_, R.led⟩
  by_cases h : i = j
  · subst h
    by_cases hl : i < ε.length
    · rw [List.getElem?_set_self hl] at e
      cases e
      exact ⟨v, by rw [List.getElem?_set_self (by rw [R.len]; exact hl)], o⟩
    · rw [List.getElem?_eq_none (by rw [List.length_set]; omega)] at e
      cases e
  · rw [List.getElem?_set_ne h] at e
    obtain ⟨w, e2, o2⟩ := R.slot j s e
    exact ⟨w, by rw [List.getElem?_set_ne h]; exact e2, o2⟩
theorem hs_asg {i : Nat} (h : CP C te ε L fun r L1 => P.nx (ε.set i (some r)) L1) : HS C (tAsg te (gName i)) ε L P := fun σ H D R X E =>
  h σ H _ R X fun v r L1 H1 g1 k1 R1 o1 q => E.nx _ L1 _ H1 g1 (rel_set R1 o1) q
theorem hs_drop (h : CP C te ε L fun r L1 => P.nx ε L1) : HS C (tDrop te) ε L P := fun σ H D R X E =>
  h σ H _ R X fun v r L1 H1 g1 k1 R1 o1 q => E.nx _ L1 _ H1 g1 R1 q
theorem hs_ret (h : CP C te ε L P.rt) : HS C (tRet te) ε L P := fun σ H D R X E =>
  h σ H _ R X fun v r L1 H1 g1 k1 R1 o1 q => E.rt v r L1 H1 g1 R1.led o1 q
theorem hs_retN (h : P.rt (.dat .none) L) : HS C tRetN ε L P := fun σ H D R X E => E.rt _ (.dat .none) L H (Grow.refl H L) R.led .non h
theorem hs_if (h : CT C tt ε L fun b L1 => if b = true then HS C t ε L1 P else HS C u ε L1 P) : HS C (tIfS tt t u) ε L P := fun σ H D R X E =>
  h σ H _ R X fun b L1 H1 g1 k1 R1 q => by
    cases b with
    | true =>
      rw [if_pos rfl] at q ⊢
      exact q σ H1 D R1 (X.grow g1) (E.grow g1)
    | false =>
      rw [if_neg (by decide)] at q ⊢
      exact q σ H1 D R1 (X.grow g1) (E.grow g1)
theorem hs_aug {i : Nat} {ti : TIp} {x : Rs} (hx : ε[i]? = some (some x)) (h : CP C te ε L fun y L1 => OD C ti x y L1 fun z L2 => P.nx (ε.set i (some z)) L2) : HS C (tAug i te ti) ε L P := fun σ H D R X E => by
  obtain ⟨v, e, o⟩ := R.slot i x hx
  refine ⟨v, e, h σ H _ R X fun w y L1 H1 g1 k1 R1 o1 q => ?_⟩
  exact q v w H1 _ R1.led (o.grow g1 k1) o1 fun u s L3 H3 g3 k3 l3 o3 q => E.nx _ L3 _ H3 (g1.trans g3) (rel_set (R1.grow g3 k3 l3) o3) q
end
end Z

set_option Elab.async false
set_option linter.all false
set_option maxRecDepth 100000
set_option maxHeartbeats 2000000
namespace Z
open PySem PySem.Spec PyProof.Rows L2
/-! ### a def's promise over data -/
abbrev DSp := List Rs → Led → (Rs → Led → Prop) → (Addr → Led → Prop) → Prop
def lift (K : PySem.W.Frag) (d : DSp) : Sp := fun vs H Q E => ∃ rs L k x, RsAll K L H vs rs ∧ LOk K L H ∧ d rs L k x ∧
  (∀ v r L' H', Grow H L H' L' → Keeps L L' → LOk K L' H' → RsOk K L' H' v r → k r L' → Q v H') ∧ (∀ c L' H', Grow H L H' L' → Keeps L L' → LOk K L' H' → x c L' → E (.ref c) none H')
section
variable {C : Cz} {ε : Ev} {L : Led} {k : Rs → Led → Prop} {ta : TA} {d : DSp}
theorem cp_call (h : CA C ta ε L fun rs L1 => d rs L1 k fun _ _ => False) : CP C (tCall (lift C.K d) [] E0 ta) ε L k := fun σ H Q R X z =>
  h σ H _ R X fun vs rs L1 H1 g1 k1 R1 o1 q => by
    rw [List.append_nil]
    exact ⟨rs, L1, k, _, o1, R1.led, q, fun v r L2 H2 g2 k2 l2 o2 q2 => z v r L2 H2 (g1.trans g2) (k1.trans k2) (R1.grow g2 k2 l2) o2 q2, fun _ _ _ _ _ _ f => f.elim⟩
theorem cp_callS (h : CA C ta ε L fun rs L1 => d rs L1 k fun c L2 => C.kx c ε L2) : CP C (tCallS (lift C.K d) (WE C.W) ta) ε L k := fun σ H Q R X z =>
  h σ H _ R X fun vs rs L1 H1 g1 k1 R1 o1 q =>
    ⟨rs, L1, k, _, o1, R1.led, q, fun v r L2 H2 g2 k2 l2 o2 q2 => z v r L2 H2 (g1.trans g2) (k1.trans k2) (R1.grow g2 k2 l2) o2 q2, fun c L2 H2 g2 k2 l2 f => X c ε σ L2 H2 (g1.trans g2) (R1.grow g2 k2 l2) f⟩
end
/-! ### a def by its body -/
abbrev C0 (K : PySem.W.Frag) : Cz := ⟨K, fun _ _ _ _ => False, fun _ _ _ => False⟩
theorem exOk0 {K : PySem.W.Frag} {L : Led} {H : Hp} : ExOk (C0 K) L H := fun _ _ _ _ _ _ _ f => f.elim
def ev0 (n : Nat) (rs : List Rs) : Ev := rs.map some ++ List.replicate (n - rs.length) none
theorem rel_start {K : PySem.W.Frag} {L : Led} {H : Hp} {N : List Str} {vs : List V} {rs : List Rs} (h : RsAll K L H vs rs) (l : LOk K L H) : Rel K L (ev0 N.length rs) (L2.start N vs) H := by
  have e := Paired.length h
  refine ⟨?_, fun i r hr => ?_, l⟩
  · unfold L2.start ev0
    rw [List.length_append, List.length_append, List.length_map, List.length_map, List.length_replicate, List.length_replicate, e]
  · unfold ev0 at hr
    by_cases hi : i < rs.length
    · rw [List.getElem?_append_left (by simpa using hi), List.getElem?_map] at hr
      cases e2 : rs[i]? with
      | none =>
        rw [e2] at hr
        cases hr
      | some r' =>
        rw [e2] at hr
        cases hr
        have hv : i < vs.length := by omega
        have key : ∀ {vs : List V} {rs : List Rs} {i : Nat} {r : Rs}, RsAll K L H vs rs → rs[i]? = some r → ∃ v, vs[i]? = some v ∧ RsOk K L H v r := by
          intro vs rs i r p
          induction p generalizing i with
          | nil => intro q; simp at q
          | cons a b ih =>
            intro q
            cases i with
            | zero => simp at q; subst q; exact ⟨_, rfl, a⟩
            | succ j =>
              obtain ⟨v, q1, q2⟩ := ih (i := j) (by simpa using q)
              exact ⟨v, by simpa using q1, q2⟩
        obtain ⟨v, e3, o⟩ := key h e2
        refine ⟨v, ?_, o⟩
        unfold L2.start
        rw [List.getElem?_append_left (by simpa using hv), List.getElem?_map, e3]
        rfl
    · rw [List.getElem?_append_right (by simpa using hi), List.getElem?_replicate] at hr
      split at hr <;> cases hr
/-! ### iterators -/
/-- J hands out the data ds, one by one, from H on -/
def ItOk (K : PySem.W.Frag) (L : Led) (H : Hp) (J : It) (ds : List PyData) : Prop := ∀ L' H', Grow H L H' L' → LOk K L' H' → ∀ i, (i = ds.length → J.stop i H') ∧
  ∀ d, ds[i]? = some d → J.go i H' ∧ ∀ v H2, J.yld i H' v H2 → Grow H' L' H2 L' ∧ LOk K L' H2 ∧ Rp K (hid L' H2) v d
def CI (C : Cz) (wi : TI) (ε : Ev) (L : Led) (q : List PyData → Led → Prop) : Prop := ∀ (σ : L2.St) (H : Hp) (R : It → Hp → Prop), Rel C.K L ε σ H → ExOk C L H →
  (∀ J ds L' H', Grow H L H' L' → Keeps L L' → Rel C.K L' ε σ H' → ItOk C.K L' H' J ds → q ds L' → R J H') → wi σ H R
/-- a target -/
def CG (C : Cz) (g : TG) (r : Rs) (ε : Ev) (L : Led) (q : Ev → Led → Prop) : Prop := ∀ (v : V) (σ : L2.St) (H : Hp) (Q : L2.St → Hp → Prop), Rel C.K L ε σ H → RsOk C.K L H v r →
  (∀ ε' L' σ' H', Grow H L H' L' → Keeps L L' → Rel C.K L' ε' σ' H' → q ε' L' → Q σ' H') → g v σ H Q
section
variable {C : Cz} {ε : Ev} {L : Led} {P : Post} {k : Rs → Led → Prop} {q : Ev → Led → Prop} {wi wi1 : TI} {g g1 : TG} {tb : TS} {tt tt1 : TT} {te : TE}
theorem cg_name {i : Nat} {r : Rs} (h : q (ε.set i (some r)) L) : CG C (gName i) r ε L q := fun v σ H Q R o z => z _ L _ H (Grow.refl H L) (Keeps.refl L) (rel_set R o) h
theorem cg_tup2 {K : PySem.W.Frag} {i j : Nat} {a b : PyData} (h : q ((ε.set i (some (.dat a))).set j (some (.dat b))) L) (hK : C.K = K := by rfl) : CG C (gTup K 2 (gCons (gName i) (gCons (gName j) gNil))) (.dat (.tuple [a, b])) ε L q := fun v σ H Q R o z => by
  subst hK
  cases o with
  | @tup p xs ds hs hx =>
    cases hx with
    | @cons v1 _ _ _ h1 ht =>
      cases ht with
      | @cons v2 _ _ _ h2 hn =>
        cases hn
        exact ⟨p, [v1, v2], rfl, ext_t hid_sub hs, rfl, v1, [v2], rfl, v2, [], rfl, rfl, z _ L _ H (Grow.refl H L) (Keeps.refl L) (rel_set (r := .dat b) (rel_set (r := .dat a) R h1) h2) h⟩
theorem cg_tup3 {K : PySem.W.Frag} {i j l : Nat} {a b c : PyData} (h : q (((ε.set i (some (.dat a))).set j (some (.dat b))).set l (some (.dat c))) L) (hK : C.K = K := by rfl) : CG C (gTup K 3 (gCons (gName i) (gCons (gName j) (gCons (gName l) gNil)))) (.dat (.tuple [a, b, c])) ε L q := fun v σ H Q R o z => by
  subst hK
  cases o with
  | @tup p xs ds hs hx =>
    cases hx with
    | @cons v1 _ _ _ h1 ht =>
      cases ht with
      | @cons v2 _ _ _ h2 ht =>
        cases ht with
        | @cons v3 _ _ _ h3 hn =>
          cases hn
          exact ⟨p, [v1, v2, v3], rfl, ext_t hid_sub hs, rfl, v1, [v2, v3], rfl, v2, [v3], rfl, v3, [], rfl, rfl, z _ L _ H (Grow.refl H L) (Keeps.refl L) (rel_set (r := .dat c) (rel_set (r := .dat b) (rel_set (r := .dat a) R h1) h2) h3) h⟩
theorem hs_for (h : CI C wi ε L fun ds L1 => ∃ I : Nat → Ev → Led → Prop, I 0 ε L1 ∧
      (∀ i d ε' L', ds[i]? = some d → I i ε' L' → CG C g (.dat d) ε' L' fun ε2 L2 => HS C tb ε2 L2 { P with nx := I (i + 1), ct := I (i + 1), bk := P.nx }) ∧ ∀ ε' L', I ds.length ε' L' → P.nx ε' L') : HS C (tFor wi g tb) ε L P := fun σ H D R X E =>
  h σ H _ R X fun J ds L1 H1 g1 k1 R1 J1 ⟨I, i0, hs, hd⟩ => by
    refine ⟨fun i m σ' H' => m = ds.length - i ∧ i ≤ ds.length ∧ ∃ ε' L', Grow H1 L1 H' L' ∧ Rel C.K L' ε' σ' H' ∧ I i ε' L', ⟨_, rfl, Nat.zero_le _, ε, L1, Grow.refl _ _, R1, i0⟩, ?_⟩
    rintro i m σ' H' ⟨rfl, hi, ε', L', g', R', hI⟩
    obtain ⟨js, jg⟩ := J1 L' H' g' R'.led i
    by_cases hl : i < ds.length
    · have hx : ds[i]? = some ds[i] := List.getElem?_eq_getElem hl
      obtain ⟨j1, j2⟩ := jg _ hx
      refine .inr ⟨j1, fun σ2 H2 => i + 1 ≤ ds.length ∧ ∃ ε2 L2, Grow H1 L1 H2 L2 ∧ Rel C.K L2 ε2 σ2 H2 ∧ I (i + 1) ε2 L2, fun σ2 H2 ⟨a, b⟩ => ⟨ds.length - (i + 1), by omega, rfl, a, b⟩, fun v H2 y => ?_⟩
      obtain ⟨g2, l2, rp⟩ := j2 v H2 y
      refine hs i _ ε' L' hx hI v σ' H2 _ (R'.grow g2 (Keeps.refl _) l2) rp fun ε3 L3 σ3 H3 g3 k3 R3 q3 => ?_
      have gg := g1.trans (g'.trans (g2.trans g3))
      refine q3 σ3 H3 _ R3 (X.grow gg) ⟨fun e l s h2 g r z => ⟨hl, e, l, g'.trans (g2.trans (g3.trans g)), r, z⟩, E.rt.grow gg, E.nx.grow gg, fun e l s h2 g r z => ⟨hl, e, l, g'.trans (g2.trans (g3.trans g)), r, z⟩⟩
    · have e : i = ds.length := by omega
      exact .inl ⟨js e, E.nx ε' L' σ' H' (g1.trans g') R' (hd ε' L' (e ▸ hI))⟩
theorem hs_while {tc : TT} (I : Ev → Led → Prop) (μ : Ev → Led → Nat) (h0 : I ε L) (hs : ∀ ε' L', I ε' L' → CT C tc ε' L' fun b L2 => if b = true then HS C tb ε' L2 { P with nx := fun e l => I e l ∧ μ e l < μ ε' L', ct := fun e l => I e l ∧ μ e l < μ ε' L', bk := P.nx } else P.nx ε' L2) : HS C (tWhile tc tb) ε L P := fun σ H D R X E => by
  refine ⟨fun m σ' H' => ∃ ε' L', m = μ ε' L' ∧ Grow H L H' L' ∧ Rel C.K L' ε' σ' H' ∧ I ε' L', ⟨_, ε, L, rfl, Grow.refl _ _, R, h0⟩, ?_⟩
  rintro m σ' H' ⟨ε', L', rfl, g', R', hI⟩
  refine hs ε' L' hI σ' H' _ R' (X.grow g') fun b L2 H2 g2 k2 R2 q => ?_
  cases b with
  | true =>
    rw [if_pos rfl] at q ⊢
    refine ⟨fun σ3 H3 => ∃ ε3 L3, μ ε3 L3 < μ ε' L' ∧ Grow H L H3 L3 ∧ Rel C.K L3 ε3 σ3 H3 ∧ I ε3 L3, fun σ3 H3 ⟨ε3, L3, a, b, c, d⟩ => ⟨_, a, ε3, L3, rfl, b, c, d⟩, ?_⟩
    have gg := g'.trans g2
    exact q σ' H2 _ R2 (X.grow gg) ⟨fun e l s h2 g r z => ⟨e, l, z.2, gg.trans g, r, z.1⟩, E.rt.grow gg, E.nx.grow gg, fun e l s h2 g r z => ⟨e, l, z.2, gg.trans g, r, z.1⟩⟩
  | false =>
    rw [if_neg (by decide)] at q ⊢
    exact E.nx ε' L2 σ' H2 (g'.trans g2) R2 q
end
end Z

set_option Elab.async false
set_option linter.all false
set_option maxRecDepth 100000
set_option maxHeartbeats 2000000
namespace Z
open PySem PySem.Spec PyProof.Rows L2
/-! ### sources -/
/-- a list, a tuple or a text -/
def iSq (K : PySem.W.Frag) (te : TE) : TI := fun σ H R => te σ H fun v H1 => (∃ a, v = .ref a ∧ (∃ xs, SqL K H1 a xs) ∧ R (Itl K a) H1) ∨ (∃ a, v = .ref a ∧ (∃ xs, SqT K H1 a xs) ∧ R (Itt K a) H1) ∨ ∃ x, v = .str x ∧ R (Its x) H1
theorem pi_sq {X : Cx} {tg e : Expr} {te : TE} (he : PE X e te) : PI X tg e (iSq X.K te) := by
  refine ⟨fun pins s σ H R I h => ?_⟩
  refine thn (he.run pins s σ H _ I h) fun v s1 ⟨x, H1, I1, r1, q⟩ => ?_
  rcases q with ⟨a, rfl, ⟨xs, hs⟩, q⟩ | ⟨a, rfl, ⟨xs, hs⟩, q⟩ | ⟨z, rfl, q⟩
  · obtain rfl : v = Value.ref a := r1
    obtain ⟨its, rv, pl, hz⟩ := I1.list hs
    refine wpAny_pyIter_list pl.isList ?_
    exact pi_one (tk := s1.toks) I1 _ (turn_list a _) ⟨_, Heap.get?_push_size _ rfl, rfl, rfl⟩ q
  · obtain rfl : v = Value.ref a := r1
    obtain ⟨its, rv, pl, hz⟩ := I1.tuple hs
    refine wpAny_pyIter_tuple (show s1.heap.IsTuple a its.toArray from pl) ?_
    exact pi_one (tk := s1.toks) I1 _ (turn_tuple a _) ⟨_, Heap.get?_push_size _ rfl, rfl, rfl⟩ q
  · obtain ⟨t, rfl⟩ := r1
    cases hz : z.cps.all (· < 128) with
    | false => exact wpAny_pyIter_wide hz (pi_one (tk := s1.toks) I1 _ (turn_str _ z t "str_iterator" (.inr rfl)) ⟨_, Heap.get?_push_size _ rfl, rfl, rfl⟩ q)
    | true => exact wpAny_pyIter_ascii hz (pi_one (tk := s1.toks) I1 _ (turn_str _ z t "str_ascii_iterator" (.inl rfl)) ⟨_, Heap.get?_push_size _ rfl, rfl, rfl⟩ q)
/-- one sign as data -/
def sgn (c : Nat) : PyData := .str ⟨#[c]⟩
/-- what is walked over a value, as data -/
inductive SeqOf : Rs → List PyData → Prop
  | lst (ds : List PyData) : SeqOf (.dat (.list ds)) ds
  | tup (ds : List PyData) : SeqOf (.dat (.tuple ds)) ds
  | str (x : Str) : SeqOf (.dat (.str x)) (x.cps.toList.map sgn)
  | scr (ns : List Int) : SeqOf (.scr ns) (ns.map PyData.int)
section
variable {C : Cz} {ε : Ev} {L : Led} {te : TE} {ta : TA} {q : List PyData → Led → Prop}
theorem it_list {K : PySem.W.Frag} {H : Hp} {a : Addr} {xs : List V} {ds : List PyData} (h : ∀ H', Ext (hid L H) H' → SqL K H' a xs) (hx : RpAll K (hid L H) xs ds) : ItOk K L H (Itl K a) ds := fun L' H' g l i => by
  have e : Ext (hid L H) H' := g.ext.trans hid_sub
  have hl := rpAll_len hx
  refine ⟨fun hi => ⟨xs, h _ e, by omega⟩, fun d hd => ?_⟩
  obtain ⟨v, e1, r1⟩ := rpAll_get hx hd
  refine ⟨⟨xs, v, h _ e, e1⟩, fun w H2 ⟨y1, y2⟩ => ?_⟩
  subst y1
  have := y2 xs (h _ e)
  rw [e1] at this
  cases this
  exact ⟨Grow.refl _ _, l, rp_mono g.ext r1⟩
theorem it_tup {K : PySem.W.Frag} {H : Hp} {a : Addr} {xs : List V} {ds : List PyData} (h : SqT K (hid L H) a xs) (hx : RpAll K (hid L H) xs ds) : ItOk K L H (Itt K a) ds := fun L' H' g l i => by
  have e : Ext (hid L H) H' := g.ext.trans hid_sub
  have hl := rpAll_len hx
  refine ⟨fun hi => ⟨xs, ext_t e h, by omega⟩, fun d hd => ?_⟩
  obtain ⟨v, e1, r1⟩ := rpAll_get hx hd
  refine ⟨⟨xs, v, ext_t e h, e1⟩, fun w H2 ⟨y1, y2⟩ => ?_⟩
  subst y1
  have := y2 xs (ext_t e h)
  rw [e1] at this
  cases this
  exact ⟨Grow.refl _ _, l, rp_mono g.ext r1⟩
theorem it_str {K : PySem.W.Frag} {H : Hp} (x : Str) : ItOk K L H (Its x) (x.cps.toList.map sgn) := fun L' H' g l i => by
  refine ⟨fun hi => ?_, fun d hd => ?_⟩
  · rw [List.length_map, Array.length_toList] at hi
    exact Nat.le_of_eq hi.symm
  · rw [List.getElem?_map, Array.getElem?_toList] at hd
    cases e : x.cps[i]? with
    | none =>
      rw [e] at hd
      cases hd
    | some c =>
      rw [e] at hd
      cases hd
      refine ⟨(Array.getElem?_eq_some_iff.mp e).1, fun w H2 ⟨y1, c', y2, y3⟩ => ?_⟩
      subst y1
      rw [e] at y2
      cases y2
      subst y3
      exact ⟨Grow.refl _ _, l, .str _⟩
theorem it_range {K : PySem.W.Frag} {H : Hp} (lo : Int) (n : Nat) : ItOk K L H (Itr lo n) ((List.range n).map fun i : Nat => PyData.int (lo + (i : Int))) := fun L' H' g l i => by
  refine ⟨fun hi => ?_, fun d hd => ?_⟩
  · rw [List.length_map, List.length_range] at hi
    exact Nat.le_of_eq hi.symm
  · rw [List.getElem?_map] at hd
    by_cases h : i < n
    · rw [List.getElem?_range h] at hd
      cases hd
      refine ⟨h, fun w H2 ⟨y1, y2⟩ => ?_⟩
      subst y1 y2
      exact ⟨Grow.refl _ _, l, .int _⟩
    · rw [List.getElem?_eq_none (by rw [List.length_range]; omega)] at hd
      cases hd
theorem ci_sq {K : PySem.W.Frag} (h : CP C te ε L fun r L1 => ∃ ds, SeqOf r ds ∧ q ds L1) (hK : C.K = K := by rfl) : CI C (iSq K te) ε L q := fun σ H R Rl X z => by
  subst hK
  refine h σ H _ Rl X fun v r L1 H1 g1 k1 R1 o1 ⟨ds, hs, hq⟩ => ?_
  cases hs with
  | lst =>
    cases o1 with
    | @lst a xs _ e ha => exact .inl ⟨a, rfl, ⟨xs, SqL.of (hid_sub _ _ e)⟩, z _ ds L1 H1 g1 k1 R1 (it_list (fun H' x => SqL.of (x _ _ e)) ha) hq⟩
  | tup =>
    cases o1 with
    | @tup a xs _ e ha => exact .inr (.inl ⟨a, rfl, ⟨xs, ext_t hid_sub e⟩, z _ ds L1 H1 g1 k1 R1 (it_tup e ha) hq⟩)
  | str x =>
    cases o1
    exact .inr (.inr ⟨x, rfl, z _ _ L1 H1 g1 k1 R1 (it_str x) hq⟩)
  | scr ns =>
    obtain ⟨a, e, hs⟩ := o1
    exact .inl ⟨a, e, ⟨_, ext_l hid_sub hs⟩, z _ _ L1 H1 g1 k1 R1 (it_list (fun H' x => ext_l x hs) (rpAll_ints ns)) hq⟩
theorem rsAll_int1 {K : PySem.W.Frag} {H : Hp} {vs : List V} {n : Int} (o : RsAll K L H vs [.dat (.int n)]) : vs = [.int n] := by
  cases o with
  | cons a b =>
    cases b
    cases a
    rfl
theorem rsAll_int2 {K : PySem.W.Frag} {H : Hp} {vs : List V} {n m : Int} (o : RsAll K L H vs [.dat (.int n), .dat (.int m)]) : vs = [.int n, .int m] := by
  cases o with
  | cons a b =>
    cases a
    rw [rsAll_int1 b]
theorem rsAll_int3 {K : PySem.W.Frag} {H : Hp} {vs : List V} {n m l : Int} (o : RsAll K L H vs [.dat (.int n), .dat (.int m), .dat (.int l)]) : vs = [.int n, .int m, .int l] := by
  cases o with
  | cons a b =>
    cases a
    rw [rsAll_int2 b]
def rng (lo : Int) (n : Nat) : List PyData := (List.range n).map fun i : Nat => PyData.int (lo + (i : Int))
theorem ci_range1 (h : CA C ta ε L fun rs L1 => ∃ n : Int, rs = [.dat (.int n)] ∧ (-(2 ^ 62) ≤ n ∧ n < 2 ^ 62) ∧ q (rng 0 n.toNat) L1) : CI C (iRng1 ta) ε L q := fun σ H R Rl X z =>
  h σ H _ Rl X fun vs rs L1 H1 g1 k1 R1 o1 ⟨n, e, hb, hq⟩ => by
    subst e
    exact ⟨n, rsAll_int1 o1, hb.1, hb.2, z _ _ L1 H1 g1 k1 R1 (it_range 0 _) hq⟩
theorem ci_range2 (h : CA C ta ε L fun rs L1 => ∃ n m : Int, rs = [.dat (.int n), .dat (.int m)] ∧ (-(2 ^ 62) ≤ n ∧ n < 2 ^ 62 ∧ -(2 ^ 62) ≤ m ∧ m < 2 ^ 62) ∧ q (rng n (m - n).toNat) L1) : CI C (iRng2 ta) ε L q := fun σ H R Rl X z =>
  h σ H _ Rl X fun vs rs L1 H1 g1 k1 R1 o1 ⟨n, m, e, hb, hq⟩ => by
    subst e
    exact ⟨n, m, rsAll_int2 o1, hb, z _ _ L1 H1 g1 k1 R1 (it_range n _) hq⟩
/-- a step of minus one -/
theorem it_rangeD {K : PySem.W.Frag} {H : Hp} (lo c : Int) (n : Nat) : ItOk K L H (Itc lo c n) ((List.range n).map fun i : Nat => PyData.int (lo + (i : Int) * c)) := fun L' H' g l i => by
  refine ⟨fun hi => ?_, fun d hd => ?_⟩
  · rw [List.length_map, List.length_range] at hi
    exact Nat.le_of_eq hi.symm
  · rw [List.getElem?_map] at hd
    by_cases h : i < n
    · rw [List.getElem?_range h] at hd
      cases hd
      refine ⟨h, fun w H2 ⟨y1, y2⟩ => ?_⟩
      subst y1 y2
      exact ⟨Grow.refl _ _, l, .int _⟩
    · rw [List.getElem?_eq_none (by rw [List.length_range]; omega)] at hd
      cases hd
theorem ci_rangeD (h : CA C ta ε L fun rs L1 => ∃ n m : Int, rs = [.dat (.int n), .dat (.int m), .dat (.int (-1))] ∧ (-(2 ^ 62) ≤ n ∧ n < 2 ^ 62 ∧ -(2 ^ 62) ≤ m ∧ m < 2 ^ 62) ∧
    q ((List.range (n - m).toNat).map fun i : Nat => PyData.int (n + (i : Int) * (-1))) L1) : CI C (iRng3 ta) ε L q := fun σ H R Rl X z =>
  h σ H _ Rl X fun vs rs L1 H1 g1 k1 R1 o1 ⟨n, m, e, hb, hq⟩ => by
    subst e
    exact ⟨n, m, -1, _, rsAll_int3 o1, RgC.neg hb.1 hb.2.1 hb.2.2.1 hb.2.2.2, z _ _ L1 H1 g1 k1 R1 (it_rangeD n (-1) _) hq⟩
end

/-! ### comprehensions -/
def wipeE (ε : Ev) : List Nat → Ev
  | [] => ε
  | v :: vs => (wipeE ε vs).set v none
theorem rel_none {K : PySem.W.Frag} {L : Led} {ε : Ev} {σ : L2.St} {H : Hp} (R : Rel K L ε σ H) (i : Nat) : Rel K L (ε.set i none) (σ.set i none) H := by
  refine ⟨by rw [List.length_set, List.length_set]; exact R.len, fun j s e => ?_, R.led⟩
  by_cases h : i = j
  · subst h
    by_cases hl : i < ε.length
    · rw [List.getElem?_set_self hl] at e
      cases e
    · rw [List.getElem?_eq_none (by rw [List.length_set]; omega)] at e
      cases e
  · rw [List.getElem?_set_ne h] at e
    obtain ⟨w, e2, o2⟩ := R.slot j s e
    exact ⟨w, by rw [List.getElem?_set_ne h]; exact e2, o2⟩
theorem rel_wipe {K : PySem.W.Frag} {L : Led} {ε : Ev} {σ : L2.St} {H : Hp} (R : Rel K L ε σ H) : ∀ vs : List Nat, Rel K L (wipeE ε vs) (wipe σ vs) H
  | [] => R
  | v :: vs => rel_none (rel_wipe R vs) v
/-- the target stores nothing but the block's own names -/
def GOwn (g : TG) (vs : List Nat) : Prop := ∀ v σ H (Q : L2.St → Hp → Prop), g v σ H Q → g v σ H fun σ2 H2 => wipe σ2 vs = wipe σ vs ∧ Q σ2 H2
theorem wipe_set_in {σ : L2.St} {j : Nat} {y : Option V} : ∀ {vs : List Nat}, j ∈ vs → wipe (σ.set j y) vs = wipe σ vs
  | [], h => by cases h
  | v :: vs, h => by
    unfold wipe
    by_cases e : v = j
    · subst e
      by_cases h2 : v ∈ vs
      · rw [wipe_set_in h2]
      · have : ∀ ws : List Nat, v ∉ ws → wipe (σ.set v y) ws = (wipe σ ws).set v y := by
          intro ws
          induction ws with
          | nil => intro _; rfl
          | cons u us ih =>
            intro hn
            simp only [List.mem_cons, not_or] at hn
            unfold wipe
            rw [ih hn.2, List.set_comm _ _ (Ne.symm hn.1).symm]
        rw [this vs h2, List.set_set]
    · rcases List.mem_cons.mp h with z | z
      · exact absurd z.symm e
      · rw [wipe_set_in z]
theorem gown_name {i : Nat} {vs : List Nat} (h : i ∈ vs := by decide) : GOwn (gName i) vs := fun v σ H Q q => ⟨wipe_set_in h, q⟩
theorem gown_tup2 {K : PySem.W.Frag} {i j : Nat} {vs : List Nat} (h : i ∈ vs := by decide) (h2 : j ∈ vs := by decide) : GOwn (gTup K 2 (gCons (gName i) (gCons (gName j) gNil))) vs := fun v σ H Q q => by
  obtain ⟨a, xs, e, hs, hl, v1, r1, e1, v2, r2, e2, e3, q⟩ := q
  exact ⟨a, xs, e, hs, hl, v1, r1, e1, v2, r2, e2, e3, by rw [wipe_set_in h2, wipe_set_in h], q⟩
theorem gown_tup3 {K : PySem.W.Frag} {i j l : Nat} {vs : List Nat} (h : i ∈ vs := by decide) (h2 : j ∈ vs := by decide) (h3 : l ∈ vs := by decide) : GOwn (gTup K 3 (gCons (gName i) (gCons (gName j) (gCons (gName l) gNil)))) vs := fun v σ H Q q => by
  obtain ⟨a, xs, e, hs, hl, v1, r1, e1, v2, r2, e2, v3, r3, e3, e4, q⟩ := q
  exact ⟨a, xs, e, hs, hl, v1, r1, e1, v2, r2, e2, v3, r3, e3, e4, by rw [wipe_set_in h3, wipe_set_in h2, wipe_set_in h], q⟩
theorem wipe_wipe (σ : L2.St) : ∀ vs : List Nat, wipe (wipe σ vs) vs = wipe σ vs := by
  intro vs
  apply List.ext_getElem?
  intro i
  by_cases hi : i ∈ vs
  · have key : ∀ (τ : L2.St) (ws : List Nat), i ∈ ws → (wipe τ ws)[i]? = if i < τ.length then some none else none := by
      intro τ ws
      induction ws with
      | nil => intro h; cases h
      | cons u us ih =>
        intro h
        unfold wipe
        by_cases e : u = i
        · subst e
          by_cases hl : u < τ.length
          · rw [List.getElem?_set_self (by rw [wipe_length]; exact hl), if_pos hl]
          · rw [if_neg hl, List.getElem?_eq_none (by rw [List.length_set, wipe_length]; omega)]
        · rw [List.getElem?_set_ne e]
          rcases List.mem_cons.mp h with z | z
          · exact absurd z.symm e
          · exact ih z
    rw [key _ _ hi, key _ _ hi, wipe_length]
  · have key : ∀ (τ : L2.St) (ws : List Nat), i ∉ ws → (wipe τ ws)[i]? = τ[i]? := by
      intro τ ws
      induction ws with
      | nil => intro _; rfl
      | cons u us ih =>
        intro h
        simp only [List.mem_cons, not_or] at h
        unfold wipe
        rw [List.getElem?_set_ne (Ne.symm h.1), ih h.2]
    rw [key _ _ hi, key _ _ hi]
end Z

set_option Elab.async false
set_option linter.all false
set_option maxRecDepth 100000
set_option maxHeartbeats 2000000
namespace Z
open PySem PySem.Spec PyProof.Rows L2
theorem LOk.app {K : PySem.W.Frag} {L : Led} {H : Hp} {D : Addr} {ds : List PyData} {xs : List V} {y : V} {d : PyData} (l : LOk K (L ++ [(D, .lst ds)]) H) (h : H D = some (.lst xs)) (r : Rp K (hid (L ++ [(D, .lst ds)]) H) y d) :
    LOk K (L ++ [(D, .lst (ds ++ [d]))]) (upd H D (.lst (xs ++ [y]))) := by
  have hk : (L ++ [(D, Mo.lst (ds ++ [d]))]).ks = (L ++ [(D, Mo.lst ds)]).ks := by
    unfold Led.ks
    rw [List.map_append, List.map_append]
    rfl
  have hD : D ∈ (L ++ [(D, Mo.lst ds)]).ks := by
    unfold Led.ks
    rw [List.map_append]
    exact List.mem_append_right _ List.mem_cons_self
  have ex : Ext (hid (L ++ [(D, Mo.lst ds)]) H) (hid (L ++ [(D, Mo.lst (ds ++ [d]))]) (upd H D (.lst (xs ++ [y])))) := fun a o e => by
    by_cases ha : a ∈ (L ++ [(D, Mo.lst ds)]).ks
    · rw [hid_in ha] at e
      cases e
    · rw [hid_out ha] at e
      rw [hid_out (by rw [hk]; exact ha), upd_ne (fun z : a = D => ha (by rw [z]; exact hD))]
      exact e
  have hl := l.at_ (D, .lst ds) (List.mem_append_right _ List.mem_cons_self)
  obtain ⟨ys, e1, e2⟩ : ∃ ys, H D = some (.lst ys) ∧ RpAll K (hid (L ++ [(D, Mo.lst ds)]) H) ys ds := hl
  have e3 : ys = xs := by
    rw [h] at e1
    cases e1
    rfl
  subst e3
  refine ⟨by rw [hk]; exact l.nd, fun p hp => ?_⟩
  rcases List.mem_append.mp hp with hp | hp
  · have q := l.at_ p (List.mem_append_left _ hp)
    have hn : p.1 ≠ D := fun z => by
      have nd := l.nd
      unfold Led.ks at nd
      rw [List.map_append] at nd
      exact (List.nodup_append.mp nd).2.2 p.1 (List.mem_map.mpr ⟨p, hp, rfl⟩) D List.mem_cons_self z
    obtain ⟨a, m⟩ := p
    cases m with
    | drw =>
      obtain ⟨ns, z⟩ := q
      exact ⟨ns, by rw [upd_ne hn]; exact z⟩
    | lst es =>
      obtain ⟨zs, z, w⟩ := q
      exact ⟨zs, by rw [upd_ne hn]; exact z, rpAll_mono ex w⟩
  · have e := List.mem_singleton.mp hp
    subst e
    exact ⟨_, upd_same, rpAll_app (rpAll_mono ex e2) (rpAll_one (rp_mono ex r))⟩
/-- a written list that is owned last is given up: it is data from now on -/
theorem LOk.drop {K : PySem.W.Frag} {L : Led} {H : Hp} {D : Addr} {m : Mo} (l : LOk K (L ++ [(D, m)]) H) : LOk K L H := by
  have ex : Ext (hid (L ++ [(D, m)]) H) (hid L H) := fun a o e => by
    by_cases ha : a ∈ (L ++ [(D, m)]).ks
    · rw [hid_in ha] at e
      cases e
    · rw [hid_out ha] at e
      rw [hid_out fun z => ha (keeps_own a z)]
      exact e
  refine ⟨?_, fun p hp => ?_⟩
  · have nd := l.nd
    unfold Led.ks at nd
    rw [List.map_append] at nd
    exact (List.nodup_append.mp nd).1
  · have q := l.at_ p (List.mem_append_left _ hp)
    obtain ⟨a, m2⟩ := p
    cases m2 with
    | drw => exact q
    | lst es =>
      obtain ⟨zs, z, w⟩ := q
      exact ⟨zs, z, rpAll_mono ex w⟩
theorem ext_drop {L : Led} {H : Hp} {D : Addr} {m : Mo} : Ext (hid (L ++ [(D, m)]) H) (hid L H) := fun a o e => by
  by_cases ha : a ∈ (L ++ [(D, m)]).ks
  · rw [hid_in ha] at e
    cases e
  · rw [hid_out ha] at e
    rw [hid_out fun z => ha (keeps_own a z)]
    exact e
section
variable {C : Cz} {ε : Ev} {L : Led} {k : Rs → Led → Prop} {wi wi1 : TI} {g g1 : TG} {tt tt1 : TT} {te : TE} {vs vs1 : List Nat}
abbrev plus (L : Led) (p : Addr) (acc : List PyData) : Led := L ++ [(p, .lst acc)]
theorem plus_ks (L : Led) (p : Addr) (a b : List PyData) : (plus L p a).ks = (plus L p b).ks := by
  unfold plus Led.ks
  rw [List.map_append, List.map_append]
  rfl
theorem Grow.re {H H' : Hp} {L L' L2 : Led} (g : Grow H L H' L') (h : L'.ks = L2.ks) : Grow H L H' L2 := ⟨g.old, fun a ha => g.new a (by rw [h]; exact ha)⟩
theorem Grow.re1 {H H' : Hp} {L L' L2 : Led} (g : Grow H L H' L') (h : L.ks = L2.ks) : Grow H L2 H' L' := ⟨fun a o e n => g.old a o e (by rw [h]; exact n), fun a ha => by rw [← h]; exact g.new a ha⟩
theorem grow_app {H : Hp} {L : Led} {p : Addr} {acc acc' : List PyData} {o : HO} : Grow H (plus L p acc) (upd H p o) (plus L p acc') := by
  have hp : p ∈ (plus L p acc).ks := by
    unfold plus Led.ks
    rw [List.map_append]
    exact List.mem_append_right _ List.mem_cons_self
  exact ⟨fun a u e n => by rw [upd_ne (fun z : a = p => n (by rw [z]; exact hp))]; exact e, fun a ha => .inl (by rw [plus_ks L p acc acc']; exact ha)⟩
/-- [e for target in iter if ..]: I by the turn and the list so far -/
theorem cp_lc (h : CI C wi ε L fun ds L1 => ds.length < sizeLine ∧ ∃ I : Nat → List PyData → Prop, I 0 [] ∧
      (∀ i d acc p, ds[i]? = some d → I i acc → p ∉ L1.ks → CG (C0 C.K) g (.dat d) (wipeE ε vs) (plus L1 p acc) fun ε2 L2 => L2 = plus L1 p acc ∧
        CT (C0 C.K) tt ε2 L2 fun b L3 => L3 = plus L1 p acc ∧ if b = true then CP (C0 C.K) te ε2 L3 fun r L4 => L4 = plus L1 p acc ∧ ∃ y, r = .dat y ∧ I (i + 1) (acc ++ [y]) else I (i + 1) acc) ∧
      ∀ acc, I ds.length acc → k (.dat (.list acc)) L1) (ho : GOwn g vs) : CP C (tLc wi g tt te vs) ε L k := fun σ H Q R X z =>
  h σ H _ R X fun J ds L1 H1 g1 k1 R1 J1 ⟨hsz, I, i0, hs, hd⟩ D hD => by
    have hDn : D ∉ L1.ks := R1.led.fresh hD
    refine ⟨fun i m H' => m = ds.length - i ∧ i ≤ ds.length ∧ ∃ acc, acc.length ≤ i ∧ I i acc ∧ Grow H1 L1 H' (plus L1 D acc) ∧ LOk C.K (plus L1 D acc) H', ⟨_, rfl, Nat.zero_le _, [], Nat.le_refl _, i0, grow_own hD, R1.led.own hD .nil⟩, ?_⟩
    rintro i m H' ⟨rfl, hi, acc, hal, hI, g', l'⟩
    obtain ⟨js, jg⟩ := J1 _ H' g' l' i
    have RW : Rel C.K (plus L1 D acc) (wipeE ε vs) (wipe σ vs) H' := (rel_wipe R1 vs).grow g' keeps_own l'
    by_cases hl : i < ds.length
    · have hx : ds[i]? = some ds[i] := List.getElem?_eq_getElem hl
      obtain ⟨j1, j2⟩ := jg _ hx
      refine .inr ⟨j1, fun H2 => i + 1 ≤ ds.length ∧ ∃ acc2, acc2.length ≤ i + 1 ∧ I (i + 1) acc2 ∧ Grow H1 L1 H2 (plus L1 D acc2) ∧ LOk C.K (plus L1 D acc2) H2, fun H2 ⟨a, b⟩ => ⟨ds.length - (i + 1), by omega, rfl, a, b⟩, fun v H2 y => ?_⟩
      obtain ⟨g2, l2, rp⟩ := j2 v H2 y
      have key := hs i _ acc D hx hI hDn v (wipe σ vs) H2 (fun σ3 H3 => tt σ3 H3 fun b H4 => if b = true then te σ3 H4 fun y H5 => ∃ acc, H5 D = some (.lst acc) ∧ acc.length < sizeLine ∧ (i + 1 ≤ ds.length ∧ ∃ acc2, acc2.length ≤ i + 1 ∧ I (i + 1) acc2 ∧ Grow H1 L1 (upd H5 D (.lst (acc ++ [y]))) (plus L1 D acc2) ∧ LOk C.K (plus L1 D acc2) (upd H5 D (.lst (acc ++ [y])))) else (i + 1 ≤ ds.length ∧ ∃ acc2, acc2.length ≤ i + 1 ∧ I (i + 1) acc2 ∧ Grow H1 L1 H4 (plus L1 D acc2) ∧ LOk C.K (plus L1 D acc2) H4)) (RW.grow g2 (Keeps.refl _) l2) rp fun ε3 L3 σ3 H3 g3 k3 R3 q3 => ?_
      · have q := ho v (wipe σ vs) H2 _ key
        rw [wipe_wipe] at q
        exact q
      obtain ⟨e3, q3⟩ := q3
      subst e3
      refine q3 σ3 H3 _ R3 exOk0 fun b L4 H4 g4 k4 R4 q4 => ?_
      obtain ⟨e4, q4⟩ := q4
      subst e4
      have gg := g'.trans (g2.trans (g3.trans g4))
      cases b with
      | false =>
        rw [if_neg (by decide)] at q4 ⊢
        exact ⟨hl, acc, Nat.le_succ_of_le hal, q4, gg, R4.led⟩
      | true =>
        rw [if_pos rfl] at q4 ⊢
        refine q4 σ3 H4 _ R4 exOk0 fun w r L5 H5 g5 k5 R5 o5 q5 => ?_
        obtain ⟨e5, yd, er, q5⟩ := q5
        subst e5 er
        obtain ⟨xs, ex, hxs⟩ := R5.led.isLst (List.mem_append_right _ List.mem_cons_self)
        refine ⟨xs, ex, by rw [rpAll_len hxs]; omega, hl, acc ++ [yd], by rw [List.length_append]; exact Nat.succ_le_succ hal, q5, (gg.trans g5).trans grow_app, R5.led.app ex o5⟩
    · have e : i = ds.length := by omega
      subst e
      obtain ⟨xs, ex, hxs⟩ := l'.isLst (List.mem_append_right _ List.mem_cons_self)
      have l2 : LOk C.K L1 H' := l'.drop
      have g2 : Grow H1 L1 H' L1 := ⟨g'.old, fun a ha => .inl ha⟩
      exact .inl ⟨js rfl, z (.ref D) (.dat (.list acc)) L1 H' (g1.trans g2) k1 (R1.grow g2 (Keeps.refl _) l2) (.lst (by rw [hid_out hDn]; exact ex) (rpAll_mono ext_drop hxs)) (hd acc hI)⟩
/-- each item gives one element or none, the draws left alone -/
theorem cp_lcF (f : PyData → Option PyData) (h : CI C wi ε L fun ds L1 => ds.length < sizeLine ∧
      (∀ d ∈ ds, ∀ acc p, p ∉ L1.ks → CG (C0 C.K) g (.dat d) (wipeE ε vs) (plus L1 p acc) fun ε2 L2 => L2 = plus L1 p acc ∧
        CT (C0 C.K) tt ε2 L2 fun b L3 => L3 = plus L1 p acc ∧ if b = true then CP (C0 C.K) te ε2 L3 fun r L4 => L4 = plus L1 p acc ∧ ∃ y, r = .dat y ∧ f d = some y else f d = none) ∧
      k (.dat (.list (ds.filterMap f))) L1) (ho : GOwn g vs) : CP C (tLc wi g tt te vs) ε L k := by
  refine cp_lc ?_ ho
  refine fun σ H R Rl X z => h σ H R Rl X fun J ds L' H' g1 k1 R1 J1 ⟨a, b, c⟩ => z J ds L' H' g1 k1 R1 J1 ⟨a, fun i acc => acc = (ds.take i).filterMap f, rfl, fun i d acc p hd hI hp => ?_, fun acc hI => ?_⟩
  · have hm : d ∈ ds := List.mem_of_getElem? hd
    have ht : ds.take (i + 1) = ds.take i ++ [d] := by rw [List.take_add_one, hd] <;> rfl
    intro v σ2 H2 Q2 R2 o2 z2
    refine b d hm acc p hp v σ2 H2 Q2 R2 o2 fun ε3 L3 σ3 H3 g3 k3 R3 ⟨e3, q3⟩ => z2 ε3 L3 σ3 H3 g3 k3 R3 ⟨e3, CT.mono q3 fun bb L4 ⟨e4, q4⟩ => ⟨e4, ?_⟩⟩
    cases bb with
    | true =>
      rw [if_pos rfl] at q4 ⊢
      exact CP.mono q4 fun r L5 ⟨e5, y, er, ey⟩ => ⟨e5, y, er, (by show acc ++ [y] = (ds.take (i + 1)).filterMap f; rw [ht, List.filterMap_append, hI, List.filterMap_cons, ey]; rfl)⟩
    | false =>
      rw [if_neg (by decide)] at q4 ⊢
      show acc = (ds.take (i + 1)).filterMap f
      rw [ht, List.filterMap_append, hI, List.filterMap_cons, q4]
      show _ = _ ++ []
      rw [List.append_nil]
  · have e : acc = (ds.take ds.length).filterMap f := hI
    rw [e, List.take_length]
    exact c
end
end Z

set_option Elab.async false
set_option linter.all false
set_option maxRecDepth 100000
set_option maxHeartbeats 2000000
namespace Z
open PySem PySem.Spec PyProof.Rows L2
theorem rel_led {K : PySem.W.Frag} {L L' : Led} {ε : Ev} {σ : L2.St} {H H' : Hp} (R : Rel K L ε σ H) (g : Grow H L H' L') (k : Keeps L L') (l : LOk K L' H') : Rel K L' ε σ H' := R.grow g k l
theorem GOwn.use {g : TG} {vs : List Nat} (o : GOwn g vs) {v : V} {σ : L2.St} {H : Hp} {Q : L2.St → Hp → Prop} (q : g v (wipe σ vs) H Q) : g v (wipe σ vs) H fun σ2 H2 => wipe σ2 vs = wipe σ vs ∧ Q σ2 H2 := by
  have z := o v (wipe σ vs) H Q q
  rw [wipe_wipe] at z
  exact z
theorem keeps_plus {L : Led} {p : Addr} {a b : List PyData} : Keeps (plus L p a) (plus L p b) := fun x h => by
  rw [plus_ks L p b a]
  exact h
section
variable {C : Cz} {ε : Ev} {L : Led} {k : Rs → Led → Prop} {wi wi1 : TI} {g g1 : TG} {tt tt1 : TT} {te : TE} {vs vs1 : List Nat}
/-- [e for a in s if .. for b in t if ..]: I by the outer turn and the list so far, J by the inner one -/
theorem cp_lc2 (h : CI C wi ε L fun ds L1 => ∃ I : Nat → List PyData → Prop, I 0 [] ∧
      (∀ i d acc0 p, ds[i]? = some d → I i acc0 → p ∉ L1.ks → CG (C0 C.K) g (.dat d) (wipeE ε vs) (plus L1 p acc0) fun ε2 L2 => L2 = plus L1 p acc0 ∧
        CT (C0 C.K) tt ε2 L2 fun b L3 => L3 = plus L1 p acc0 ∧ if b = true then CI (C0 C.K) wi1 ε2 L3 fun es L4 => L4 = plus L1 p acc0 ∧ ∃ J : Nat → List PyData → Prop, J 0 acc0 ∧
          (∀ j e acc, es[j]? = some e → J j acc → CG (C0 C.K) g1 (.dat e) (wipeE ε2 vs1) (plus L1 p acc) fun ε3 L5 => L5 = plus L1 p acc ∧
            CT (C0 C.K) tt1 ε3 L5 fun b L6 => L6 = plus L1 p acc ∧ if b = true then acc.length < sizeLine ∧ CP (C0 C.K) te ε3 L6 fun r L7 => L7 = plus L1 p acc ∧ ∃ y, r = .dat y ∧ J (j + 1) (acc ++ [y]) else J (j + 1) acc) ∧
          ∀ acc, J es.length acc → I (i + 1) acc
        else I (i + 1) acc0) ∧
      ∀ acc, I ds.length acc → k (.dat (.list acc)) L1) (ho : GOwn g vs) (ho1 : GOwn g1 vs1) : CP C (tLc2 wi g tt wi1 g1 tt1 te vs vs1) ε L k := fun σ H Q R X z =>
  h σ H _ R X fun J ds L1 H1 g1' k1 R1 J1 ⟨I, i0, hs, hd⟩ D hD => by
    have hDn : D ∉ L1.ks := R1.led.fresh hD
    refine ⟨fun i m H' => m = ds.length - i ∧ i ≤ ds.length ∧ ∃ acc, I i acc ∧ Grow H1 L1 H' (plus L1 D acc) ∧ LOk C.K (plus L1 D acc) H', ⟨_, rfl, Nat.zero_le _, [], i0, grow_own hD, R1.led.own hD .nil⟩, ?_⟩
    rintro i m H' ⟨rfl, hi, acc, hI, g', l'⟩
    obtain ⟨js, jg⟩ := J1 _ H' g' l' i
    have RW : Rel C.K (plus L1 D acc) (wipeE ε vs) (wipe σ vs) H' := (rel_wipe R1 vs).grow g' keeps_own l'
    by_cases hl : i < ds.length
    · have hx : ds[i]? = some ds[i] := List.getElem?_eq_getElem hl
      obtain ⟨j1, j2⟩ := jg _ hx
      refine .inr ⟨j1, fun H2 => i + 1 ≤ ds.length ∧ ∃ acc2, I (i + 1) acc2 ∧ Grow H1 L1 H2 (plus L1 D acc2) ∧ LOk C.K (plus L1 D acc2) H2, fun H2 ⟨a, b⟩ => ⟨ds.length - (i + 1), by omega, rfl, a, b⟩, fun v H2 y => ?_⟩
      obtain ⟨g2, l2, rp⟩ := j2 v H2 y
      refine ho.use ?_
      refine hs i _ acc D hx hI hDn v (wipe σ vs) H2 _ (RW.grow g2 (Keeps.refl _) l2) rp fun ε3 L3 σ3 H3 g3 k3 R3 ⟨e3, q3⟩ => ?_
      subst e3
      refine q3 σ3 H3 _ R3 exOk0 fun b L4 H4 g4 k4 R4 ⟨e4, q4⟩ => ?_
      subst e4
      have gg := g'.trans (g2.trans (g3.trans g4))
      cases b with
      | false =>
        rw [if_neg (by decide)] at q4 ⊢
        exact ⟨hl, acc, q4, gg, R4.led⟩
      | true =>
        rw [if_pos rfl] at q4 ⊢
        refine q4 σ3 H4 _ R4 exOk0 fun J2 es L5 H5 g5 k5 R5 JO ⟨e5, Iv, v0, vs', vd⟩ => ?_
        subst e5
        have gg5 := gg.trans g5
        refine ⟨fun j m H' => m = es.length - j ∧ j ≤ es.length ∧ ∃ acc2, Iv j acc2 ∧ Grow H5 (plus L1 D acc) H' (plus L1 D acc2) ∧ LOk C.K (plus L1 D acc2) H', ⟨_, rfl, Nat.zero_le _, acc, v0, Grow.refl _ _, R5.led⟩, ?_⟩
        rintro j m H' ⟨rfl, hj, acc2, hV, g', l'⟩
        obtain ⟨js', jg'⟩ := JO _ H' g' l' j
        have RW5 : Rel C.K (plus L1 D acc2) (wipeE ε3 vs1) (wipe σ3 vs1) H' := (rel_wipe R5 vs1).grow g' keeps_plus l'
        by_cases hl2 : j < es.length
        · have hx2 : es[j]? = some es[j] := List.getElem?_eq_getElem hl2
          obtain ⟨j3, j4⟩ := jg' _ hx2
          refine .inr ⟨j3, fun H2 => j + 1 ≤ es.length ∧ ∃ acc3, Iv (j + 1) acc3 ∧ Grow H5 (plus L1 D acc) H2 (plus L1 D acc3) ∧ LOk C.K (plus L1 D acc3) H2, fun H2 ⟨a, b⟩ => ⟨es.length - (j + 1), by omega, rfl, a, b⟩, fun v H2 y => ?_⟩
          obtain ⟨g7, l7, rp7⟩ := j4 v H2 y
          refine ho1.use ?_
          refine vs' j _ acc2 hx2 hV v (wipe σ3 vs1) H2 _ (RW5.grow g7 (Keeps.refl _) l7) rp7 fun ε6 L6 σ6 H6 g6 k6 R6 ⟨e6, q6⟩ => ?_
          subst e6
          refine q6 σ6 H6 _ R6 exOk0 fun b L8 H8 g8 k8 R8 ⟨e8, q8⟩ => ?_
          subst e8
          have gg8 := g'.trans (g7.trans (g6.trans g8))
          cases b with
          | false =>
            rw [if_neg (by decide)] at q8 ⊢
            exact ⟨hl2, acc2, q8, gg8, R8.led⟩
          | true =>
            rw [if_pos rfl] at q8 ⊢
            refine q8.2 σ6 H8 _ R8 exOk0 fun w r L9 H9 g9 k9 R9 o9 ⟨e9, yd, er, q9⟩ => ?_
            subst e9 er
            obtain ⟨xs, ex, hxs⟩ := R9.led.isLst (List.mem_append_right _ List.mem_cons_self)
            exact ⟨xs, ex, by rw [rpAll_len hxs]; exact q8.1, hl2, acc2 ++ [yd], q9, (gg8.trans g9).trans grow_app, R9.led.app ex o9⟩
        · have e : j = es.length := by omega
          subst e
          exact .inl ⟨js' rfl, hl, acc2, vd acc2 hV, gg5.trans g', l'⟩
    · have e : i = ds.length := by omega
      subst e
      obtain ⟨xs, ex, hxs⟩ := l'.isLst (List.mem_append_right _ List.mem_cons_self)
      have l2 : LOk C.K L1 H' := l'.drop
      have g2 : Grow H1 L1 H' L1 := ⟨g'.old, fun a ha => .inl ha⟩
      exact .inl ⟨js rfl, z (.ref D) (.dat (.list acc)) L1 H' (g1'.trans g2) k1 (R1.grow g2 (Keeps.refl _) l2) (.lst (by rw [hid_out hDn]; exact ex) (rpAll_mono ext_drop hxs)) (hd acc hI)⟩
/-- the same, the list told as a function: f of both items -/
theorem cp_lc2F (es : PyData → List PyData) (f : PyData → PyData → Option PyData) (h : CI C wi ε L fun ds L1 => (ds.flatMap fun d => (es d).filterMap (f d)).length < sizeLine ∧
      (∀ d ∈ ds, ∀ acc p, p ∉ L1.ks → CG (C0 C.K) g (.dat d) (wipeE ε vs) (plus L1 p acc) fun ε2 L2 => L2 = plus L1 p acc ∧
        CI (C0 C.K) wi1 ε2 L2 fun es' L4 => L4 = plus L1 p acc ∧ es' = es d ∧
          (∀ e ∈ es d, ∀ acc, CG (C0 C.K) g1 (.dat e) (wipeE ε2 vs1) (plus L1 p acc) fun ε3 L5 => L5 = plus L1 p acc ∧
            CT (C0 C.K) tt1 ε3 L5 fun b L6 => L6 = plus L1 p acc ∧ if b = true then CP (C0 C.K) te ε3 L6 fun r L7 => L7 = plus L1 p acc ∧ ∃ y, r = .dat y ∧ f d e = some y else f d e = none)) ∧
      k (.dat (.list (ds.flatMap fun d => (es d).filterMap (f d)))) L1) (ho : GOwn g vs) (ho1 : GOwn g1 vs1) : CP C (tLc2 wi g tYes wi1 g1 tt1 te vs vs1) ε L k := by
  refine cp_lc2 ?_ ho ho1
  refine fun σ H R Rl X z => h σ H R Rl X fun J ds L' H' g1' k1 R1 J1 ⟨a, b, c⟩ => z J ds L' H' g1' k1 R1 J1 ⟨fun i acc => acc = (ds.take i).flatMap fun d => (es d).filterMap (f d), rfl, fun i d acc0 p hd hI hp => ?_, fun acc hI => ?_⟩
  · have hm : d ∈ ds := List.mem_of_getElem? hd
    have ht : ds.take (i + 1) = ds.take i ++ [d] := by rw [List.take_add_one, hd] <;> rfl
    have hz : acc0.length + ((es d).filterMap (f d)).length < sizeLine := by
      have e1 : acc0 = (ds.take i).flatMap fun d => (es d).filterMap (f d) := hI
      have e2 : (ds.take i ++ [d] ++ ds.drop (i + 1)) = ds := by rw [← ht]; exact List.take_append_drop _ _
      have e3 : (ds.flatMap fun d => (es d).filterMap (f d)).length = acc0.length + ((es d).filterMap (f d)).length + ((ds.drop (i + 1)).flatMap fun d => (es d).filterMap (f d)).length := by
        rw [← e2, List.flatMap_append, List.flatMap_append, List.length_append, List.length_append, ← e1]
        rw [e2]
        simp
      omega
    intro v σ2 H2 Q2 R2 o2 z2
    refine b d hm acc0 p hp v σ2 H2 Q2 R2 o2 fun ε3 L3 σ3 H3 g3 k3 R3 ⟨e3, q3⟩ => z2 ε3 L3 σ3 H3 g3 k3 R3 ⟨e3, ?_⟩
    intro σ4 H4 Q4 R4 X4 z4
    refine z4 true L3 H4 (Grow.refl _ _) (Keeps.refl _) R4 ⟨e3, ?_⟩
    rw [if_pos rfl]
    intro σ5 H5 Rr5 R5 X5 z5
    refine q3 σ5 H5 Rr5 R5 X5 fun J5 es5 L6 H6 g6 k6 R6 J6 ⟨e6, ee, b6⟩ => z5 J5 es5 L6 H6 g6 k6 R6 J6 ⟨e6, ?_⟩
    subst ee
    refine ⟨fun j acc => acc = acc0 ++ ((es d).take j).filterMap (f d), by simp, fun j e acc he hJ => ?_, fun acc hJ => ?_⟩
    · have hme : e ∈ es d := List.mem_of_getElem? he
      have ht2 : (es d).take (j + 1) = (es d).take j ++ [e] := by rw [List.take_add_one, he] <;> rfl
      intro v7 σ7 H7 Q7 R7 o7 z7
      refine b6 e hme acc v7 σ7 H7 Q7 R7 o7 fun ε8 L8 σ8 H8 g8 k8 R8 ⟨e8, q8⟩ => z7 ε8 L8 σ8 H8 g8 k8 R8 ⟨e8, CT.mono q8 fun bb L9 ⟨e9, q9⟩ => ⟨e9, ?_⟩⟩
      have hJ' : acc = acc0 ++ ((es d).take j).filterMap (f d) := hJ
      cases bb with
      | true =>
        rw [if_pos rfl] at q9 ⊢
        refine ⟨?_, CP.mono q9 fun r L5 ⟨e5, y, er, ey⟩ => ⟨e5, y, er, ?_⟩⟩
        · have : (((es d).take j).filterMap (f d)).length ≤ ((es d).filterMap (f d)).length := ((List.take_sublist j (es d)).filterMap (f d)).length_le
          rw [hJ', List.length_append]
          omega
        · show acc ++ [y] = acc0 ++ ((es d).take (j + 1)).filterMap (f d)
          rw [ht2, List.filterMap_append, hJ', List.filterMap_cons, ey, List.append_assoc]
          rfl
      | false =>
        rw [if_neg (by decide)] at q9 ⊢
        show acc = acc0 ++ ((es d).take (j + 1)).filterMap (f d)
        rw [ht2, List.filterMap_append, hJ', List.filterMap_cons, q9]
        show _ = acc0 ++ (_ ++ [])
        rw [List.append_nil]
    · have hJ' : acc = acc0 ++ ((es d).take (es d).length).filterMap (f d) := hJ
      show acc = (ds.take (i + 1)).flatMap fun d => (es d).filterMap (f d)
      have hI' : acc0 = (ds.take i).flatMap fun d => (es d).filterMap (f d) := hI
      rw [hJ', List.take_length, ht, List.flatMap_append, hI', List.flatMap_singleton]
  · have e : acc = (ds.take ds.length).flatMap fun d => (es d).filterMap (f d) := hI
    rw [e, List.take_length]
    exact c
end
end Z

set_option Elab.async false
set_option linter.all false
set_option maxRecDepth 100000
set_option maxHeartbeats 2000000
namespace Z
open PySem PySem.Spec PyProof.Rows L2
/-! ### enumerate of a list, a tuple, a text -/
theorem meets_enum1 {v : Value} {o : Obj} {Hs : Heap → Prop} (B : Begins v o Hs) :
    Meets (Builtin.«enumerate.__new__» ⟨[.type "enumerate", v], []⟩) (fun _ R s => Hs s.heap ∧
      R (.ok (.ret (.ref (s.heap.push o).objs.size))) { s with heap := (s.heap.push o).push { cls := .type "enumerate", data := .fields #[.none, .bool false, .ref s.heap.objs.size, rawInt 0, .none, .none] } }) :=
  .of_wp fun prog w A R s hh => by
    obtain ⟨hp, g, d, tk, os⟩ := s
    obtain ⟨hs, hr⟩ := hh
    have hsub := sub_enumerate
    have it : ∀ {A' : Around} {E : Value → Shared → Prop} {Q : Value → Shared → Prop}, Q (.ref hp.objs.size) ⟨hp.push o, g, d, tk, os⟩ → wpAny (model prog w) A' (pyIter v) Q E ⟨hp, g, d, tk, os⟩ :=
      fun q => B.iter prog w _ _ ⟨hp, g, d, tk, os⟩ _ hs q
    wp_walk using it
    refine wpAny_stack_any fun st => wpAny_pure ?_
    split
    · rename_i c _ _ _ _ _
      cases (c == Value.type "enumerate") <;> (wp_walk using it; exact ⟨_, rfl, hr⟩)
    · wp_walk using it
      exact ⟨_, rfl, hr⟩
theorem enum1_begins {prog : Program} {w : World} {A : Around} {E : Value → Shared → Prop} {s : Shared} {v : Value} {o : Obj} {Hs : Heap → Prop} {Q : Value → Shared → Prop} (B : Begins v o Hs) (h1 : Hs s.heap)
    (h : ∀ h', IsEnum h' (s.heap.objs.size + 1) s.heap.objs.size 0 .none → h'.get? s.heap.objs.size = some o → h'.objs.size = s.heap.objs.size + 2 → (∀ b o, s.heap.get? b = some o → h'.get? b = some o) → Q (.ref (s.heap.objs.size + 1)) { s with heap := h' }) :
    wpAny (model prog w) A (call (.type "enumerate") [v]) Q E s := by
  refine callType_new F.called_enumerate (by decide) (F.typeCall_enumerate_1 _) (F.newCall_enumerate_1 _) (fun obj => F.args_object_init_2 obj _) F.entry_enumerate_new (meets_enum1 B) ⟨h1, ?_⟩
  have sz : (s.heap.push o).objs.size = s.heap.objs.size + 1 := Heap.size_push ..
  show _ ∧ _
  rw [sz]
  have en : IsEnum ((s.heap.push o).push { cls := .type "enumerate", data := .fields #[.none, .bool false, .ref s.heap.objs.size, rawInt 0, .none, .none] }) (s.heap.objs.size + 1) s.heap.objs.size 0 .none := by
    have q := Heap.get?_push_size (s.heap.push o) (o := { cls := .type "enumerate", data := .fields #[.none, .bool false, .ref s.heap.objs.size, rawInt 0, .none, .none] }) rfl
    rw [sz] at q
    exact q
  exact ⟨⟨_, en, rfl⟩, h _ en (Heap.get?_push_of_some _ (Heap.get?_push_size _ B.free)) (by rw [Heap.size_push, sz]) fun b u x => Heap.get?_push_of_some _ (Heap.get?_push_of_some _ x)⟩
/-- what is asked of a walked value: where its iterator's own cell stands (Si), what stands by itself (Hs) -/
structure Src (P : Nat → Value → Prop) (n : Nat) (it : Addr) (fs : List Addr) (Si : Nat → Heap → Prop) (Hs : Heap → Prop) : Prop where
  dr : ∀ (prog : Program) (w : World) (A : Around), A.handled = none → Draws prog w A it (it :: fs) n P fun i h => Si i h ∧ Hs h
  keep : ∀ i h h', Si i h → (∀ o, h.get? it = some o → h'.get? it = some o) → Si i h'
  live : ∀ i h, Si i h → ∃ o, h.get? it = some o ∧ ∀ v, o.data ≠ .cell v
/-- an iterator of pairs over a value: at each turn the value is told again -/
structure ItE (K : PySem.W.Frag) (J : It) (it : Addr) (fs : List Addr) (Si : Nat → Heap → Prop) : Prop where
  go : ∀ (X : Cx), X.K = K → ∀ pins σ H s i, Inv X pins σ H s → J.go i H → ∃ P n Hs, Src P n it fs Si Hs ∧ i < n ∧ Hs s.heap ∧ ∀ u, P i u → ∃ x, RelV x u ∧ ∀ T, H T = none → J.yld i H (.ref T) (upd H T (.tup [.int (i : Int), x]))
  stop : ∀ (X : Cx), X.K = K → ∀ pins σ H s i, Inv X pins σ H s → J.stop i H → ∃ P Hs, Src P i it fs Si Hs ∧ Hs s.heap
  keep : ∀ i h h', Si i h → (∀ o, h.get? it = some o → h'.get? it = some o) → Si i h'
  live : ∀ i h, Si i h → ∃ o, h.get? it = some o ∧ ∀ v, o.data ≠ .cell v
theorem turn_enumG {P : Program} {w : World} {K : PySem.W.Frag} {elts : List Expr} {kk : Nat} {tpos : Pos} {J : It} {e it : Addr} {fs : List Addr} {Si : Nat → Heap → Prop} (Y : ItE K J it fs Si) (hei : e ≠ it) (hef : e ∉ fs) :
    Turn P w K (.Tuple elts kk tpos) J [e, it] e (fun i h => (∃ old, IsEnum h e it ((i : Nat) : Int) old) ∧ Si i h) where
  mem := by simp
  obj := fun i h st b hb => by
    obtain ⟨⟨old, he⟩, si⟩ := st
    rcases List.mem_cons.mp hb with z | z
    · subst z
      exact ⟨_, he, fun v q => nomatch q⟩
    · rw [List.mem_singleton.mp z]
      exact Y.live i h si
  keep := fun i h h' st k => let ⟨⟨old, he⟩, si⟩ := st; ⟨⟨old, k e (by simp) _ he⟩, Y.keep i h h' si fun o q => k it (by simp) o q⟩
  item := by
    intro X hP hw hK hc i pins s σ H E I hf st hg
    subst hP hw
    obtain ⟨⟨old, he⟩, si⟩ := st
    obtain ⟨Pi, n, Hs, S, hi, hs, hy⟩ := Y.go X hK pins σ H s i I hg
    have G := GoesN.enumFrom (elts := elts) (x1 := kk) (pos := tpos) 0 (S.dr X.prog X.w X.A.in1 (I.ok.hd hc)) e hei (by simp only [List.mem_cons, not_or]; exact ⟨hei, hef⟩) List.mem_cons_self
    have hel : e < s.heap.objs.size := Heap.lt_size he
    have hil : it < s.heap.objs.size := by obtain ⟨o, q, _⟩ := Y.live i _ si; exact Heap.lt_size q
    refine wpAny_mono (G.goes i s (fun u s2 => ∃ x H', Inv X pins σ H' s2 ∧ RelV x u ∧ J.yld i H x H' ∧ ((∃ old, IsEnum s2.heap e it ((i + 1 : Nat) : Int) old) ∧ Si (i + 1) s2.heap) ∧ ∀ b ∈ [e, it], H' b = none) E hi ⟨⟨old, by rw [Int.zero_add]; exact he⟩, si, hs⟩ fun v h' tk yv st' hk _ => ?_) (fun r s1 ⟨v, a, b⟩ => ⟨v, a, b⟩) fun _ _ z => z
    obtain ⟨T, t, u, rfl, hT, hp, hTup⟩ := yv
    obtain ⟨x, rx, hyld⟩ := hy u hp
    have fT : H T = none := I.hok.fresh hT
    have new : ObjOk X.prog X.w (upd H T (.tup [.int (i : Nat), x])) h' T (.tup [.int (i : Nat), x]) := by
      refine ⟨by show 2 ≤ sizeLine; decide, [.int (0 + (i : Int)) t, u], .cons ⟨t, by rw [Int.zero_add]⟩ (.cons rx .nil), hTup⟩
    have I1 : Inv X pins σ (upd H T (.tup [.int (i : Nat), x])) { s with heap := h', toks := tk } := I.turnedNew (ch := [e, it]) (fun b ob hb q => hk b ob hb q) hf hT new
    refine ⟨.ref T, _, I1, rfl, hyld T fT, ⟨?_, st'.2.1⟩, fun b hb => ?_⟩
    · obtain ⟨⟨old', q⟩, _⟩ := st'
      rw [Int.zero_add] at q
      exact ⟨old', q⟩
    · have hb' : b < s.heap.objs.size := by
        rcases List.mem_cons.mp hb with z | z
        · rw [z]; exact hel
        · rw [List.mem_singleton.mp z]; exact hil
      rw [upd_ne (Nat.ne_of_lt (Nat.lt_of_lt_of_le hb' hT))]
      exact (hf b hb).1
  done := by
    intro X hP hw hK hc i pins s σ H E I hf st hg
    subst hP hw
    obtain ⟨⟨old, he⟩, si⟩ := st
    obtain ⟨Pi, Hs, S, hs⟩ := Y.stop X hK pins σ H s i I hg
    have G := GoesN.enumFrom (elts := elts) (x1 := kk) (pos := tpos) 0 (S.dr X.prog X.w X.A.in1 (I.ok.hd hc)) e hei (by simp only [List.mem_cons, not_or]; exact ⟨hei, hef⟩) List.mem_cons_self
    exact G.stops s (fun s1 => Inv X pins σ H s1) E ⟨⟨old, by rw [Int.zero_add]; exact he⟩, si, hs⟩ fun h' tk hk _ => I.turnedL (ch := [e, it]) (fun b ob hb q => hk b ob hb q) hf
  self := fun A i s Q E st h => let ⟨⟨_, he⟩, _⟩ := st; wpAny_pyIter_enum he h

/-! the three kinds of sources -/
/-- a value that is walked: a list, a tuple, a text; xs its items -/
inductive Kd where
  | l (a : Addr) | t (a : Addr) | s (x : Str)
def Kd.v : Kd → V
  | .l a => .ref a
  | .t a => .ref a
  | .s x => .str x
/-- its items at H -/
def Kd.At (K : PySem.W.Frag) (H : Hp) (xs : List V) : Kd → Prop
  | .l a => SqL K H a xs
  | .t a => SqT K H a xs
  | .s x => xs = x.cps.toList.map fun c => V.str ⟨#[c]⟩
def Kd.fs : Kd → List Addr
  | .l a => [a]
  | .t a => [a]
  | .s _ => []
/-- its iterator's own cell at turn i -/
def Kd.Si (it : Addr) (k : Kd) (u : Value) (i : Nat) (h : Heap) : Prop := match k with
  | .l a => it ≠ a ∧ h.IsListIter it a i
  | .t a => it ≠ a ∧ h.IsTupleIter it a i
  | .s x => ∃ t, u = .str x t ∧ h.IsStrIter it (strIterType x) x t i
theorem kd_src {X : Cx} {pins : List (Addr × Obj)} {σ : L2.St} {H : Hp} {s : Shared} {xs : List V} (k : Kd) (u : Value) (ru : RelV k.v u) (it : Addr) (hne : ∀ a ∈ k.fs, it ≠ a) (I : Inv X pins σ H s) (h : k.At X.K H xs) :
    ∃ (P : Nat → Value → Prop) (Hs : Heap → Prop) (o : Obj), Begins u o Hs ∧ Hs s.heap ∧ (∀ h', h'.get? it = some o → k.Si it u 0 h') ∧ Src P xs.length it k.fs (k.Si it u) Hs ∧ ∀ i u, P i u → ∃ x, RelV x u ∧ xs[i]? = some x := by
  have hget : ∀ {its : List Value}, Vals xs its → ∀ (i : Nat) (u : Value), its.toArray[i]? = some u → ∃ x, RelV x u ∧ xs[i]? = some x := fun {its} rv i u e => by
    have hl := rv.length
    have e' : its[i]? = some u := by simpa using e
    have hi : i < xs.length := by rw [hl]; exact (List.getElem?_eq_some_iff.mp e').1
    obtain ⟨w, e2, r2⟩ := rv.get (List.getElem?_eq_getElem hi)
    rw [e'] at e2
    cases e2
    exact ⟨_, r2, List.getElem?_eq_getElem hi⟩
  cases k with
  | l a =>
    obtain rfl : u = Value.ref a := ru
    have hn : it ≠ a := hne a List.mem_cons_self
    obtain ⟨its, rv, p, hz⟩ := I.list h
    have hl : xs.length = its.toArray.size := by rw [List.size_toArray]; exact rv.length
    refine ⟨fun i u => its.toArray[i]? = some u, fun h => h.IsList a its.toArray, _, begins_list a its.toArray, p.isList, fun h' e => ⟨hn, _, e, rfl, rfl⟩, ?_, hget rv⟩
    rw [hl]
    refine ⟨fun prog w A hA => ?_, fun i h h' st hk => ⟨st.1, st.2.at fun o q => hk o q⟩, fun i h st => ?_⟩
    · have D := Draws.list (prog := prog) (w := w) hA it a (Ne.symm hn) its.toArray
      exact ⟨fun i h st => D.live i h ⟨st.1.2, st.2⟩, fun i h h' st hk => ⟨⟨st.1.1, (D.frame i h h' ⟨st.1.2, st.2⟩ hk).1⟩, (D.frame i h h' ⟨st.1.2, st.2⟩ hk).2⟩, fun i s Q E hi st q => D.item i s Q E hi ⟨st.1.2, st.2⟩ fun x h' tk p st' => q x h' tk p ⟨⟨hn, st'.1⟩, st'.2⟩, fun s Q E st q => D.done s Q E ⟨st.1.2, st.2⟩ q⟩
    · obtain ⟨_, o, ho, hc, hd⟩ := st
      exact ⟨o, ho, fun v q => by rw [hd] at q; cases q⟩
  | t a =>
    obtain rfl : u = Value.ref a := ru
    have hn : it ≠ a := hne a List.mem_cons_self
    obtain ⟨its, rv, p, hz⟩ := I.tuple h
    have hl : xs.length = its.toArray.size := by rw [List.size_toArray]; exact rv.length
    refine ⟨fun i u => its.toArray[i]? = some u, fun h => h.IsTuple a its.toArray, _, begins_tuple a its.toArray, p, fun h' e => ⟨hn, _, e, rfl, rfl⟩, ?_, hget rv⟩
    rw [hl]
    refine ⟨fun prog w A hA => ?_, fun i h h' st hk => ⟨st.1, st.2.at fun o q => hk o q⟩, fun i h st => ?_⟩
    · have D := Draws.tuple (prog := prog) (w := w) hA it a (Ne.symm hn) its.toArray
      exact ⟨fun i h st => D.live i h ⟨st.1.2, st.2⟩, fun i h h' st hk => ⟨⟨st.1.1, (D.frame i h h' ⟨st.1.2, st.2⟩ hk).1⟩, (D.frame i h h' ⟨st.1.2, st.2⟩ hk).2⟩, fun i s Q E hi st q => D.item i s Q E hi ⟨st.1.2, st.2⟩ fun x h' tk p st' => q x h' tk p ⟨⟨hn, st'.1⟩, st'.2⟩, fun s Q E st q => D.done s Q E ⟨st.1.2, st.2⟩ q⟩
    · obtain ⟨_, o, ho, hc, hd⟩ := st
      exact ⟨o, ho, fun v q => by rw [hd] at q; cases q⟩
  | s x =>
    obtain ⟨t, rfl⟩ := ru
    have hx : xs = x.cps.toList.map fun c => V.str ⟨#[c]⟩ := h
    have hl : xs.length = x.cps.size := by rw [hx, List.length_map, Array.length_toList]
    refine ⟨fun i v => ∃ c u, x.cps[i]? = some c ∧ v = .str ⟨#[c]⟩ u, fun _ => True, _, begins_text x t, trivial, fun h' e => ⟨t, rfl, _, e, rfl, rfl⟩, ?_, fun i u ⟨c, w, e, q⟩ => ?_⟩
    · rw [hl]
      refine ⟨fun prog w A hA => ?_, fun i h h' st hk => let ⟨t', a, b⟩ := st; let ⟨o, ho, hc, hd⟩ := b; ⟨t', a, o, hk o ho, hc, hd⟩, fun i h st => ?_⟩
      · have D := Draws.text (prog := prog) (w := w) hA it x t
        have of : ∀ {i h}, (Kd.s x).Si it (.str x t) i h → h.IsStrIter it (strIterType x) x t i := fun {i h} st => by
          obtain ⟨t', a, b⟩ := st
          cases a
          exact b
        exact ⟨fun i h st => D.live i h (of st.1), fun i h h' st hk => ⟨⟨t, rfl, D.frame i h h' (of st.1) hk⟩, trivial⟩, fun i s Q E hi st q => D.item i s Q E hi (of st.1) fun x h' tk p st' => q x h' tk p ⟨⟨t, rfl, st'⟩, trivial⟩, fun s Q E st q => D.done s Q E (of st.1) q⟩
      · obtain ⟨t', _, o, ho, hc, hd⟩ := st
        exact ⟨o, ho, fun v q => by rw [hd] at q; cases q⟩
    · subst q
      refine ⟨.str ⟨#[c]⟩, ⟨w, rfl⟩, ?_⟩
      rw [hx, List.getElem?_map, Array.getElem?_toList, e]
      rfl
end Z

set_option Elab.async false
set_option linter.all false
set_option maxRecDepth 100000
set_option maxHeartbeats 2000000
namespace Z
open PySem PySem.Spec PyProof.Rows L2
theorem Kd.lt {X : Cx} {pins : List (Addr × Obj)} {σ : L2.St} {H : Hp} {s : Shared} {xs : List V} (k : Kd) (I : Inv X pins σ H s) (h : k.At X.K H xs) : ∀ b ∈ k.fs, b < s.heap.objs.size := fun b hb => by
  cases k with
  | l a =>
    rw [List.mem_singleton.mp hb]
    obtain ⟨its, _, p, _⟩ := I.list h
    exact p.lt
  | t a =>
    rw [List.mem_singleton.mp hb]
    obtain ⟨its, _, p, _⟩ := I.tuple h
    exact p.lt
  | s x => cases hb
/-- pairs of a place and an item -/
def ItEk (K : PySem.W.Frag) (k : Kd) (xs : List V) : It :=
  ⟨fun i H => k.At K H xs ∧ i < xs.length, fun i H v H' => ∃ T x, v = .ref T ∧ H T = none ∧ H' = upd H T (.tup [.int (i : Int), x]) ∧ xs[i]? = some x, fun i H => k.At K H xs ∧ i = xs.length⟩
theorem itE_ok {K : PySem.W.Frag} (k : Kd) (u : Value) (ru : RelV k.v u) (xs : List V) (it : Addr) (hne : ∀ a ∈ k.fs, it ≠ a) : ItE K (ItEk K k xs) it k.fs (k.Si it u) where
  go := fun X hK pins σ H s i I hg => by
    subst hK
    obtain ⟨P, Hs, o, _, hs, _, S, get⟩ := kd_src k u ru it hne I hg.1
    refine ⟨P, xs.length, Hs, S, hg.2, hs, fun u p => ?_⟩
    obtain ⟨x, rx, e⟩ := get i u p
    exact ⟨x, rx, fun T hT => ⟨T, x, rfl, hT, rfl, e⟩⟩
  stop := fun X hK pins σ H s i I hg => by
    subst hK
    obtain ⟨P, Hs, o, _, hs, _, S, get⟩ := kd_src k u ru it hne I hg.1
    exact ⟨P, Hs, by rw [hg.2]; exact S, hs⟩
  keep := fun i h h' st hk => by
    cases k with
    | l a => exact ⟨st.1, st.2.at fun o q => hk o q⟩
    | t a => exact ⟨st.1, st.2.at fun o q => hk o q⟩
    | s x =>
      obtain ⟨t', a, o, ho, hc, hd⟩ := st
      exact ⟨t', a, o, hk o ho, hc, hd⟩
  live := fun i h st => by
    cases k with
    | l a =>
      obtain ⟨_, o, ho, hc, hd⟩ := st
      exact ⟨o, ho, fun v q => by rw [hd] at q; cases q⟩
    | t a =>
      obtain ⟨_, o, ho, hc, hd⟩ := st
      exact ⟨o, ho, fun v q => by rw [hd] at q; cases q⟩
    | s x =>
      obtain ⟨t', _, o, ho, hc, hd⟩ := st
      exact ⟨o, ho, fun v q => by rw [hd] at q; cases q⟩
def iEn (K : PySem.W.Frag) (ta : TA) : TI := fun σ H R => ta σ H fun vs H1 => ∃ (k : Kd) (xs : List V), vs = [k.v] ∧ k.At K H1 xs ∧ R (ItEk K k xs) H1
theorem pi_en {X : Cx} {e : Expr} {ta : TA} {p pos tpos : Pos} {elts : List Expr} {kk : Nat} (hg : Gl X "enumerate") (hm : X.mg "enumerate" = none) (ha : PA X [e] ta) (hs : starEach [e] X.env = [(false, eval e X.env)] := by rfl) :
    PI X (.Tuple elts kk tpos) (.Call (.Name "enumerate" p) [e] [] pos) (iEn X.K ta) := by
  refine ⟨fun pins s σ H R I h => ?_⟩
  refine Call_ (ld_blt I hg hm boot_enumerate (PyProof.Rows.callWith_type1 (thn (ha.run pos pins s σ H _ I h) fun us s1 ⟨vs, H1, I1, r1, q1⟩ => ?_) hs rfl))
  obtain ⟨k, xs, ex, hat, q⟩ := q1
  subst ex
  obtain ⟨u, rfl, r⟩ := Vals.one r1
  · skip
    have hne : ∀ a ∈ k.fs, s1.heap.objs.size ≠ a := fun a ha => Nat.ne_of_gt (k.lt I1 hat a ha)
    obtain ⟨P, Hs, o, B, hs', init, S, get⟩ := kd_src k u r s1.heap.objs.size hne I1 hat
    refine enum1_begins B hs' fun h' he hit hsz hk => wpAny_pyIter_enum he ?_
    have I2 : Inv X pins σ H1 { s1 with heap := h' } := I1.kept (t' := s1.toks) hk
    refine ⟨s1.heap.objs.size + 1, [s1.heap.objs.size + 1, s1.heap.objs.size], _, _, H1, rfl, I2, turn_enumG (itE_ok k u r xs s1.heap.objs.size hne) (Nat.succ_ne_self _) (fun hm => absurd (k.lt I1 hat _ hm) (Nat.not_lt.mpr (Nat.le_succ _))), ⟨⟨.none, he⟩, init h' hit⟩, fun b hb => ?_, q⟩
    have hle : s1.heap.objs.size ≤ b := by
      rcases List.mem_cons.mp hb with z | z
      · rw [z]
        exact Nat.le_succ _
      · rw [List.mem_singleton.mp z]
        exact Nat.le_refl _
    exact I1.fpOk hle (I1.hok.fresh hle)

/-! ### zip of two -/
def ItZk (K : PySem.W.Frag) (k k2 : Kd) (xs ys : List V) : It :=
  ⟨fun i H => k.At K H xs ∧ k2.At K H ys ∧ i < min xs.length ys.length, fun i H v H' => ∃ T x y, v = .ref T ∧ H T = none ∧ H' = upd H T (.tup [x, y]) ∧ xs[i]? = some x ∧ ys[i]? = some y, fun i H => k.At K H xs ∧ k2.At K H ys ∧ i = min xs.length ys.length⟩
theorem turn_zipG {P : Program} {w : World} {K : PySem.W.Frag} {elts : List Expr} {kk : Nat} {tpos : Pos} {k k2 : Kd} {xs ys : List V} {u u2 : Value} (ru : RelV k.v u) (ru2 : RelV k2.v u2) {z TI TO i1 i2 : Addr} (D : ZipSep2 z TI TO i1 i2 (i1 :: k.fs) (i2 :: k2.fs)) (n1 : ∀ a ∈ k.fs, i1 ≠ a) (n2 : ∀ a ∈ k2.fs, i2 ≠ a) :
    Turn P w K (.Tuple elts kk tpos) (ItZk K k k2 xs ys) [z, TI, TO, i1, i2] z (fun i h => IsZip h z TI TO .none ∧ IsTupOf2 h TI (.ref i1) (.ref i2) ∧ (∃ a1 a2, IsTupOf2 h TO a1 a2) ∧ k.Si i1 u i h ∧ k2.Si i2 u2 i h) where
  mem := by simp
  obj := fun i h st b hb => by
    obtain ⟨hz, h1, ⟨a1, a2, h2⟩, s1, s2⟩ := st
    have e' : b = z ∨ b = TI ∨ b = TO ∨ b = i1 ∨ b = i2 := by simpa using hb
    rcases e' with rfl | rfl | rfl | rfl | rfl
    · exact ⟨_, hz, fun v q => nomatch q⟩
    · exact ⟨_, h1, fun v q => nomatch q⟩
    · exact ⟨_, h2, fun v q => nomatch q⟩
    · exact (itE_ok (K := K) k u ru xs _ n1).live i h s1
    · exact (itE_ok (K := K) k2 u2 ru2 ys _ n2).live i h s2
  keep := fun i h h' st hk => by
    obtain ⟨hz, h1, ⟨a1, a2, h2⟩, s1, s2⟩ := st
    exact ⟨hk z (by simp) _ hz, hk TI (by simp) _ h1, ⟨a1, a2, hk TO (by simp) _ h2⟩, (itE_ok (K := K) k u ru xs _ n1).keep i h h' s1 fun o q => hk i1 (by simp) o q, (itE_ok (K := K) k2 u2 ru2 ys _ n2).keep i h h' s2 fun o q => hk i2 (by simp) o q⟩
  item := by
    intro X hP hw hK hc i pins s σ H E I hf st hg
    subst hP hw hK
    obtain ⟨hz, h1, h2, s1, s2⟩ := st
    obtain ⟨P1, Hs1, _, _, hs1, _, S1, get1⟩ := kd_src k u ru i1 n1 I hg.1
    obtain ⟨P2, Hs2, _, _, hs2, _, S2, get2⟩ := kd_src k2 u2 ru2 i2 n2 I hg.2.1
    have G := GoesN.zip2 (elts := elts) (x1 := kk) (pos := tpos) D (S1.dr X.prog X.w X.A.in1 (I.ok.hd hc)) (S2.dr X.prog X.w X.A.in1 (I.ok.hd hc))
    have lt : ∀ b ∈ [z, TI, TO, i1, i2], b < s.heap.objs.size := fun b hb => by
      have e' : b = z ∨ b = TI ∨ b = TO ∨ b = i1 ∨ b = i2 := by simpa using hb
      rcases e' with rfl | rfl | rfl | rfl | rfl
      · exact Heap.lt_size hz
      · exact Heap.lt_size h1
      · obtain ⟨_, _, q⟩ := h2
        exact Heap.lt_size q
      · obtain ⟨o, q, _⟩ := (itE_ok (K := X.K) k u ru xs _ n1).live i _ s1
        exact Heap.lt_size q
      · obtain ⟨o, q, _⟩ := (itE_ok (K := X.K) k2 u2 ru2 ys _ n2).live i _ s2
        exact Heap.lt_size q
    refine wpAny_mono (G.goes i s (fun u' s2 => ∃ x H', Inv X pins σ H' s2 ∧ RelV x u' ∧ (ItZk X.K k k2 xs ys).yld i H x H' ∧ (IsZip s2.heap z TI TO .none ∧ IsTupOf2 s2.heap TI (.ref i1) (.ref i2) ∧ (∃ a1 a2, IsTupOf2 s2.heap TO a1 a2) ∧ k.Si i1 u (i + 1) s2.heap ∧ k2.Si i2 u2 (i + 1) s2.heap) ∧ ∀ b ∈ [z, TI, TO, i1, i2], H' b = none) E hg.2.2 ⟨hz, h1, h2, ⟨s1, hs1⟩, ⟨s2, hs2⟩⟩ fun v h' tk yv st' hk _ => ?_) (fun r s1 ⟨v, a, b⟩ => ⟨v, a, b⟩) fun _ _ z => z
    obtain ⟨T, x', y', rfl, hT, hx, hy, hTup⟩ := yv
    obtain ⟨x, rx, ex⟩ := get1 i _ hx
    obtain ⟨y, ry, ey⟩ := get2 i _ hy
    have fT : H T = none := I.hok.fresh hT
    have new : ObjOk X.prog X.w (upd H T (.tup [x, y])) h' T (.tup [x, y]) := ⟨by show 2 ≤ sizeLine; decide, [x', y'], .cons rx (.cons ry .nil), hTup⟩
    have I1 : Inv X pins σ (upd H T (.tup [x, y])) { s with heap := h', toks := tk } := I.turnedNew (ch := [z, TI, TO, i1, i2]) (fun b ob hb q => hk b ob (fun hm => hb (by
      have e' : b = z ∨ b = TO ∨ b = i1 ∨ b = i2 := by simpa using hm
      rcases e' with e' | e' | e' | e' <;> simp [e'])) q) hf hT new
    refine ⟨.ref T, _, I1, rfl, ⟨T, x, y, rfl, fT, rfl, ex, ey⟩, ⟨st'.1, st'.2.1, st'.2.2.1, st'.2.2.2.1.1, st'.2.2.2.2.1⟩, fun b hb => ?_⟩
    rw [upd_ne (Nat.ne_of_lt (Nat.lt_of_lt_of_le (lt b hb) hT))]
    exact (hf b hb).1
  done := by
    intro X hP hw hK hc i pins s σ H E I hf st hg
    subst hP hw hK
    obtain ⟨hz, h1, h2, s1, s2⟩ := st
    obtain ⟨P1, Hs1, _, _, hs1, _, S1, get1⟩ := kd_src k u ru i1 n1 I hg.1
    obtain ⟨P2, Hs2, _, _, hs2, _, S2, get2⟩ := kd_src k2 u2 ru2 i2 n2 I hg.2.1
    have G := GoesN.zip2 (elts := elts) (x1 := kk) (pos := tpos) D (S1.dr X.prog X.w X.A.in1 (I.ok.hd hc)) (S2.dr X.prog X.w X.A.in1 (I.ok.hd hc))
    have ei := hg.2.2
    subst ei
    exact G.stops s (fun s1 => Inv X pins σ H s1) E ⟨hz, h1, h2, ⟨s1, hs1⟩, ⟨s2, hs2⟩⟩ fun h' tk hk _ => I.turnedL (ch := [z, TI, TO, i1, i2]) (fun b ob hb q => hk b ob (fun hm => hb (by
      have e' : b = z ∨ b = TO ∨ b = i1 ∨ b = i2 := by simpa using hm
      rcases e' with e' | e' | e' | e' <;> simp [e'])) q) hf
  self := fun A i s Q E st h => wpAny_pyIter_zip st.1 h
def iZp (K : PySem.W.Frag) (ta : TA) : TI := fun σ H R => ta σ H fun vs H1 => ∃ (k k2 : Kd) (xs ys : List V), vs = [k.v, k2.v] ∧ k.At K H1 xs ∧ k2.At K H1 ys ∧ R (ItZk K k k2 xs ys) H1
theorem pi_zp {X : Cx} {e e2 : Expr} {ta : TA} {p pos tpos : Pos} {elts : List Expr} {kk : Nat} (hg : Gl X "zip") (hm : X.mg "zip" = none) (ha : PA X [e, e2] ta)
    (hs : starEach [e, e2] X.env = (false, eval e X.env) :: starEach [e2] X.env := by rfl) (hpl : (backTo pos (starEach [e2] X.env)).any (·.1) = false := by rfl) :
    PI X (.Tuple elts kk tpos) (.Call (.Name "zip" p) [e, e2] [] pos) (iZp X.K ta) := by
  refine ⟨fun pins s σ H R I h => ?_⟩
  refine Call_ (ld_blt I hg hm PyProof.Rows.boot_zip (PyProof.Rows.callWith_type1 (thn (ha.run pos pins s σ H _ I h) fun us s1 ⟨vs, H1, I1, r1, q1⟩ => ?_) hs hpl))
  obtain ⟨k, k2, xs, ys, ex, hat, hat2, q⟩ := q1
  subst ex
  obtain ⟨u, u2, rfl, r, r2⟩ := Vals.two r1
  · · skip
      have ne1 : ∀ a ∈ k.fs, s1.heap.objs.size ≠ a := fun a ha => Nat.ne_of_gt (k.lt I1 hat a ha)
      have ne2 : ∀ a ∈ k2.fs, s1.heap.objs.size + 1 ≠ a := fun a ha => Nat.ne_of_gt (Nat.lt_succ_of_lt (k2.lt I1 hat2 a ha))
      obtain ⟨P, Hs, o, B, hs', init, S, get⟩ := kd_src k u r s1.heap.objs.size ne1 I1 hat
      obtain ⟨P2, Hs2, o2, B2, hs2', init2, S2, get2⟩ := kd_src k2 u2 r2 (s1.heap.objs.size + 1) ne2 I1 hat2
      refine zip_begins2 B B2 hs' hs2' fun h' hz hTI hTO g1 g2 hsz hk => wpAny_pyIter_zip hz ?_
      have I2 : Inv X pins σ H1 { s1 with heap := h' } := I1.kept (t' := s1.toks) hk
      refine ⟨s1.heap.objs.size + 4, [s1.heap.objs.size + 4, s1.heap.objs.size + 2, s1.heap.objs.size + 3, s1.heap.objs.size, s1.heap.objs.size + 1], _, _, H1, rfl, I2, turn_zipG (xs := xs) (ys := ys) r r2 (zip_sep2 (k.lt I1 hat) (k2.lt I1 hat2)) ne1 ne2, ⟨hz, hTI, ⟨_, _, hTO⟩, init h' g1, init2 h' g2⟩, fun c hcm => ?_, q⟩
      have e' : c = s1.heap.objs.size + 4 ∨ c = s1.heap.objs.size + 2 ∨ c = s1.heap.objs.size + 3 ∨ c = s1.heap.objs.size ∨ c = s1.heap.objs.size + 1 := by simpa using hcm
      have hle : s1.heap.objs.size ≤ c := by
        rcases e' with z | z | z | z | z <;> rw [z]
        · exact Nat.le_add_right _ _
        · exact Nat.le_add_right _ _
        · exact Nat.le_add_right _ _
        · exact Nat.le_refl _
        · exact Nat.le_add_right _ _
      exact I1.fpOk hle (I1.hok.fresh hle)
end Z

set_option Elab.async false
set_option linter.all false
set_option maxRecDepth 100000
set_option maxHeartbeats 2000000
namespace Z
open PySem PySem.Spec PyProof.Rows L2
/-! ### enumerate and zip over data -/
def enumD (ds : List PyData) : List PyData := ds.zipIdx.map fun p => .tuple [.int (p.2 : Int), p.1]
def zipD (ds es : List PyData) : List PyData := List.zipWith (fun a b => .tuple [a, b]) ds es
section
variable {C : Cz} {ε : Ev} {L : Led} {te : TE} {ta : TA} {q : List PyData → Led → Prop}
theorem kd_of {K : PySem.W.Frag} {H : Hp} {v : V} {r : Rs} {ds : List PyData} (h : RsOk K L H v r) (s : SeqOf r ds) : ∃ (k : Kd) (xs : List V), v = k.v ∧ (∀ H', Ext (hid L H) H' → k.At K H' xs) ∧ RpAll K (hid L H) xs ds := by
  cases s with
  | lst =>
    cases h with
    | @lst a xs _ e ha => exact ⟨.l a, xs, rfl, fun H' x => SqL.of (x _ _ e), ha⟩
  | tup =>
    cases h with
    | @tup a xs _ e ha => exact ⟨.t a, xs, rfl, fun H' x => ext_t x e, ha⟩
  | str x =>
    cases h
    exact ⟨.s x, _, rfl, fun H' _ => rfl, rpAll_map _ fun c _ => .str _⟩
  | scr ns =>
    obtain ⟨a, e, hs⟩ := h
    exact ⟨.l a, _, e, fun H' x => ext_l x hs, rpAll_ints ns⟩
theorem rsAll_1 {K : PySem.W.Frag} {H : Hp} {vs : List V} {r : Rs} (o : RsAll K L H vs [r]) : ∃ v, vs = [v] ∧ RsOk K L H v r := by
  cases o with
  | cons a b =>
    cases b
    exact ⟨_, rfl, a⟩
theorem rsAll_2 {K : PySem.W.Frag} {H : Hp} {vs : List V} {r s : Rs} (o : RsAll K L H vs [r, s]) : ∃ v w, vs = [v, w] ∧ RsOk K L H v r ∧ RsOk K L H w s := by
  cases o with
  | cons a b =>
    obtain ⟨w, rfl, c⟩ := rsAll_1 b
    exact ⟨_, w, rfl, a, c⟩
theorem ci_en {K : PySem.W.Frag} (h : CA C ta ε L fun rs L1 => ∃ r ds, rs = [r] ∧ SeqOf r ds ∧ q (enumD ds) L1) (hK : C.K = K := by rfl) : CI C (iEn K ta) ε L q := fun σ H R Rl X z => by
  subst hK
  refine h σ H _ Rl X fun vs rs L1 H1 g1 k1 R1 o1 ⟨r, ds, er, hs, hq⟩ => ?_
  subst er
  obtain ⟨v, rfl, o⟩ := rsAll_1 o1
  obtain ⟨k, xs, rfl, hat, hx⟩ := kd_of o hs
  refine ⟨k, xs, rfl, hat _ hid_sub, z _ _ L1 H1 g1 k1 R1 (fun L' H' g l i => ?_) hq⟩
  have e : Ext (hid L1 H1) H' := g.ext.trans hid_sub
  have hl := rpAll_len hx
  refine ⟨fun hi => ⟨hat _ e, ?_⟩, fun d hd => ?_⟩
  · unfold enumD at hi
    rw [List.length_map, List.length_zipIdx] at hi
    omega
  · unfold enumD at hd
    rw [List.getElem?_map, List.getElem?_zipIdx] at hd
    cases e1 : ds[i]? with
    | none =>
      rw [e1] at hd
      cases hd
    | some d1 =>
      rw [e1] at hd
      cases hd
      obtain ⟨v, e2, r2⟩ := rpAll_get hx e1
      refine ⟨⟨hat _ e, (List.getElem?_eq_some_iff.mp e2).1⟩, fun w H2 ⟨T, x, ew, hT, eH, ex⟩ => ?_⟩
      subst ew eH
      rw [e2] at ex
      cases ex
      have gn : Grow H' L' (upd H' T (.tup [.int (i : Int), v])) L' := grow_new hT
      refine ⟨gn, l.new hT, .tup (SqT.of (by rw [hid_out (l.fresh hT)]; exact upd_same)) (.cons ?_ (.cons (rp_mono (g.ext.trans gn.ext) r2) .nil))⟩
      have e3 : (((0 + i : Nat) : Int)) = (i : Int) := by omega
      show Rp _ _ _ (.int (((0 + i : Nat) : Int)))
      rw [e3]
      exact .int _
theorem ci_zp {K : PySem.W.Frag} (h : CA C ta ε L fun rs L1 => ∃ r s ds es, rs = [r, s] ∧ SeqOf r ds ∧ SeqOf s es ∧ q (zipD ds es) L1) (hK : C.K = K := by rfl) : CI C (iZp K ta) ε L q := fun σ H R Rl X z => by
  subst hK
  refine h σ H _ Rl X fun vs rs L1 H1 g1 k1 R1 o1 ⟨r, s, ds, es, er, hs, hs2, hq⟩ => ?_
  subst er
  obtain ⟨v, v2, rfl, o, o2⟩ := rsAll_2 o1
  obtain ⟨k, xs, rfl, hat, hx⟩ := kd_of o hs
  obtain ⟨k2, ys, rfl, hat2, hy⟩ := kd_of o2 hs2
  refine ⟨k, k2, xs, ys, rfl, hat _ hid_sub, hat2 _ hid_sub, z _ _ L1 H1 g1 k1 R1 (fun L' H' g l i => ?_) hq⟩
  have e : Ext (hid L1 H1) H' := g.ext.trans hid_sub
  have hl := rpAll_len hx
  have hl2 := rpAll_len hy
  refine ⟨fun hi => ⟨hat _ e, hat2 _ e, ?_⟩, fun d hd => ?_⟩
  · unfold zipD at hi
    rw [List.length_zipWith] at hi
    omega
  · unfold zipD at hd
    rw [List.getElem?_zipWith] at hd
    cases e1 : ds[i]? with
    | none =>
      rw [e1] at hd
      cases hd
    | some d1 =>
      cases e2 : es[i]? with
      | none =>
        rw [e1, e2] at hd
        cases hd
      | some d2 =>
        rw [e1, e2] at hd
        cases hd
        obtain ⟨v, e3, r3⟩ := rpAll_get hx e1
        obtain ⟨u, e4, r4⟩ := rpAll_get hy e2
        refine ⟨⟨hat _ e, hat2 _ e, ?_⟩, fun w H2 ⟨T, x, y, ew, hT, eH, ex, ey⟩ => ?_⟩
        · have := (List.getElem?_eq_some_iff.mp e3).1
          have := (List.getElem?_eq_some_iff.mp e4).1
          omega
        subst ew eH
        rw [e3] at ex
        cases ex
        rw [e4] at ey
        cases ey
        have gn : Grow H' L' (upd H' T (.tup [v, u])) L' := grow_new hT
        exact ⟨gn, l.new hT, .tup (SqT.of (by rw [hid_out (l.fresh hT)]; exact upd_same)) (.cons (rp_mono (g.ext.trans gn.ext) r3) (.cons (rp_mono (g.ext.trans gn.ext) r4) .nil))⟩
end

/-! ### operators -/
def rAddZ (K : PySem.W.Frag) : R2 := fun x y H Q => rI0 (fun i j => .int (i + j)) x y H Q ∨ (∃ i j, x = .str i ∧ y = .str j ∧ i.length + j.length ≤ sizeLine ∧ Q (.str (i ++ j)) H) ∨ rCat x y H Q ∨ rCatA K x y H Q
theorem op_addZ {X : Cx} : OpR X (binaryOp .Add) (rAddZ X.K) := op_add.or (op_add_str.or (op_cat.or op_catA))
def rMulZ (K : PySem.W.Frag) : R2 := fun x y H Q => rI CMul (fun i j => .int (i * j)) x y H Q ∨ rRep x y H Q ∨ rRepT K x y H Q
theorem op_mulZ {X : Cx} : OpR X (binaryOp .Mult) (rMulZ X.K) := op_mul.or (op_rep.or op_repT)
def rLtZ : R2 := fun x y H Q => rI0 (fun i j => .bl (decide (i < j))) x y H Q ∨ ∃ i j, x = .str i ∧ y = .str j ∧ Q (.bl (decide (i.cps.toList < j.cps.toList))) H
theorem op_ltZ {X : Cx} : OpR X (compareOp .Lt) rLtZ := op_lt.or op_lt_str
def rEqZ (K : PySem.W.Frag) : R2 := fun x y H Q => rEq x y H Q ∨ rEqD K x y H Q
theorem op_eqZ {X : Cx} (hu : X.A.units + 64 < cLine) : OpR X (compareOp .Eq) (rEqZ X.K) := op_eq.or (op_eqD hu)
def rNeZ (K : PySem.W.Frag) : R2 := fun x y H Q => rNe x y H Q ∨ rNeD K x y H Q
theorem op_neZ {X : Cx} (hu : X.A.units + 64 < cLine) : OpR X (compareOp .NotEq) (rNeZ X.K) := op_ne.or (op_neD hu)
def rInZ (K : PySem.W.Frag) : R2 := fun x y H Q => (∃ (c : Nat) (z : Str), x = .str ⟨#[c]⟩ ∧ y = .str z ∧ Q (.bl (decide (c ∈ z.cps.toList))) H) ∨ rIn K false x y H Q
theorem op_inZ {X : Cx} : OpR X (compareOp .In) (rInZ X.K) := op_in_sign.or op_in_seq
def rNotInZ (K : PySem.W.Frag) : R2 := fun x y H Q => (∃ (c : Nat) (z : Str), x = .str ⟨#[c]⟩ ∧ y = .str z ∧ Q (.bl (!decide (c ∈ z.cps.toList))) H) ∨ rIn K true x y H Q
theorem op_notInZ {X : Cx} : OpR X (compareOp .NotIn) (rNotInZ X.K) := op_notIn_sign.or op_notIn_seq
def rIsZ : R2 := fun x y H Q => (y = .non ∧ Q (.bl (decide (x = .non))) H) ∨ rIsB x y H Q
theorem op_isZ {X : Cx} : OpR X (compareOp .Is) rIsZ := op_isN.or op_isBl
def rIsNotZ : R2 := fun x y H Q => (y = .non ∧ Q (.bl (!decide (x = .non))) H) ∨ rNotB x y H Q
theorem op_isNotZ {X : Cx} : OpR X (compareOp .IsNot) rIsNotZ := op_notN.or op_notBl
section
variable {C : Cz} {L : Led} {k : Rs → Led → Prop} {K : PySem.W.Frag}
/-- a value of both operands, nothing made -/
theorem od_val {r : R2} {x y z : Rs} (h : ∀ v w H, LOk C.K L H → RsOk C.K L H v x → RsOk C.K L H w y → ∃ u, RsOk C.K L H u z ∧ ∀ Q : VK, Q u H → r v w H Q) (q : k z L) : OD C r x y L k := fun v w H Q l a b f => by
  obtain ⟨u, o, g⟩ := h v w H l a b
  exact g Q (f u z L H (Grow.refl H L) (Keeps.refl L) l o q)
theorem od_int {g : Int → Int → Int} {i j : Int} (q : k (.dat (.int (g i j))) L) : OD C (rI0 fun a b => .int (g a b)) (.dat (.int i)) (.dat (.int j)) L k := od_val (fun v w H l a b => by
  cases a
  cases b
  exact ⟨.int (g i j), .int _, fun Q f => ⟨i, j, rfl, rfl, f⟩⟩) q
theorem od_intC {c : Int → Int → Prop} {g : Int → Int → Int} {i j : Int} (hc : c i j) (q : k (.dat (.int (g i j))) L) : OD C (rI c fun a b => .int (g a b)) (.dat (.int i)) (.dat (.int j)) L k := od_val (fun v w H l a b => by
  cases a
  cases b
  exact ⟨.int (g i j), .int _, fun Q f => ⟨i, j, rfl, rfl, hc, f⟩⟩) q
theorem od_cmp {g : Int → Int → Bool} {i j : Int} (q : k (.dat (.bool (g i j))) L) : OD C (rI0 fun a b => .bl (g a b)) (.dat (.int i)) (.dat (.int j)) L k := od_val (fun v w H l a b => by
  cases a
  cases b
  exact ⟨.bl (g i j), .bl _, fun Q f => ⟨i, j, rfl, rfl, f⟩⟩) q
theorem od_or1 {r r' : R2} {x y : Rs} (h : OD C r x y L k) : OD C (fun a b H Q => r a b H Q ∨ r' a b H Q) x y L k := fun v w H Q l a b f => .inl (h v w H Q l a b f)
theorem od_or2 {r r' : R2} {x y : Rs} (h : OD C r' x y L k) : OD C (fun a b H Q => r a b H Q ∨ r' a b H Q) x y L k := fun v w H Q l a b f => .inr (h v w H Q l a b f)
theorem od_add_int {i j : Int} (q : k (.dat (.int (i + j))) L) : OD C (rAddZ K) (.dat (.int i)) (.dat (.int j)) L k := od_or1 (od_int (g := fun a b => a + b) q)
theorem od_add_str {i j : Str} (h : i.length + j.length ≤ sizeLine) (q : k (.dat (.str (i ++ j))) L) : OD C (rAddZ K) (.dat (.str i)) (.dat (.str j)) L k := od_or2 (od_or1 (od_val (fun v w H l a b => by
  cases a
  cases b
  exact ⟨.str (i ++ j), .str _, fun Q f => ⟨i, j, rfl, rfl, h, f⟩⟩) q))
theorem od_add_lst {ds es : List PyData} (h : ds.length + es.length ≤ sizeLine) (q : k (.dat (.list (ds ++ es))) L) : OD C (rAddZ K) (.dat (.list ds)) (.dat (.list es)) L k := fun v w H Q l a b f => .inr (.inr (.inl (by
  cases a with
  | @lst p xs _ e ha =>
    cases b with
    | @lst p2 ys _ e2 hb =>
      refine ⟨p, p2, xs, ys, rfl, rfl, hid_sub _ _ e, hid_sub _ _ e2, by rw [rpAll_len ha, rpAll_len hb]; exact h, fun z hz => ?_⟩
      have g : Grow H L (upd H z (.lst (xs ++ ys))) L := grow_new hz
      exact f _ (.dat (.list (ds ++ es))) L _ g (Keeps.refl L) (l.new hz) (.lst (by rw [hid_out (l.fresh hz)]; exact upd_same) (rpAll_mono g.ext (rpAll_app ha hb))) q)))
theorem od_add_tup {ds es : List PyData} (h : ds.length + es.length ≤ sizeLine) (q : k (.dat (.tuple (ds ++ es))) L) (hK : C.K = K := by rfl) : OD C (rAddZ K) (.dat (.tuple ds)) (.dat (.tuple es)) L k := fun v w H Q l a b f => .inr (.inr (.inr (by
  subst hK
  cases a with
  | @tup p xs _ e ha =>
    cases b with
    | @tup p2 ys _ e2 hb =>
      refine ⟨p, p2, xs, ys, rfl, rfl, ext_t hid_sub e, ext_t hid_sub e2, by rw [rpAll_len ha, rpAll_len hb]; exact h, fun hx => ?_, fun hx hy => ?_, fun hx hy z hz => ?_⟩
      · subst hx
        cases ha
        exact f _ (.dat (.tuple es)) L H (Grow.refl H L) (Keeps.refl L) l (.tup e2 hb) q
      · subst hy
        cases hb
        rw [List.append_nil] at q
        exact f _ (.dat (.tuple ds)) L H (Grow.refl H L) (Keeps.refl L) l (.tup e ha) q
      · have g : Grow H L (upd H z (.tup (xs ++ ys))) L := grow_new hz
        exact f _ (.dat (.tuple (ds ++ es))) L _ g (Keeps.refl L) (l.new hz) (.tup (SqT.of (by rw [hid_out (l.fresh hz)]; exact upd_same)) (rpAll_mono g.ext (rpAll_app ha hb))) q)))
theorem od_mul_int {i j : Int} (h : CMul i j) (q : k (.dat (.int (i * j))) L) : OD C (rMulZ K) (.dat (.int i)) (.dat (.int j)) L k := od_or1 (od_intC (g := fun a b => a * b) h q)
theorem rpAll_rep {H : Hp} {vs : List V} {ds : List PyData} (h : RpAll K H vs ds) : ∀ n : Nat, RpAll K H (List.replicate n vs).flatten (List.replicate n ds).flatten
  | 0 => .nil
  | n + 1 => by
    rw [List.replicate_succ, List.replicate_succ, List.flatten_cons, List.flatten_cons]
    exact rpAll_app h (rpAll_rep h n)
theorem od_mul_lst {ds : List PyData} {n : Int} (h : -(2 ^ 63) ≤ n ∧ n < 2 ^ 63 ∧ ds.length * n.toNat ≤ sizeLine) (q : k (.dat (.list (List.replicate n.toNat ds).flatten)) L) : OD C (rMulZ K) (.dat (.list ds)) (.dat (.int n)) L k := fun v w H Q l a b f => .inr (.inl (by
  cases a with
  | @lst p xs _ e ha =>
    cases b
    refine ⟨p, n, xs, rfl, rfl, hid_sub _ _ e, h.1, h.2.1, by rw [rpAll_len ha]; exact h.2.2, fun z hz => ?_⟩
    have g : Grow H L (upd H z (.lst (List.replicate n.toNat xs).flatten)) L := grow_new hz
    exact f _ (.dat (.list (List.replicate n.toNat ds).flatten)) L _ g (Keeps.refl L) (l.new hz) (.lst (by rw [hid_out (l.fresh hz)]; exact upd_same) (rpAll_mono g.ext (rpAll_rep ha _))) q))
theorem od_lt_int {i j : Int} (q : k (.dat (.bool (decide (i < j)))) L) : OD C rLtZ (.dat (.int i)) (.dat (.int j)) L k := od_or1 (od_cmp (g := fun a b => decide (a < b)) q)
theorem od_lt_str {i j : Str} (q : k (.dat (.bool (decide (i.cps.toList < j.cps.toList)))) L) : OD C rLtZ (.dat (.str i)) (.dat (.str j)) L k := od_or2 (od_val (fun v w H l a b => by
  cases a
  cases b
  exact ⟨.bl _, .bl _, fun Q f => ⟨i, j, rfl, rfl, f⟩⟩) q)
/-! equality -/
theorem od_eq_int {i j : Int} (q : k (.dat (.bool (i == j))) L) : OD C (rEqZ K) (.dat (.int i)) (.dat (.int j)) L k := od_or1 (od_val (fun v w H l a b => by
  cases a
  cases b
  exact ⟨.bl (i == j), .bl _, fun Q f => ⟨rfl, by rw [dec_int]; exact f⟩⟩) q)
theorem od_eq_str {i j : Str} (q : k (.dat (.bool (i == j))) L) : OD C (rEqZ K) (.dat (.str i)) (.dat (.str j)) L k := od_or1 (od_val (fun v w H l a b => by
  cases a
  cases b
  exact ⟨.bl (i == j), .bl _, fun Q f => ⟨rfl, by rw [dec_str]; exact f⟩⟩) q)
theorem od_eq_bool {i j : Bool} (q : k (.dat (.bool (i == j))) L) : OD C (rEqZ K) (.dat (.bool i)) (.dat (.bool j)) L k := od_or1 (od_val (fun v w H l a b => by
  cases a
  cases b
  exact ⟨.bl (i == j), .bl _, fun Q f => ⟨rfl, by rw [dec_bl]; exact f⟩⟩) q)
theorem od_ne_int {i j : Int} (q : k (.dat (.bool (!(i == j)))) L) : OD C (rNeZ K) (.dat (.int i)) (.dat (.int j)) L k := od_or1 (od_val (fun v w H l a b => by
  cases a
  cases b
  exact ⟨.bl (!(i == j)), .bl _, fun Q f => ⟨rfl, by rw [dec_int]; exact f⟩⟩) q)
theorem od_ne_str {i j : Str} (q : k (.dat (.bool (!(i == j)))) L) : OD C (rNeZ K) (.dat (.str i)) (.dat (.str j)) L k := od_or1 (od_val (fun v w H l a b => by
  cases a
  cases b
  exact ⟨.bl (!(i == j)), .bl _, fun Q f => ⟨rfl, by rw [dec_str]; exact f⟩⟩) q)
theorem od_ne_bool {i j : Bool} (q : k (.dat (.bool (!(i == j)))) L) : OD C (rNeZ K) (.dat (.bool i)) (.dat (.bool j)) L k := od_or1 (od_val (fun v w H l a b => by
  cases a
  cases b
  exact ⟨.bl (!(i == j)), .bl _, fun Q f => ⟨rfl, by rw [dec_bl]; exact f⟩⟩) q)
theorem od_eq_deep {d e : PyData} (h : SeqAt.shaped d = true ∧ SeqAt.shaped e = true ∧ flatD d = true ∧ flatD e = true) (q : k (.dat (.bool (PyData.eqv d e))) L) (hK : C.K = K := by rfl) : OD C (rEqZ K) (.dat d) (.dat e) L k := od_or2 (od_val (fun v w H l a b => by
  subst hK
  exact ⟨.bl _, .bl _, fun Q f => ⟨d, e, rp_dp (rp_mono hid_sub a) h.2.2.1, rp_dp (rp_mono hid_sub b) h.2.2.2, h.1, h.2.1, f⟩⟩) q)
theorem od_ne_deep {d e : PyData} (h : SeqAt.shaped d = true ∧ SeqAt.shaped e = true ∧ flatD d = true ∧ flatD e = true) (q : k (.dat (.bool (!PyData.eqv d e))) L) (hK : C.K = K := by rfl) : OD C (rNeZ K) (.dat d) (.dat e) L k := od_or2 (od_val (fun v w H l a b => by
  subst hK
  exact ⟨.bl _, .bl _, fun Q f => ⟨d, e, rp_dp (rp_mono hid_sub a) h.2.2.1, rp_dp (rp_mono hid_sub b) h.2.2.2, h.1, h.2.1, f⟩⟩) q)
/-! in -/
theorem od_in_sign {c : Nat} {z : Str} (q : k (.dat (.bool (decide (c ∈ z.cps.toList)))) L) : OD C (rInZ K) (.dat (.str ⟨#[c]⟩)) (.dat (.str z)) L k := od_or1 (od_val (fun v w H l a b => by
  cases a
  cases b
  exact ⟨.bl _, .bl _, fun Q f => ⟨c, z, rfl, rfl, f⟩⟩) q)
theorem od_notIn_sign {c : Nat} {z : Str} (q : k (.dat (.bool (!decide (c ∈ z.cps.toList)))) L) : OD C (rNotInZ K) (.dat (.str ⟨#[c]⟩)) (.dat (.str z)) L k := od_or1 (od_val (fun v w H l a b => by
  cases a
  cases b
  exact ⟨.bl _, .bl _, fun Q f => ⟨c, z, rfl, rfl, f⟩⟩) q)
theorem od_is_bool {i j : Bool} (q : k (.dat (.bool (decide (i = j)))) L) : OD C rIsZ (.dat (.bool i)) (.dat (.bool j)) L k := od_or2 (od_val (fun v w H l a b => by
  cases a
  cases b
  exact ⟨.bl _, .bl _, fun Q f => ⟨i, j, rfl, rfl, f⟩⟩) q)
theorem od_isNot_bool {i j : Bool} (q : k (.dat (.bool (!decide (i = j)))) L) : OD C rIsNotZ (.dat (.bool i)) (.dat (.bool j)) L k := od_or2 (od_val (fun v w H l a b => by
  cases a
  cases b
  exact ⟨.bl _, .bl _, fun Q f => ⟨i, j, rfl, rfl, f⟩⟩) q)
def isNoneD : PyData → Bool
  | .none => true
  | _ => false
theorem rp_none {H : Hp} {v : V} {d : PyData} (h : Rp K H v d) : decide (v = .non) = isNoneD d := by
  cases h <;> simp [isNoneD]
theorem od_is_none {d : PyData} (q : k (.dat (.bool (isNoneD d))) L) : OD C rIsZ (.dat d) (.dat .none) L k := od_or1 (od_val (fun v w H l a b => by
  cases b
  exact ⟨.bl _, .bl _, fun Q f => ⟨rfl, by rw [rp_none a]; exact f⟩⟩) q)
theorem od_isNot_none {d : PyData} (q : k (.dat (.bool (!isNoneD d))) L) : OD C rIsNotZ (.dat d) (.dat .none) L k := od_or1 (od_val (fun v w H l a b => by
  cases b
  exact ⟨.bl _, .bl _, fun Q f => ⟨rfl, by rw [rp_none a]; exact f⟩⟩) q)
/-! items -/
theorem atI_rp {H : Hp} {xs : List V} {ds : List PyData} {i : Int} {d : PyData} (h : RpAll K H xs ds) (e : atI ds i = some d) : ∃ v, atI xs i = some v ∧ Rp K H v d := by
  unfold atI at e ⊢
  rw [rpAll_len h]
  cases e1 : ixN ds.length i with
  | none =>
    rw [e1] at e
    cases e
  | some j =>
    rw [e1] at e
    obtain ⟨v, e2, r⟩ := rpAll_get h (show ds[j]? = some d from e)
    exact ⟨v, e2, r⟩
abbrev rIxZ (K : PySem.W.Frag) : R2 := rIx K
theorem od_ix_lst {ds : List PyData} {i : Int} {d : PyData} (e : atI ds i = some d) (q : k (.dat d) L) (hK : C.K = K := by rfl) : OD C (rIx K) (.dat (.list ds)) (.dat (.int i)) L k := by
  subst hK
  refine od_or1 (od_val (fun v w H l a b => ?_) q)
  cases a with
  | @lst p xs _ e2 ha =>
    cases b
    obtain ⟨v, e3, r⟩ := atI_rp ha e
    exact ⟨v, r, fun Q f => ⟨p, xs, i, v, rfl, rfl, SqL.of (hid_sub _ _ e2), e3, f⟩⟩
theorem od_ix_tup {ds : List PyData} {i : Int} {d : PyData} (e : atI ds i = some d) (q : k (.dat d) L) (hK : C.K = K := by rfl) : OD C (rIx K) (.dat (.tuple ds)) (.dat (.int i)) L k := by
  subst hK
  refine od_or2 (od_or1 (od_val (fun v w H l a b => ?_) q))
  cases a with
  | @tup p xs _ e2 ha =>
    cases b
    obtain ⟨v, e3, r⟩ := atI_rp ha e
    exact ⟨v, r, fun Q f => ⟨p, xs, i, v, rfl, rfl, ext_t hid_sub e2, e3, f⟩⟩
theorem od_ix_str {z : Str} {i : Int} {c : Nat} (h : z.length ≤ sizeLine) (e : atI z.cps.toList i = some c) (q : k (.dat (sgn c)) L) : OD C (rIx K) (.dat (.str z)) (.dat (.int i)) L k := od_or2 (od_or2 (od_val (fun v w H l a b => by
  cases a
  cases b
  exact ⟨.str ⟨#[c]⟩, .str _, fun Q f => ⟨z, i, c, rfl, rfl, h, e, f⟩⟩) q))
theorem od_mod {i j : Int} (h : 0 < j) (q : k (.dat (.int (i % j))) L) : OD C (rI (fun _ j => 0 < j) fun i j => .int (i % j)) (.dat (.int i)) (.dat (.int j)) L k := od_intC (c := fun _ j => 0 < j) (g := fun i j => i % j) h q
theorem od_sub {i j : Int} (q : k (.dat (.int (i - j))) L) : OD C (rI0 fun i j => .int (i - j)) (.dat (.int i)) (.dat (.int j)) L k := od_int (g := fun i j => i - j) q
end

/-! ### built-in functions by values -/
section
variable {C : Cz} {ε : Ev} {L : Led} {k : Rs → Led → Prop} {K : PySem.W.Frag} {te : TE} {ta : TA}
theorem cd_val {r : List V → Hp → VK → Prop} {xs : List Rs} {z : Rs} (h : ∀ vs H, LOk C.K L H → RsAll C.K L H vs xs → ∃ u, RsOk C.K L H u z ∧ ∀ Q : VK, Q u H → r vs H Q) (q : k z L) : CD C r xs L k := fun vs H Q l o f => by
  obtain ⟨u, a, b⟩ := h vs H l o
  exact b Q (f u z L H (Grow.refl H L) (Keeps.refl L) l a q)
/-- a new list of values -/
theorem cd_lst {r : List V → Hp → VK → Prop} {xs : List Rs} {ds : List PyData} (h : ∀ vs H, LOk C.K L H → RsAll C.K L H vs xs → ∃ us, RpAll C.K (hid L H) us ds ∧ ∀ Q : VK, (∀ p, H p = none → Q (.ref p) (upd H p (.lst us))) → r vs H Q) (q : k (.dat (.list ds)) L) : CD C r xs L k := fun vs H Q l o f => by
  obtain ⟨us, a, b⟩ := h vs H l o
  refine b Q fun p hp => ?_
  have g : Grow H L (upd H p (.lst us)) L := grow_new hp
  exact f _ (.dat (.list ds)) L _ g (Keeps.refl L) (l.new hp) (.lst (by rw [hid_out (l.fresh hp)]; exact upd_same) (rpAll_mono g.ext a)) q
theorem cd_or1 {r r' : List V → Hp → VK → Prop} {xs : List Rs} (h : CD C r xs L k) : CD C (fun a H Q => r a H Q ∨ r' a H Q) xs L k := fun v H Q l a f => .inl (h v H Q l a f)
theorem cd_or2 {r r' : List V → Hp → VK → Prop} {xs : List Rs} (h : CD C r' xs L k) : CD C (fun a H Q => r a H Q ∨ r' a H Q) xs L k := fun v H Q l a f => .inr (h v H Q l a f)
/-- len -/
def rLenZ (K : PySem.W.Frag) : List V → Hp → VK → Prop := fun xs H Q => ∃ x n, xs = [x] ∧ LenV K x H n ∧ Q (.int n) H
theorem call_lenZ {X : Cx} : CallR X (.builtin "len") (rLenZ X.K) := call_len
theorem cd_len_lst {ds : List PyData} (q : k (.dat (.int (ds.length : Int))) L) : CD C (rLenZ K) [.dat (.list ds)] L k := cd_val (fun vs H l o => by
  obtain ⟨v, rfl, o1⟩ := rsAll_1 o
  cases o1 with
  | @lst p xs _ e ha => exact ⟨.int _, .int _, fun Q f => ⟨.ref p, ds.length, rfl, .inl ⟨xs, SqL.of (hid_sub _ _ e), (rpAll_len ha).symm⟩, f⟩⟩) q
theorem cd_len_tup {ds : List PyData} (q : k (.dat (.int (ds.length : Int))) L) (hK : C.K = K := by rfl) : CD C (rLenZ K) [.dat (.tuple ds)] L k := by
  subst hK
  refine cd_val (fun vs H l o => ?_) q
  obtain ⟨v, rfl, o1⟩ := rsAll_1 o
  cases o1 with
  | @tup p xs _ e ha => exact ⟨.int _, .int _, fun Q f => ⟨.ref p, ds.length, rfl, .inr ⟨xs, ext_t hid_sub e, (rpAll_len ha).symm⟩, f⟩⟩
theorem cd_len_str {z : Str} (h : z.length ≤ sizeLine) (q : k (.dat (.int (z.length : Int))) L) : CD C (rLenZ K) [.dat (.str z)] L k := cd_val (fun vs H l o => by
  obtain ⟨v, rfl, o1⟩ := rsAll_1 o
  cases o1
  exact ⟨.int _, .int _, fun Q f => ⟨.str z, z.length, rfl, ⟨h, rfl⟩, f⟩⟩) q
/-- int -/
def rIntZ : List V → Hp → VK → Prop := fun xs H Q => ((∃ i, xs = [.int i] ∧ Q (.int i) H) ∨ ∃ b, xs = [.bl b] ∧ Q (.int (if b then 1 else 0)) H) ∨ ∃ a n, xs = [.str a] ∧ PySem.intText? a = some n ∧ a.length ≤ 640 ∧ Q (.int n) H
theorem call_intZ {X : Cx} : CallR X (.type "int") rIntZ := call_int1.or call_int_str
theorem cd_int_int {i : Int} (q : k (.dat (.int i)) L) : CD C rIntZ [.dat (.int i)] L k := cd_or1 (cd_or1 (cd_val (fun vs H l o => by
  obtain ⟨v, rfl, o1⟩ := rsAll_1 o
  cases o1
  exact ⟨.int i, .int i, fun Q f => ⟨i, rfl, f⟩⟩) q))
theorem cd_int_bool {b : Bool} (q : k (.dat (.int (if b then 1 else 0))) L) : CD C rIntZ [.dat (.bool b)] L k := cd_or1 (cd_or2 (cd_val (fun vs H l o => by
  obtain ⟨v, rfl, o1⟩ := rsAll_1 o
  cases o1
  exact ⟨.int (if b then 1 else 0), .int _, fun Q f => ⟨b, rfl, f⟩⟩) q))
theorem cd_int_str {a : Str} {n : Int} (h : PySem.intText? a = some n ∧ a.length ≤ 640) (q : k (.dat (.int n)) L) : CD C rIntZ [.dat (.str a)] L k := cd_or2 (cd_val (fun vs H l o => by
  obtain ⟨v, rfl, o1⟩ := rsAll_1 o
  cases o1
  exact ⟨.int n, .int n, fun Q f => ⟨a, n, rfl, h.1, h.2, f⟩⟩) q)
/-- all, any, sum -/
theorem cd_all {bs : List Bool} (q : k (.dat (.bool (bs.all id))) L) : CD C (rAll K) [.dat (.list (bs.map PyData.bool))] L k := cd_val (fun vs H l o => by
  obtain ⟨v, rfl, o1⟩ := rsAll_1 o
  cases o1 with
  | @lst p xs _ e ha =>
    have ex := bools_of ha
    subst ex
    exact ⟨.bl _, .bl _, fun Q f => ⟨p, bs, rfl, SqL.of (hid_sub _ _ e), f⟩⟩) q
theorem cd_any {bs : List Bool} (q : k (.dat (.bool (bs.any id))) L) : CD C (rAny K) [.dat (.list (bs.map PyData.bool))] L k := cd_val (fun vs H l o => by
  obtain ⟨v, rfl, o1⟩ := rsAll_1 o
  cases o1 with
  | @lst p xs _ e ha =>
    have ex := bools_of ha
    subst ex
    exact ⟨.bl _, .bl _, fun Q f => ⟨p, bs, rfl, SqL.of (hid_sub _ _ e), f⟩⟩) q
theorem cd_sum {ns : List Int} (q : k (.dat (.int ns.sum)) L) : CD C (rSum K) [.dat (.list (ns.map PyData.int))] L k := cd_val (fun vs H l o => by
  obtain ⟨v, rfl, o1⟩ := rsAll_1 o
  cases o1 with
  | @lst p xs _ e ha =>
    have ex := ints_of ha
    subst ex
    exact ⟨.int _, .int _, fun Q f => ⟨p, ns, rfl, SqL.of (hid_sub _ _ e), f⟩⟩) q
theorem cd_abs {i : Int} (q : k (.dat (.int (if i < 0 then -i else i))) L) : CD C (fun xs H Q => ∃ i, xs = [.int i] ∧ Q (.int (if i < 0 then -i else i)) H) [.dat (.int i)] L k := cd_val (fun vs H l o => by
  obtain ⟨v, rfl, o1⟩ := rsAll_1 o
  cases o1
  exact ⟨.int _, .int _, fun Q f => ⟨i, rfl, f⟩⟩) q
/-! isinstance -/
def tyN : PyData → String
  | .none => "NoneType"
  | .bool _ => "bool"
  | .int _ => "int"
  | .str _ => "str"
  | .list _ => "list"
  | .tuple _ => "tuple"
  | .dict _ => "dict"
def isD (d : PyData) (c : String) : Bool := tyN d == c || (tyN d == "bool" && c == "int")
theorem sqT_ty {H : Hp} {a : Addr} {xs : List V} (h : SqT K H a xs) : TyX K H (.ref a) (.type "tuple") := by
  rcases h with (h | ⟨o, h⟩) | ⟨o, its, n, h1, h2, _⟩
  · exact .base (.tup h)
  · exact .fTuple h
  · exact .kTuple h1 h2
theorem rp_ty {H : Hp} {v : V} {d : PyData} (h : Rp K H v d) : TyX K H v (.type (tyN d)) := by
  cases h with
  | non => exact .base .non
  | bl b => exact .base (.bl b)
  | int i => exact .base (.int i)
  | str x => exact .base (.str x)
  | lst e _ => exact .base (.lst e)
  | tup e _ => exact sqT_ty e
  | dct e _ => exact .base (.dK e)
def okTy : List String := ["str", "int", "bool", "list", "tuple", "dict"]
theorem kit_all : (["NoneType", "bool", "int", "str", "list", "tuple", "dict"].all fun a => ["str", "int", "bool", "list", "tuple", "dict"].all fun c => kitB a c == some (a == c || (a == "bool" && c == "int"))) = true := by decide +kernel
theorem tyN_in (d : PyData) : tyN d ∈ ["NoneType", "bool", "int", "str", "list", "tuple", "dict"] := by
  cases d <;> simp [tyN]
theorem kit_d {d : PyData} {c : String} (h : c ∈ okTy) : PySem.W.kitOne K (.type (tyN d)) (.type c) = some (isD d c) := by
  refine kit_ty ?_
  have q := List.all_eq_true.mp (List.all_eq_true.mp kit_all _ (tyN_in d)) c h
  exact beq_iff_eq.mp q
theorem cd_isi {d : PyData} {c : String} (h : c ∈ okTy) (q : k (.dat (.bool (isD d c))) L) (hK : C.K = K := by rfl) : CD C (rIsi K) [.dat d, .raw (.ty c)] L k := by
  subst hK
  refine cd_val (fun vs H l o => ?_) q
  obtain ⟨v, w, rfl, o1, o2⟩ := rsAll_2 o
  have e : w = .ty c := o2
  subst e
  exact ⟨.bl _, .bl _, fun Q f => ⟨v, .ty c, .type (tyN d), .type c, isD d c, rfl, .ty c, rp_ty (rp_mono hid_sub o1), kit_d h, f⟩⟩
end

/-! ### methods -/
section
variable {C : Cz} {ε : Ev} {L : Led} {k : Rs → Led → Prop} {K : PySem.W.Frag} {te : TE} {ta : TA}
/-- a built-in's method by values -/
def MD (C : Cz) (r : V → List V → Hp → VK → Prop) (x : Rs) (xs : List Rs) (L : Led) (k : Rs → Led → Prop) : Prop :=
  ∀ (v : V) (vs : List V) (H : Hp) (Q : VK), LOk C.K L H → RsOk C.K L H v x → RsAll C.K L H vs xs → (∀ z s L' H', Grow H L H' L' → Keeps L L' → LOk C.K L' H' → RsOk C.K L' H' z s → k s L' → Q z H') → r v vs H Q
def rsTy (L : Led) : Rs → String → Prop
  | .dat d, T => tyN d = T ∧ (T = "str" ∨ T = "list" ∨ T = "dict")
  | .own _, T => T = "list"
  | _, _ => False
theorem rs_tyV {H : Hp} {v : V} {x : Rs} {T : String} (l : LOk K L H) (h : RsOk K L H v x) (t : rsTy L x T) : tyV K T v H := by
  cases x with
  | dat d =>
    obtain ⟨t1, t2⟩ := t
    have h' : Rp K H v d := rp_mono hid_sub h
    cases h' with
    | non => rw [← t1] at t2; simp [tyN] at t2
    | bl b => rw [← t1] at t2; simp [tyN] at t2
    | int i => rw [← t1] at t2; simp [tyN] at t2
    | str x => subst t1; exact rfl
    | lst e _ => subst t1; exact .inl ⟨rfl, _, SqL.of e⟩
    | tup e _ => rw [← t1] at t2; simp [tyN] at t2
    | dct e _ => subst t1; exact .inr (.inr (.inl ⟨rfl, .inl ⟨_, e⟩⟩))
  | own a =>
    obtain ⟨rfl, ha⟩ := h
    have t' : T = "list" := t
    subst t'
    obtain ⟨p, hp, rfl⟩ := List.mem_map.mp ha
    have q := l.at_ p hp
    obtain ⟨a, m⟩ := p
    cases m with
    | drw =>
      obtain ⟨ns, e⟩ := q
      exact .inl ⟨rfl, _, SqL.of e⟩
    | lst ds =>
      obtain ⟨xs, e, _⟩ := q
      exact .inl ⟨rfl, _, SqL.of e⟩
  | raw w => cases t
  | scr ns => cases t
theorem cp_bm {T : String} {r : V → List V → Hp → VK → Prop} (h : CP C te ε L fun x L1 => rsTy L1 x T ∧ CA C ta ε L1 fun xs L2 => MD C r x xs L2 k) (hK : C.K = K := by rfl) : CP C (tBM K T r te ta) ε L k := fun σ H Q R X z => by
  subst hK
  refine h σ H _ R X fun v x L1 H1 g1 k1 R1 o1 ⟨t, h1⟩ => ⟨rs_tyV R1.led o1 t, h1 σ H1 _ R1 (X.grow g1) fun vs xs L2 H2 g2 k2 R2 o2 q => ?_⟩
  exact q v vs H2 Q R2.led (o1.grow g2 k2) o2 fun u s L3 H3 g3 k3 l3 o3 q => z u s L3 H3 ((g1.trans g2).trans g3) ((k1.trans k2).trans k3) (R2.grow g3 k3 l3) o3 q
theorem cp_bm0 {T : String} {r : V → List V → Hp → VK → Prop} (h : CP C te ε L fun x L1 => rsTy L1 x T ∧ MD C r x [] L1 k) (hK : C.K = K := by rfl) : CP C (tBM0 K T r te) ε L k := fun σ H Q R X z => by
  subst hK
  refine h σ H _ R X fun v x L1 H1 g1 k1 R1 o1 ⟨t, q⟩ => ⟨rs_tyV R1.led o1 t, ?_⟩
  exact q v [] H1 Q R1.led o1 .nil fun u s L3 H3 g3 k3 l3 o3 q => z u s L3 H3 (g1.trans g3) (k1.trans k3) (R1.grow g3 k3 l3) o3 q
end
end Z

set_option Elab.async false
set_option linter.all false
set_option maxRecDepth 100000
set_option maxHeartbeats 2000000
/-! list(reversed(xs)) of a list -/
namespace ZRev
open PySem PySem.W PySem.Calls PyProof.Rows PySem.Spec
variable {prog : Program} {w : World} {A : Around} {E : Value → Shared → Prop}
theorem ext_rev {s : Shared} {R : Result → Shared → Prop} {it l : Addr} {items : Array Value} (hh : A.handled = none) (hit : s.heap.IsRevIter it l ((items.size : Int) - 1)) (hl : s.heap.IsList l items) (hne : l ≠ it) (hn : items.size ≤ sizeLine)
    (S : Addr) (hSi : S ≠ it) (hSl : S ≠ l) (res : Value) (c₀ : Nat) (hS : s.heap.get? S = some { cls := .type "list", data := .seq #[] c₀ })
    (hR : ∀ h' tk acc c, (∀ b o, b ≠ S → b ≠ it → s.heap.get? b = some o → h'.get? b = some o) → h'.get? S = some { cls := .type "list", dict := none, data := .seq acc c, slots := #[] } →
      ItemsOf (fun i v => items[items.size - 1 - i]? = some v) acc items.size → R (.ok (.ret res)) { s with heap := h', toks := tk }) :
    wpAny (model prog w) A.in1 (Builtin.List.listExtendWith (.ref S) (.ref it) res)
      (fun fin s' => match fin with
        | .done f => R (.ok f) s'
        | .again c' => c'.quiet = true ∧ codeAny (model prog w) A c' R s') (fun e s' => R (.error e) s') s := by
  have Wk := (Walks.listRev (prog := prog) (w := w) (A := A.in1) hh it l hne items).toS
  have nf : S ∉ [it, l] := by
    simp only [List.mem_cons, List.not_mem_nil, or_false, not_or]
    exact ⟨hSi, hSl⟩
  have tI : s.TypeIs (.ref it) "list_reverseiterator" := hit.typeIs
  have same : Builtin.List.listSameRef (.ref S) (.ref it) = false := by simp [Builtin.List.listSameRef, hSi]
  unfold Builtin.List.listExtendWith
  refine wpAny_bind (wpAny_typeOf tI ?_)
  rw [if_neg (by rw [same]; decide)]
  refine wpAny_bind (wpAny_pyIter_revIter hit ?_)
  refine wpAny_bind (wpAny_holding ?_)
  unfold Builtin.List.listLengthHint
  refine wpAny_bind (wpAny_specialOf tI RT.nolen_lri ?_)
  show wpAny _ A.in1 (specialOf (Value.ref it) (Str.ofString "__length_hint__") >>= _) _ _ _
  refine wpAny_bind (wpAny_specialOf tI RT.hint_lri ?_)
  generalize hd : ("list_reverseiterator.__length_hint__" : String) = nm
  wp_delta
  rw [show splitId nm = some ("list_reverseiterator", "__length_hint__") from by subst hd; decide +kernel]
  subst hd
  refine wpAny_bind (wpAny_isInstance (b := true) tI (by rw [isSubtype_type]; kernel_rfl) ?_)
  refine wpAny_pure ?_
  rw [if_neg (by decide)]
  have e0 : ((items.size : Nat) : Int) - 1 - ((0 : Nat) : Int) = (items.size : Int) - 1 := by omega
  refine wpAny_pure ⟨plainId_quiet F.plain_extend_loop _, codeAny_extend_loopS Wk hn S nf res items.size 0 _ #[] c₀ rfl (Nat.zero_le _) ⟨Nat.zero_le _, by rw [e0]; exact hit, hl⟩ hS (ItemsOf.nil _) fun s' acc c hm hS' hacc => ?_⟩
  rw [Moved.eq_with hm]
  refine hR s'.heap s'.toks acc c (fun b o hb hb2 e => hm.heap b o (fun hmem => ?_) e) hS' hacc
  rcases List.mem_cons.mp hmem with z | z
  · exact hb z
  · exact hb2 (List.mem_singleton.mp z)
theorem init_rev {s : Shared} {R : Result → Shared → Prop} {it l : Addr} {items : Array Value} (hh : A.handled = none) (hit : s.heap.IsRevIter it l ((items.size : Int) - 1)) (hl : s.heap.IsList l items) (hne : l ≠ it) (hn : items.size ≤ sizeLine)
    (S : Addr) (hSi : S ≠ it) (hSl : S ≠ l) (hS : s.heap.get? S = some { cls := .type "list", data := .seq #[] })
    (hR : ∀ h' tk acc c, (∀ b o, b ≠ S → b ≠ it → s.heap.get? b = some o → h'.get? b = some o) → h'.get? S = some { cls := .type "list", dict := none, data := .seq acc c, slots := #[] } →
      ItemsOf (fun i v => items[items.size - 1 - i]? = some v) acc items.size → R (.ok (.ret .none)) { s with heap := h', toks := tk }) :
    wpAny (model prog w) A.in1 (Builtin.«list.__init__» ⟨[.ref S, .ref it], []⟩)
      (fun fin s' => match fin with
        | .done f => R (.ok f) s'
        | .again c' => c'.quiet = true ∧ codeAny (model prog w) A c' R s') (fun e s' => R (.error e) s') s := by
  show wpAny _ _ (Builtin.List.listItems (.ref S) >>= fun old => Builtin.List.listUpdate (.ref S) (fun _ => #[]) >>= fun _ => letGo old.toList.reverse >>= fun _ => Builtin.List.listExtendWith (.ref S) (.ref it) .none) _ _ s
  refine wpAny_bind ?_
  unfold Builtin.List.listItems
  refine wpAny_bind (wpAny_seqItems hS rfl (wpAny_pure ?_))
  show wpAny _ _ (updateSeq S (fun _ => #[]) >>= fun _ => letGo (#[] : Array Value).toList.reverse >>= fun _ => Builtin.List.listExtendWith (.ref S) (.ref it) .none) _ _ s
  refine wpAny_bind (wpAny_updateSeq hS rfl ?_)
  have hS2 := Heap.get?_update_self (Obj.mapSeq (fun _ => (#[] : Array Value))) hS rfl
  have oth : ∀ b o, b ≠ S → s.heap.get? b = some o → (s.heap.update S (Obj.mapSeq (fun _ => (#[] : Array Value)))).get? b = some o := fun b o hb e => (Heap.get?_update_other _ _ (Ne.symm hb)).trans e
  refine wpAny_bind (wpAny_letGo ?_)
  exact ext_rev hh (hit.at fun o e => oth it o (Ne.symm hSi) e) (hl.at fun o e => oth l o (Ne.symm hSl) e) hne hn S hSi hSl .none _ hS2 fun h' tk acc c hk hS' hacc => hR h' tk acc c (fun b o hb hb2 e => hk b o hb hb2 (oth b o hb e)) hS' hacc
theorem call_list_rev {s : Shared} {it l : Addr} {items : Array Value} {Q : Value → Shared → Prop} (hh : A.handled = none) (hit : s.heap.IsRevIter it l ((items.size : Int) - 1)) (hl : s.heap.IsList l items) (hne : l ≠ it) (hn : items.size ≤ sizeLine)
    (hQ : ∀ h' tk acc c, (∀ b o, b ≠ it → s.heap.get? b = some o → h'.get? b = some o) → h'.get? s.heap.objs.size = some { cls := .type "list", dict := none, data := .seq acc c, slots := #[] } →
      ItemsOf (fun i v => items[items.size - 1 - i]? = some v) acc items.size → Q (.ref s.heap.objs.size) { s with heap := h', toks := tk }) :
    wpAny (model prog w) A (call (.type "list") [.ref it]) Q E s := by
  obtain ⟨oi, hoi, _⟩ := id hit
  obtain ⟨ol, hol, _⟩ := id hl
  refine callType_codes (Q₁ := fun obj s₁ => obj = .ref s.heap.objs.size ∧ s₁ = { s with heap := s.heap.push { cls := .type "list", data := .seq #[] } }) PySem.F.called_list (PySem.F.typeCall_list_1 _) PySem.F.entry_list_init (code_list_new _ ⟨rfl, rfl⟩) fun obj s₁ h₁ => ?_
  obtain ⟨rfl, rfl⟩ := h₁
  have hS : (s.heap.push { cls := .type "list", data := .seq #[] }).get? s.heap.objs.size = some { cls := .type "list", data := .seq #[] } := Heap.get?_push_size _ rfl
  refine ⟨⟨_, hS, rfl⟩, PySem.F.args_list_init_2 _ _, init_rev (A := A.in1) hh (hit.at fun o e => Heap.get?_push_of_some _ e) (hl.at fun o e => Heap.get?_push_of_some _ e) hne hn _ (Nat.ne_of_gt (Heap.lt_size hoi)) (Nat.ne_of_gt (Heap.lt_size hol)) hS fun h' tk acc c hk hS' hacc => ?_⟩
  exact ⟨rfl, hQ h' tk acc c (fun b o hb e => hk b o (Nat.ne_of_lt (Heap.lt_size e)) hb (Heap.get?_push_of_some _ e)) hS' hacc⟩
end ZRev
namespace Z
open PySem PySem.Spec PyProof.Rows L2
def tLRev (K : PySem.W.Frag) (te : TE) : TE := fun σ H Q => te σ H fun v H1 => ∃ (a : Addr) (xs : List V), v = .ref a ∧ SqL K H1 a xs ∧ ∀ q, H1 q = none → Q (.ref q) (upd H1 q (.lst xs.reverse))
theorem pe_lrev {X : Cx} {e : Expr} {te : TE} {p p2 pos pos2 : Pos} (hc : X.calm = true) (hg : Gl X "list") (hm : X.mg "list" = none) (hg2 : Gl X "reversed") (hm2 : X.mg "reversed" = none) (he : PE X e te)
    (hs : starEach [e] X.env = (false, eval e X.env) :: starEach [] X.env := by rfl)
    (hs2 : starEach [.Call (.Name "reversed" p2) [e] [] pos2] X.env = (false, eval (.Call (.Name "reversed" p2) [e] [] pos2) X.env) :: starEach [] X.env := by rfl) :
    PE X (.Call (.Name "list" p) [.Call (.Name "reversed" p2) [e] [] pos2] [] pos) (tLRev X.K te) := by
  refine ⟨fun pins s σ H Q I h => ?_⟩
  refine Call_ (ld_blt I hg hm boot_list (PyProof.Rows.callWith_type1 (args_cons (Call_ (ld_blt I hg2 hm2 PyProof.Rows.boot_reversed (PyProof.Rows.callWith_type1 (args_cons (thn (he.run pins s σ H _ I h) fun u s1 ⟨v, H1, I1, r1, q1⟩ => args_nil ?_) hs) hs rfl))) hs2) hs2 rfl))
  obtain ⟨a, xs, ev, hq, q⟩ := q1
  subst ev
  obtain rfl : u = Value.ref a := r1
  obtain ⟨its, rv, p', hz⟩ := I1.list hq
  refine call_reversed_list p'.isList (args_nil ?_)
  have I2 : Inv X pins σ H1 { s1 with heap := s1.heap.push (revObj a ((its.toArray.size : Int) - 1)) } := I1.kept (t' := s1.toks) fun b o e => Heap.get?_push_of_some _ e
  obtain ⟨f0, f1, f2, f3, f4, f5⟩ := I1.fpOk (H' := H1) (b := s1.heap.objs.size) (Nat.le_refl _) (I1.hok.fresh (Nat.le_refl _))
  have hl := p'.isList
  obtain ⟨ol, hol, _⟩ := id hl
  have hne : a ≠ s1.heap.objs.size := Nat.ne_of_lt (Heap.lt_size hol)
  have hn : its.toArray.size ≤ sizeLine := by rw [List.size_toArray, ← rv.length]; exact hz
  have hsz : (s1.heap.push (revObj a ((its.toArray.size : Int) - 1))).objs.size = s1.heap.objs.size + 1 := Heap.size_push ..
  refine ZRev.call_list_rev (s := { s1 with heap := s1.heap.push (revObj a ((its.toArray.size : Int) - 1)) }) (I1.ok.hd hc) ⟨_, Heap.get?_push_size _ rfl, rfl, rfl⟩ (hl.push _) hne hn fun h' tk acc c hk hS hi => ?_
  -- the new list stands behind the iterator's cell
  have hfree : H1 (s1.heap.objs.size + 1) = none := I1.hok.fresh (Nat.le_succ _)
  show EP X pins σ Q (.ref (s1.heap.push (revObj a ((its.toArray.size : Int) - 1))).objs.size) { s1 with heap := h', toks := tk }
  rw [hsz]
  rw [show ({ s1 with heap := s1.heap.push (revObj a ((its.toArray.size : Int) - 1)) } : Shared).heap.objs.size = s1.heap.objs.size + 1 from hsz] at hS
  refine ⟨.ref (s1.heap.objs.size + 1), upd H1 (s1.heap.objs.size + 1) (.lst xs.reverse), ?_, rfl, q _ hfree⟩
  refine I2.turnedNew (ch := [s1.heap.objs.size]) (fun b ob hb e => hk b ob (fun z => hb (by rw [z]; exact List.mem_cons_self)) e) (fun b hb => ?_) (by show (s1.heap.push _).objs.size ≤ _; rw [hsz]; exact Nat.le_refl _) ?_
  · rw [List.mem_singleton.mp hb]
    exact ⟨f0, f1, f2, f3, f4, f5⟩
  · exact ⟨by rw [List.length_reverse]; exact hz, acc.toList, c, RT.vals_rev rv hi, by rw [Array.toArray_toList]; exact hS⟩
end Z

set_option linter.all false
namespace Z
open PySem
theorem occ_one (x : Str) (c : Nat) : (Builtin.Str.occurrences x ⟨#[c]⟩ 0 x.length (x.length + 1)).length = x.cps.toList.count c := by
  have key : ∀ (n i fr : Nat) (found : Array Nat), found.size ≤ i → fr ≤ i → i + n = x.length + 1 →
      (forIn (List.range' i n) (found, fr) (StrLaws.occBody x ⟨#[c]⟩ x.length (x.length + 1))).run.fst.size = found.size + (x.cps.toList.drop i).count c := by
    intro n
    induction n with
    | zero =>
      intro i fr found hf hfr hi
      have e : x.cps.toList.drop i = [] := List.drop_eq_nil_of_le (by rw [Array.length_toList]; show x.length ≤ i; omega)
      rw [e]
      rfl
    | succ n ih =>
      intro i fr found hf hfr hi
      rw [List.range'_succ, List.forIn_cons]
      have hlen : (⟨#[c]⟩ : Str).length = 1 := rfl
      have hsub : Builtin.Str.subAt x ⟨#[c]⟩ i = ((x.cps.toList.drop i).take 1 == [c]) := StrLaws.subAt_eq x ⟨#[c]⟩ i
      by_cases hx : i < x.length
      · have hx' : i < x.cps.toList.length := by rw [Array.length_toList]; exact hx
        have ed : x.cps.toList.drop i = x.cps.toList[i] :: x.cps.toList.drop (i + 1) := List.drop_eq_getElem_cons hx'
        rw [ed] at hsub ⊢
        by_cases hc : x.cps.toList[i] = c
        · have hs : Builtin.Str.subAt x ⟨#[c]⟩ i = true := by rw [hsub, hc]; simp
          have hb : StrLaws.occBody x ⟨#[c]⟩ x.length (x.length + 1) i (found, fr) = pure (ForInStep.yield (found.push i, i + 1)) := by
            unfold StrLaws.occBody
            rw [if_pos ⟨⟨⟨by show found.size < _; omega, hfr⟩, by rw [hlen]; omega⟩, hs⟩]
            rfl
          rw [hb]
          show (forIn (List.range' (i + 1) n) (found.push i, i + 1) (StrLaws.occBody x ⟨#[c]⟩ x.length (x.length + 1))).run.fst.size = _
          rw [ih (i + 1) (i + 1) (found.push i) (by rw [Array.size_push]; omega) (Nat.le_refl _) (by omega), Array.size_push, List.count_cons, hc]
          simp
          omega
        · have hs : Builtin.Str.subAt x ⟨#[c]⟩ i = false := by rw [hsub, List.take_succ_cons, List.take_zero]; exact beq_eq_false_iff_ne.mpr (fun z => hc (List.cons.inj z).1)
          have hb : StrLaws.occBody x ⟨#[c]⟩ x.length (x.length + 1) i (found, fr) = pure (ForInStep.yield (found, fr)) := by
            unfold StrLaws.occBody
            rw [if_neg (by rw [hs]; simp)]
          rw [hb]
          show (forIn (List.range' (i + 1) n) (found, fr) (StrLaws.occBody x ⟨#[c]⟩ x.length (x.length + 1))).run.fst.size = _
          rw [ih (i + 1) fr found (by omega) (by omega) (by omega), List.count_cons, if_neg (fun z => hc (beq_iff_eq.mp z))]
          rfl
      · have e : x.cps.toList.drop i = [] := List.drop_eq_nil_of_le (by rw [Array.length_toList]; show x.length ≤ i; omega)
        have hb : StrLaws.occBody x ⟨#[c]⟩ x.length (x.length + 1) i (found, fr) = pure (ForInStep.yield (found, fr)) := by
          unfold StrLaws.occBody
          rw [if_neg (fun h => by have := h.1.2; rw [hlen] at this; omega)]
        rw [hb]
        show (forIn (List.range' (i + 1) n) (found, fr) (StrLaws.occBody x ⟨#[c]⟩ x.length (x.length + 1))).run.fst.size = _
        have hn : n = 0 := by omega
        subst hn
        rw [e]
        rfl
  rw [StrLaws.occ_eq, Array.length_toList]
  have q := key (x.length + 1) 0 0 #[] (Nat.zero_le _) (Nat.zero_le _) (by omega)
  simpa using q
end Z

set_option Elab.async false
set_option linter.all false
set_option maxRecDepth 100000
set_option maxHeartbeats 2000000
namespace Z
open PySem PySem.Spec PyProof.Rows L2
def natD (n : Nat) : PyData := .int (n : Int)
/-- the content at a is written anew -/
def up (L : Led) (a : Addr) (m : Mo) : Led := L.map fun p => if p.1 = a then (a, m) else p
theorem up_ks (L : Led) (a : Addr) (m : Mo) : (up L a m).ks = L.ks := by
  unfold up Led.ks
  rw [List.map_map]
  refine List.map_congr_left fun p _ => ?_
  show (if p.1 = a then (a, m) else p).1 = p.1
  by_cases h : p.1 = a
  · rw [if_pos h, h]
  · rw [if_neg h]
theorem up_plus {L : Led} {p : Addr} {a b : List PyData} (h : p ∉ L.ks) : up (plus L p a) p (.lst b) = plus L p b := by
  unfold up plus
  rw [List.map_append]
  congr 1
  · refine (List.map_congr_left fun q hq => ?_).trans (List.map_id L)
    have hn : q.1 ≠ p := fun z => h (by rw [← z]; exact List.mem_map.mpr ⟨q, hq, rfl⟩)
    rw [if_neg hn]
    rfl
  · simp
theorem mem_up {L : Led} {a : Addr} {m : Mo} (h : a ∈ L.ks) : (a, m) ∈ up L a m := by
  obtain ⟨p, hp, e⟩ := List.mem_map.mp h
  exact List.mem_map.mpr ⟨p, hp, if_pos e⟩
theorem mem_up_ne {L : Led} {a b : Addr} {m m' : Mo} (h : (b, m') ∈ L) (n : b ≠ a) : (b, m') ∈ up L a m := List.mem_map.mpr ⟨_, h, if_neg n⟩
theorem grow_up {H : Hp} {L : Led} {a : Addr} {m : Mo} {o : HO} (h : a ∈ L.ks) : Grow H L (upd H a o) (up L a m) :=
  ⟨fun b u e n => by rw [upd_ne (fun z : b = a => n (by rw [z]; exact h))]; exact e, fun b hb => .inl (by rw [← up_ks L a m]; exact hb)⟩
theorem keeps_up {L : Led} {a : Addr} {m : Mo} : Keeps L (up L a m) := fun x h => by rw [up_ks]; exact h
theorem LOk.uniq {K : PySem.W.Frag} {L : Led} {H : Hp} (l : LOk K L H) {a : Addr} {m m' : Mo} (h : (a, m) ∈ L) (h' : (a, m') ∈ L) : m = m' := by
  have nd := l.nd
  clear l
  unfold Led.ks at nd
  induction L with
  | nil => cases h
  | cons p r ih =>
    rw [List.map_cons, List.nodup_cons] at nd
    rcases List.mem_cons.mp h with e | h1
    · rcases List.mem_cons.mp h' with e' | h2
      · rw [← e] at e'
        exact (Prod.mk.inj e').2.symm
      · exact absurd (List.mem_map.mpr ⟨_, h2, by rw [← e]⟩) nd.1
    · rcases List.mem_cons.mp h' with e' | h2
      · exact absurd (List.mem_map.mpr ⟨_, h1, by rw [← e']⟩) nd.1
      · exact ih h1 h2 nd.2
theorem LOk.up {K : PySem.W.Frag} {L : Led} {H : Hp} {a : Addr} {ys : List V} {ds : List PyData} (l : LOk K L H) (h : a ∈ L.ks) (r : RpAll K (hid L H) ys ds) : LOk K (up L a (.lst ds)) (upd H a (.lst ys)) := by
  have ex : Ext (hid L H) (hid (Z.up L a (.lst ds)) (upd H a (.lst ys))) := (grow_up h).ext
  refine ⟨by rw [up_ks]; exact l.nd, fun p hp => ?_⟩
  obtain ⟨q, hq, e⟩ := List.mem_map.mp hp
  by_cases z : q.1 = a
  · rw [if_pos z] at e
    subst e
    exact ⟨ys, upd_same, rpAll_mono ex r⟩
  · rw [if_neg z] at e
    subst e
    have w := l.at_ q hq
    obtain ⟨b, m⟩ := q
    cases m with
    | drw =>
      obtain ⟨ns, w⟩ := w
      exact ⟨ns, by rw [upd_ne z]; exact w⟩
    | lst es =>
      obtain ⟨zs, w, y⟩ := w
      exact ⟨zs, by rw [upd_ne z]; exact w, rpAll_mono ex y⟩
section
variable {C : Cz} {ε : Ev} {L : Led} {k : Rs → Led → Prop} {K : PySem.W.Frag} {te : TE} {ta : TA} {P : Post} {t : TS}
/-! ### lists that are written -/
theorem md_append {a : Addr} {ds : List PyData} {d : PyData} (m : (a, .lst ds) ∈ L) (hz : ds.length < sizeLine) (q : k (.dat .none) (up L a (.lst (ds ++ [d])))) : MD C rAppend (.own a) [.dat d] L k := fun v vs H Q l o1 o2 f => by
  obtain ⟨rfl, ha⟩ := o1
  obtain ⟨w, rfl, o⟩ := rsAll_1 o2
  obtain ⟨xs, ex, hx⟩ := l.isLst m
  exact ⟨a, xs, w, rfl, rfl, ex, by rw [rpAll_len hx]; exact hz, f _ (.dat .none) _ _ (grow_up ha) keeps_up (l.up ha (rpAll_app hx (rpAll_one o))) .non q⟩
theorem md_pop {a : Addr} {ds : List PyData} {d : PyData} (m : (a, .lst ds) ∈ L) (e : ds[ds.length - 1]? = some d) (q : k (.dat d) (up L a (.lst ds.dropLast))) : MD C rPop (.own a) [] L k := fun v vs H Q l o1 o2 f => by
  obtain ⟨rfl, ha⟩ := o1
  cases o2
  obtain ⟨xs, ex, hx⟩ := l.isLst m
  have hl := rpAll_len hx
  obtain ⟨w, ew, rw'⟩ := rpAll_get hx e
  have g : Grow H L (upd H a (.lst xs.dropLast)) (up L a (.lst ds.dropLast)) := grow_up ha
  have hd : RpAll C.K (hid L H) xs.dropLast ds.dropLast := by
    rw [List.dropLast_eq_take, List.dropLast_eq_take, hl]
    exact rpAll_take _ hx
  exact ⟨a, xs, w, rfl, rfl, ex, by rw [hl]; exact ew, f _ (.dat d) _ _ g keeps_up (l.up ha hd) (rp_mono g.ext rw') q⟩
theorem md_reverse {a : Addr} {ds : List PyData} (m : (a, .lst ds) ∈ L) (q : k (.dat .none) (up L a (.lst ds.reverse))) : MD C rReverse (.own a) [] L k := fun v vs H Q l o1 o2 f => by
  obtain ⟨rfl, ha⟩ := o1
  cases o2
  obtain ⟨xs, ex, hx⟩ := l.isLst m
  exact ⟨a, xs, rfl, rfl, ex, f _ (.dat .none) _ _ (grow_up ha) keeps_up (l.up ha (rpAll_rev hx)) .non q⟩
theorem md_extend {a : Addr} {ds es : List PyData} (m : (a, .lst ds) ∈ L) (hz : ds.length + es.length ≤ sizeLine) (q : k (.dat .none) (up L a (.lst (ds ++ es)))) : MD C rExtend (.own a) [.dat (.list es)] L k := fun v vs H Q l o1 o2 f => by
  obtain ⟨rfl, ha⟩ := o1
  obtain ⟨w, rfl, o⟩ := rsAll_1 o2
  obtain ⟨xs, ex, hx⟩ := l.isLst m
  cases o with
  | @lst b zs _ e hy => exact ⟨a, b, xs, zs, rfl, rfl, ex, hid_sub _ _ e, by rw [rpAll_len hx, rpAll_len hy]; exact hz, f _ (.dat .none) _ _ (grow_up ha) keeps_up (l.up ha (rpAll_app hx hy)) .non q⟩
/-- xs[i] = e -/
theorem hs_setL {to ti : TE} (h : CP C te ε L fun r L1 => ∃ d, r = .dat d ∧ CP C to ε L1 fun x L2 => ∃ a, x = .own a ∧ CP C ti ε L2 fun y L3 => ∃ (ds : List PyData) (i : Int) (j : Nat), y = .dat (.int i) ∧ (a, .lst ds) ∈ L3 ∧ ixN ds.length i = some j ∧ P.nx ε (up L3 a (.lst (ds.set j d)))) :
    HS C (tAsg te (gSub to ti rSetL)) ε L P := fun σ H D R X E =>
  h σ H _ R X fun v r L1 H1 g1 k1 R1 o1 ⟨d, er, h1⟩ => h1 σ H1 _ R1 (X.grow g1) fun w x L2 H2 g2 k2 R2 o2 ⟨a, ex, h2⟩ => h2 σ H2 _ R2 ((X.grow g1).grow g2) fun u y L3 H3 g3 k3 R3 o3 ⟨ds, i, j, ey, m, ej, q⟩ => by
    subst er ex ey
    obtain ⟨rfl, _⟩ := o2
    cases o3
    obtain ⟨xs, exs, hx⟩ := R3.led.isLst m
    have ha : a ∈ L3.ks := Led.key m
    have g : Grow H3 L3 (upd H3 a (.lst (xs.set j v))) (up L3 a (.lst (ds.set j d))) := grow_up ha
    have od : Rp C.K (hid L3 H3) v d := rp_mono (g2.trans g3).ext o1
    exact ⟨a, xs, i, j, rfl, rfl, exs, by rw [rpAll_len hx]; exact ej, E.nx ε _ σ _ (((g1.trans g2).trans g3).trans g) (R3.grow g keeps_up (R3.led.up ha (rpAll_set od j hx))) q⟩
/-! an owned list is read -/
theorem cd_len_own {a : Addr} {ds : List PyData} (m : (a, .lst ds) ∈ L) (q : k (.dat (.int (ds.length : Int))) L) : CD C (rLenZ K) [.own a] L k := cd_val (fun vs H l o => by
  obtain ⟨v, rfl, o1⟩ := rsAll_1 o
  obtain ⟨rfl, ha⟩ := o1
  obtain ⟨xs, ex, hx⟩ := l.isLst m
  exact ⟨.int _, .int _, fun Q f => ⟨.ref a, ds.length, rfl, .inl ⟨xs, SqL.of ex, (rpAll_len hx).symm⟩, f⟩⟩) q
theorem od_ix_own {a : Addr} {ds : List PyData} {i : Int} {d : PyData} (m : (a, .lst ds) ∈ L) (e : atI ds i = some d) (q : k (.dat d) L) (hK : C.K = K := by rfl) : OD C (rIx K) (.own a) (.dat (.int i)) L k := by
  subst hK
  refine od_or1 (od_val (fun v w H l o1 o2 => ?_) q)
  obtain ⟨rfl, ha⟩ := o1
  cases o2
  obtain ⟨xs, ex, hx⟩ := l.isLst m
  obtain ⟨v, e3, r⟩ := atI_rp hx e
  exact ⟨v, r, fun Q f => ⟨a, xs, i, v, rfl, rfl, SqL.of ex, e3, f⟩⟩
/-- list(reversed(xs)) -/
theorem cp_lrev {a : Addr} {ds : List PyData} (h : CP C te ε L fun r L1 => r = .own a ∧ (a, .lst ds) ∈ L1 ∧ ∀ p, p ∉ L1.ks → k (.own p) (plus L1 p ds.reverse)) (hK : C.K = K := by rfl) : CP C (tLRev K te) ε L k := fun σ H Q R X z => by
  subst hK
  refine h σ H _ R X fun v r L1 H1 g1 k1 R1 o1 ⟨er, m, q⟩ => ?_
  subst er
  obtain ⟨rfl, ha⟩ := o1
  obtain ⟨xs, ex, hx⟩ := R1.led.isLst m
  refine ⟨a, xs, rfl, SqL.of ex, fun p hp => ?_⟩
  have g2 : Grow H1 L1 (upd H1 p (.lst xs.reverse)) (plus L1 p ds.reverse) := grow_own hp
  exact z _ (.own p) _ _ (g1.trans g2) (k1.trans keeps_own) (R1.grow g2 keeps_own (R1.led.own hp (rpAll_rev hx))) ⟨rfl, Led.key (List.mem_append_right _ List.mem_cons_self)⟩ (q p (R1.led.fresh hp))

/-! ### texts -/
theorem md_count1 {x : Str} {c : Nat} (q : k (.dat (.int (x.cps.toList.count c : Nat))) L) : MD C (fun x xs H Q => ∃ a b, x = .str a ∧ xs = [.str b] ∧ Q (.int (Txt.count a b)) H) (.dat (.str x)) [.dat (.str ⟨#[c]⟩)] L k := fun v vs H Q l o1 o2 f => by
  cases o1
  obtain ⟨w, rfl, o⟩ := rsAll_1 o2
  cases o
  refine ⟨x, ⟨#[c]⟩, rfl, rfl, f _ (.dat (.int (x.cps.toList.count c : Nat))) L H (Grow.refl H L) (Keeps.refl L) l ?_ q⟩
  have e : Txt.count x ⟨#[c]⟩ = (x.cps.toList.count c : Nat) := by
    unfold Txt.count
    rw [occ_one]
  rw [e]
  exact .int _
abbrev rJoinZ (K : PySem.W.Frag) : V → List V → Hp → VK → Prop := fun x xs H Q => ∃ a p, ∃ ys : List Str, x = .str a ∧ xs = [.ref p] ∧ (SqL K H p (ys.map V.str) ∨ SqT K H p (ys.map V.str)) ∧ (ys.map (·.length)).sum + ys.length * a.length ≤ 16777216 ∧ Q (.str (Txt.join a ys)) H
theorem md_join {a : Str} {ys : List Str} (hz : (ys.map (·.length)).sum + ys.length * a.length ≤ 16777216) (q : k (.dat (.str (Txt.join a ys))) L) : MD C (rJoinZ K) (.dat (.str a)) [.dat (.list (ys.map PyData.str))] L k := fun v vs H Q l o1 o2 f => by
  cases o1
  obtain ⟨w, rfl, o⟩ := rsAll_1 o2
  cases o with
  | @lst p xs _ e hx =>
    have ex := strs_of hx
    subst ex
    exact ⟨a, p, ys, rfl, rfl, .inl (SqL.of (hid_sub _ _ e)), hz, f _ (.dat (.str (Txt.join a ys))) L H (Grow.refl H L) (Keeps.refl L) l (.str _) q⟩
theorem md_joinO {a : Str} {p : Addr} {ys : List Str} (m : (p, .lst (ys.map PyData.str)) ∈ L) (hz : (ys.map (·.length)).sum + ys.length * a.length ≤ 16777216) (q : k (.dat (.str (Txt.join a ys))) L) : MD C (rJoinZ K) (.dat (.str a)) [.own p] L k := fun v vs H Q l o1 o2 f => by
  cases o1
  obtain ⟨w, rfl, o⟩ := rsAll_1 o2
  obtain ⟨rfl, ha⟩ := o
  obtain ⟨xs, ex, hx⟩ := l.isLst m
  have e2 := strs_of hx
  subst e2
  exact ⟨a, p, ys, rfl, rfl, .inl (SqL.of ex), hz, f _ (.dat (.str (Txt.join a ys))) L H (Grow.refl H L) (Keeps.refl L) l (.str _) q⟩
end
/-! text * int -/
def rRepS : R2 := fun x y H Q => ∃ (a : Str) (n : Int), x = .str a ∧ y = .int n ∧ (a.length ≤ 16 ∧ -(2 ^ 63) ≤ n ∧ n ≤ 1048576) ∧ Q (.str (Txt.mul a n)) H
theorem op_repS {X : Cx} : OpR X (binaryOp .Mult) rRepS := by
  intro pins s σ H x y v u Q I rx ry h
  obtain ⟨a, n, rfl, rfl, hz, q⟩ := h
  obtain ⟨t, rfl⟩ := rx
  obtain ⟨t', rfl⟩ := ry
  exact SB.mul (mulOk_of 16 1048576 hz.1 hz.2.2 hz.2.1 (by decide) (by decide)) fun t' k => ⟨.str _, H, I.tok _, ⟨_, rfl⟩, q⟩
def rMulY (K : PySem.W.Frag) : R2 := fun x y H Q => rMulZ K x y H Q ∨ rRepS x y H Q
theorem op_mulY {X : Cx} : OpR X (binaryOp .Mult) (rMulY X.K) := op_mulZ.or op_repS
/-! list.count of texts -/
def rCntS (K : PySem.W.Frag) : V → List V → Hp → VK → Prop := fun x xs H Q => ∃ (p : Addr) (ys : List Str) (z : Str), x = .ref p ∧ xs = [.str z] ∧ SqL K H p (ys.map V.str) ∧ Q (.int (ys.count z : Nat)) H
theorem countIn_strs (z : Str) : ∀ ys : List Str, PySem.Spec.countIn (.str z) (ys.map PyData.str) = (ys.count z : Nat)
  | [] => rfl
  | y :: r => by
    rw [List.map_cons, List.count_cons]
    unfold PySem.Spec.countIn
    rw [countIn_strs z r]
    have e : PySem.Spec.same (.str y) (.str z) = (y == z) := by simp [PySem.Spec.same]
    rw [e]
    cases h : (y == z) with
    | true =>
      rw [if_pos rfl, if_pos rfl]
      omega
    | false =>
      rw [if_neg (by decide), if_neg (by decide)]
      omega
theorem mt_cntS {X : Cx} : MtR X "list.count" (rCntS X.K) := by
  intro pins s σ H x xs v us Q I rx rxs h
  obtain ⟨p, ys, z, rfl, rfl, hs, q⟩ := h
  cases rx
  obtain ⟨u, rfl, ru⟩ := rxs.one
  obtain ⟨t, rfl⟩ := ru
  obtain ⟨its, rv, pl, hlen⟩ := I.list hs
  refine count_list_strs pl.isList rv.strs ?_
  rw [countIn_strs]
  exact ⟨.int _, H, I.tok _, ⟨_, rfl⟩, q⟩
end Z

set_option Elab.async false
set_option linter.all false
set_option maxRecDepth 100000
set_option maxHeartbeats 2000000
namespace Z
open PySem PySem.Spec PyProof.Rows L2
theorem upd_id {H : Hp} {a : Addr} {o : HO} (h : H a = some o) : upd H a o = H := by
  funext b
  unfold upd
  by_cases e : b = a
  · rw [if_pos e, e, h]
  · rw [if_neg e]
theorem rpAll_nat {K : PySem.W.Frag} {H : Hp} (ns : List Nat) : RpAll K H (ns.map natV) (ns.map natD) := rpAll_map ns fun n _ => .int n
theorem nats_of {K : PySem.W.Frag} {H : Hp} : ∀ {vs : List V} {l : List Nat}, RpAll K H vs (l.map natD) → vs = l.map natV
  | _, [], .nil => rfl
  | _, i :: r, .cons h t => by
    cases h
    rw [nats_of t] <;> rfl
section
variable {C : Cz} {ε ε' : Ev} {L L' M2 : Led} {k : Rs → Led → Prop} {K : PySem.W.Frag} {te : TE} {P : Post} {t : TS} {H H' : Hp}
/-- the draws at l are some numbers -/
theorem LOk.open_ {l : Addr} (o : LOk K L H) (m : (l, .drw) ∈ L) : ∃ ns : List Nat, LOk K (Z.up L l (.lst (ns.map natD))) H := by
  obtain ⟨ns, e⟩ := o.isDrw m
  have q := o.up (ys := ns.map natV) (ds := ns.map natD) (Led.key m) (rpAll_nat ns)
  rw [upd_id e] at q
  exact ⟨ns, q⟩
theorem grow_re {L M2 : Led} (h : L.ks = M2.ks) : Grow H L H M2 := ⟨fun _ _ e _ => e, fun a ha => .inl (by rw [h]; exact ha)⟩
theorem keeps_re {L M2 : Led} (h : L.ks = M2.ks) : Keeps L M2 := fun a ha => by rw [← h]; exact ha
/-! ### less of the ledger -/
inductive MoLe : Mo → Mo → Prop
  | same (m : Mo) : MoLe m m
  | drw (ns : List Nat) : MoLe (.lst (ns.map natD)) .drw
def Wk (L' M2 : Led) : Prop := ∃ L1 : Led, L1.Sublist L' ∧ Paired (fun p q => q.1 = p.1 ∧ MoLe p.2 q.2) L1 M2
theorem paired_ks : ∀ {L1 M2 : Led}, Paired (fun p q => q.1 = p.1 ∧ MoLe p.2 q.2) L1 M2 → M2.ks = L1.ks
  | _, _, .nil => rfl
  | _, _, .cons h t => by
    unfold Led.ks
    rw [List.map_cons, List.map_cons, h.1]
    exact congrArg _ (paired_ks t)
theorem Wk.sub (w : Wk L' M2) : ∀ a ∈ M2.ks, a ∈ L'.ks := fun a ha => by
  obtain ⟨L1, s, p⟩ := w
  rw [paired_ks p] at ha
  exact (s.map Prod.fst).subset ha
theorem Wk.ext (w : Wk L' M2) : Ext (hid L' H) (hid M2 H) := fun a o e => by
  by_cases ha : a ∈ L'.ks
  · rw [hid_in ha] at e
    cases e
  · rw [hid_out ha] at e
    rw [hid_out fun z => ha (w.sub a z)]
    exact e
theorem Wk.back (w : Wk L' M2) : ∀ q ∈ M2, ∃ m, (q.1, m) ∈ L' ∧ MoLe m q.2 := fun q hq => by
  obtain ⟨L1, s, p⟩ := w
  have key : ∀ {L1 M2 : Led}, Paired (fun p q => q.1 = p.1 ∧ MoLe p.2 q.2) L1 M2 → q ∈ M2 → ∃ m, (q.1, m) ∈ L1 ∧ MoLe m q.2 := by
    intro L1 M2 pp
    induction pp with
    | nil => intro h; cases h
    | cons h t ih =>
      intro hm
      rcases List.mem_cons.mp hm with e | e
      · subst e
        exact ⟨_, by rw [h.1]; exact List.mem_cons_self, h.2⟩
      · obtain ⟨m, a, b⟩ := ih e
        exact ⟨m, List.mem_cons_of_mem _ a, b⟩
  obtain ⟨m, a, b⟩ := key p hq
  exact ⟨m, s.subset a, b⟩
theorem LOk.wk (l : LOk K L' H) (w : Wk L' M2) : LOk K M2 H := by
  refine ⟨?_, fun q hq => ?_⟩
  · obtain ⟨L1, s, p⟩ := w
    rw [paired_ks p]
    exact (s.map Prod.fst).nodup l.nd
  · obtain ⟨m, hm, le⟩ := w.back q hq
    have o := l.at_ _ hm
    obtain ⟨a, m2⟩ := q
    have le : MoLe m m2 := le
    have o : MoOk K L' H a m := o
    generalize hm2 : m2 = mm at le
    cases le with
    | same =>
      subst hm2
      cases m2 with
      | drw => exact o
      | lst ds =>
        obtain ⟨xs, e, r⟩ := o
        exact ⟨xs, e, rpAll_mono w.ext r⟩
    | drw ns =>
      obtain ⟨xs, e, r⟩ := o
      have ex := nats_of r
      subst ex
      exact ⟨ns, e⟩
theorem Grow.wk (g : Grow H L H' L') (w : Wk L' M2) : Grow H L H' M2 := ⟨g.old, fun a ha => g.new a (w.sub a ha)⟩
theorem Grow.wk1 (g : Grow H M2 H' L) (w : Wk L' M2) : Grow H L' H' L := ⟨fun a o e n => g.old a o e fun z => n (w.sub a z), fun a ha => (g.new a ha).imp_left fun z => w.sub a z⟩
inductive RsWk (L' M2 : Led) : Rs → Rs → Prop
  | dat (d : PyData) : RsWk L' M2 (.dat d) (.dat d)
  | raw (v : V) : RsWk L' M2 (.raw v) (.raw v)
  | scr (ns : List Int) : RsWk L' M2 (.scr ns) (.scr ns)
  | own {a : Addr} (h : a ∈ M2.ks) : RsWk L' M2 (.own a) (.own a)
  | frz {a : Addr} {ds : List PyData} (m : (a, .lst ds) ∈ L') (h : a ∉ M2.ks) : RsWk L' M2 (.own a) (.dat (.list ds))
theorem RsOk.wk {v : V} {r r2 : Rs} (o : RsOk K L' H v r) (l : LOk K L' H) (w : Wk L' M2) (x : RsWk L' M2 r r2) : RsOk K M2 H v r2 := by
  cases x with
  | dat d => exact rp_mono w.ext o
  | raw v => exact o
  | scr ns =>
    obtain ⟨a, e, h⟩ := o
    exact ⟨a, e, ext_l w.ext h⟩
  | own h => exact ⟨o.1, h⟩
  | frz m h =>
    obtain ⟨rfl, _⟩ := o
    obtain ⟨xs, e, r⟩ := l.isLst m
    exact .lst (by rw [hid_out h]; exact e) (rpAll_mono w.ext r)
def EvWk (L' M2 : Led) (ε ε2 : Ev) : Prop := ε.length = ε2.length ∧ ∀ (i : Nat) (r2 : Rs), ε2[i]? = some (some r2) → ∃ r, ε[i]? = some (some r) ∧ RsWk L' M2 r r2
theorem Rel.wk {σ : L2.St} (R : Rel K L' ε σ H) (w : Wk L' M2) (e : EvWk L' M2 ε ε') : Rel K M2 ε' σ H := by
  refine ⟨R.len.trans e.1, fun i r2 hr => ?_, R.led.wk w⟩
  obtain ⟨r, e1, x⟩ := e.2 i r2 hr
  obtain ⟨v, e2, o⟩ := R.slot i r e1
  exact ⟨v, e2, o.wk R.led w x⟩
theorem hs_wk (w : Wk L' M2) (e : EvWk L' M2 ε ε') (h : HS C t ε' M2 P) : HS C t ε L' P := fun σ H D R X E =>
  h σ H D (R.wk w e) (fun c e' s' l' h' g => X c e' s' l' h' (g.wk1 w)) ⟨fun e' l' s' h' g => E.nx e' l' s' h' (g.wk1 w), fun v r l' h' g => E.rt v r l' h' (g.wk1 w), fun e' l' s' h' g => E.bk e' l' s' h' (g.wk1 w), fun e' l' s' h' g => E.ct e' l' s' h' (g.wk1 w)⟩
theorem hs_retW (h : CP C te ε L fun r L1 => ∃ M2 r2, Wk L1 M2 ∧ RsWk L1 M2 r r2 ∧ P.rt r2 M2) : HS C (tRet te) ε L P := fun σ H D R X E =>
  h σ H _ R X fun v r L1 H1 g1 k1 R1 o1 ⟨M2, r2, w, x, q⟩ => E.rt v r2 M2 H1 (g1.wk w) (R1.led.wk w) (o1.wk R1.led w x) q
theorem paired_le_refl : ∀ L : Led, Paired (fun p q => q.1 = p.1 ∧ MoLe p.2 q.2) L L
  | [] => .nil
  | p :: r => .cons ⟨rfl, .same _⟩ (paired_le_refl r)
theorem wk_of_sub (h : M2.Sublist L') : Wk L' M2 := ⟨M2, h, paired_le_refl M2⟩
theorem wk_plus {p : Addr} {ds : List PyData} : Wk (plus L p ds) L := wk_of_sub (List.sublist_append_left _ _)
theorem wk_refl : Wk L L := wk_of_sub (List.Sublist.refl _)
/-- numbers at l: draws again -/
theorem wk_drw {l : Addr} {ns : List Nat} (m : (l, .drw) ∈ L) : Wk (up L l (.lst (ns.map natD))) (up L l .drw) := by
  refine ⟨_, List.Sublist.refl _, ?_⟩
  clear m
  unfold up
  induction L with
  | nil => exact .nil
  | cons p r ih =>
    refine .cons ?_ ih
    show (if p.1 = l then (l, Mo.drw) else p).1 = (if p.1 = l then (l, Mo.lst (ns.map natD)) else p).1 ∧ MoLe (if p.1 = l then (l, Mo.lst (ns.map natD)) else p).2 (if p.1 = l then (l, Mo.drw) else p).2
    by_cases h : p.1 = l
    · rw [if_pos h, if_pos h]
      exact ⟨rfl, .drw ns⟩
    · rw [if_neg h, if_neg h]
      exact ⟨rfl, .same _⟩
theorem up_up {l : Addr} {m m' : Mo} : up (up L l m) l m' = up L l m' := by
  unfold up
  rw [List.map_map]
  refine List.map_congr_left fun p _ => ?_
  show (if (if p.1 = l then (l, m) else p).1 = l then (l, m') else (if p.1 = l then (l, m) else p)) = _
  by_cases h : p.1 = l
  · rw [if_pos h, if_pos rfl, if_pos h]
  · rw [if_neg h, if_neg h]
theorem up_self {l : Addr} {m : Mo} (u : ∀ m', (l, m') ∈ L → m' = m) : up L l m = L := by
  unfold up
  refine (List.map_congr_left fun p hp => ?_).trans (List.map_id L)
  by_cases h : p.1 = l
  · rw [if_pos h]
    obtain ⟨a, m2⟩ := p
    have h' : a = l := h
    subst h'
    rw [u m2 hp]
    rfl
  · rw [if_neg h]
    rfl
theorem wk_back {l : Addr} {ns : List Nat} (e : up L l .drw = L) : Wk (up L l (.lst (ns.map natD))) L := by
  have w : Wk (up L l (.lst (ns.map natD))) (up L l .drw) := by
    refine ⟨_, List.Sublist.refl _, ?_⟩
    unfold up
    clear e
    induction L with
    | nil => exact .nil
    | cons p r ih =>
      refine .cons ?_ ih
      show (if p.1 = l then (l, Mo.drw) else p).1 = (if p.1 = l then (l, Mo.lst (ns.map natD)) else p).1 ∧ MoLe (if p.1 = l then (l, Mo.lst (ns.map natD)) else p).2 (if p.1 = l then (l, Mo.drw) else p).2
      by_cases h : p.1 = l
      · rw [if_pos h, if_pos h]
        exact ⟨rfl, .drw ns⟩
      · rw [if_neg h, if_neg h]
        exact ⟨rfl, .same _⟩
  rw [e] at w
  exact w
theorem hs_open {l : Addr} (m : (l, .drw) ∈ L) (h : ∀ ns : List Nat, up L l .drw = L → HS C t ε (up L l (.lst (ns.map natD))) P) : HS C t ε L P := fun σ H D R X E => by
  obtain ⟨ns, o⟩ := R.led.open_ m
  have g : Grow H L H (up L l (.lst (ns.map natD))) := grow_re (up_ks _ _ _).symm
  exact h ns (up_self fun m' hm => R.led.uniq hm m) σ H D (R.grow g (keeps_re (up_ks _ _ _).symm) o) (X.grow g) (E.grow g)
/-- an owned list is given up at the statement: all names of it are data -/
def frz (p : Addr) (ds : List PyData) : Option Rs → Option Rs
  | some (.own a) => if a = p then some (.dat (.list ds)) else some (.own a)
  | r => r
theorem hs_frz {p : Addr} {ds : List PyData} (hp : p ∉ L.ks) (ho : ∀ a, some (Rs.own a) ∈ ε → a = p ∨ a ∈ L.ks) (h : HS C t (ε.map (frz p ds)) L P) : HS C t ε (plus L p ds) P := by
  refine hs_wk wk_plus ⟨by rw [List.length_map], fun i r2 hr => ?_⟩ h
  rw [List.getElem?_map] at hr
  cases e : ε[i]? with
  | none =>
    rw [e] at hr
    cases hr
  | some o =>
    rw [e] at hr
    cases o with
    | none => cases hr
    | some r =>
      refine ⟨r, rfl, ?_⟩
      cases r with
      | dat d => cases hr; exact .dat d
      | raw v => cases hr; exact .raw v
      | scr ns => cases hr; exact .scr ns
      | own a =>
        have hr' : frz p ds (some (.own a)) = some r2 := by
          have := hr
          simpa using this
        have hr' : (if a = p then some (Rs.dat (.list ds)) else some (.own a)) = some r2 := hr'
        by_cases z : a = p
        · rw [if_pos z] at hr'
          cases hr'
          subst z
          exact .frz (List.mem_append_right _ List.mem_cons_self) hp
        · rw [if_neg z] at hr'
          cases hr'
          rcases ho a (List.mem_of_getElem? e) with q | q
          · exact absurd q z
          · exact .own q
end
end Z

set_option Elab.async false
set_option linter.all false
set_option maxRecDepth 100000
set_option maxHeartbeats 2000000
/-! errors: raise, try .. except Base as e, a def called with the error in the suite -/
namespace Z
open PySem PySem.Spec PyProof.Rows L2
/-- what a def promises that is called within an except suite with the error itself: a its address, D its class -/
structure FnQ (P : Program) (w : World) (K : PySem.W.Frag) (mg : Str → Option Value) (base : Heap) (k : Nat) (f : Addr) (fd : FuncData) (ps : List Str) (sp : Addr → Addr → Sp) : Prop where
  len : ∀ a D vs H Q E, sp a D vs H Q E → vs.length = ps.length
  run : ∀ (A : Around) (outer : List Env) (s : Shared) (H : Hp) (args : Args) (us : List Value) (vs : List V) (Q : VK) (p : Addr × Obj) (D : Addr), L2H.RoomH k A → L2H.PinOk outer H s p → Zc (.ref D) none p.2 → (∃ fs, p.2.data = .fields fs) →
    Env0 P w K mg base A outer s H → BindsTo s fd args (ps.zip us) → Vals vs us → sp p.1 D vs H Q E0 → codeAny (model P w) A (.call (.ref f) args) (CR CX0 outer P w H s Q E0) s
section
variable {P : Program} {w : World} {K : PySem.W.Frag} {mg : Str → Option Value} {base : Heap}
theorem fn_q {k : Nat} {f : Addr} {fd : FuncData} {x qual : Str} {st : Stmt} {N ps : List Str} {sp : Addr → Addr → Sp} (F : Fun K x qual st f fd) (S : FnScope N ps (defScope st)) (len : ∀ a D vs H Q E, sp a D vs H Q E → vs.length = ps.length)
    (body : ∀ (cdv : Value) (A : Around) (outer : List Env) (s : Shared) (H : Hp) (vs : List V) (Q : VK) (p : Addr × Obj) (D : Addr), L2H.RoomH k (A.deeper (envOfC qual (defScope st) s.heap.objs.size f cdv)) → Zc (.ref D) none p.2 → (∃ fs, p.2.data = .fields fs) → sp p.1 D vs H Q E0 →
      ∃ t, PSs (L2H.cxH CX0 P w K mg base N qual (defScope st) f cdv A outer s H E0 p) (defBody st) t ∧ t { nx := fun _ H' => Q .non H', rt := Q } (L2.start N vs) H) :
    FnQ P w K mg base (k + 1) f fd ps sp := by
  obtain ⟨oc, od, kV, doc, pm, an, cdv, ct, osl, rfl, lk, hcd⟩ := F.ex
  refine ⟨len, fun A outer s H args us vs Q p D hr hpin hz hfs e0 hb r hsp => ?_⟩
  have old : ∀ b o, base.get? b = some o → s.heap.get? b = some o := fun b o e => (e0.bs b o e).1
  have inK : K.In s.heap := e0.mod.kin.keeps old
  have par : ∀ y ∈ ps.zip us, (defScope st).names.lookup y.1 = some .local ∨ ((defScope st).names.lookup y.1 = some .cell ∧ ((cellsFrom (s.heap.objs.size + 1) (defScope st).names []).lookup y.1).isSome = true) := fun ⟨n, v⟩ hy => by
    rcases S.par n (List.of_mem_zip hy).1 with q | q
    · exact .inl q
    · exact .inr ⟨q, PySem.W.cellsFrom_some _ _ _ (.inl q)⟩
  refine codeAny_call_function hr.depth (inK _ _ lk) rfl S.co S.gen rfl (PySem.W.codeRec_of inK hcd) (hb _ _ _ _ (wpAny_newFunctionEnv_cells S.kind par fun env he s1 x => ?_))
  subst he
  refine ⟨(e0.mod.nolimit.keeps old).keeps x.toInCall.keep, codeAny_func ?_⟩
  obtain ⟨t, ht, hq⟩ := body cdv A outer s H vs Q p D (hr.deeper _) hz hfs hsp
  have J : Inv (L2H.cxH CX0 P w K mg base N qual (defScope st) f cdv A outer s H E0 p) [] (L2.start N vs) H s1 := L2H.inv_startH S hpin e0 (len _ _ _ _ _ _ hsp) r x
  refine wpAny_mono (ht.run [] s1 (L2.start N vs) H _ J hq) (fun fl s2 h2 => ?_) fun e s2 h2 => h2
  have done : ∀ {σ2 : L2.St} {H2 : Hp} {v : V} {u : Value}, Inv (L2H.cxH CX0 P w K mg base N qual (defScope st) f cdv A outer s H E0 p) [] σ2 H2 s2 → RelV v u → Q v H2 → CE outer P w H s Q u s2 := fun {σ2 H2 v u} I rv q => ⟨v, H2, I.os, I.bare, I.base, I.hok, rv, q⟩
  cases fl with
  | ret u => exact let ⟨v, σ2, H2, I, rv, q⟩ := h2; done I rv q
  | next => exact let ⟨σ2, H2, I, q⟩ := h2; done (v := V.non) (u := Value.none) I rfl q
  | brk => exact let ⟨_, _, _, q⟩ := h2; False.elim q
  | cont => exact let ⟨_, _, _, q⟩ := h2; False.elim q
end
/-- its call in the suite that holds the error at a -/
def tCallQ (sp : Addr → Addr → Sp) (a : Addr) (cls : Value) (d : Option Addr) (t : TA) : TE := fun σ H Q => d = none ∧ ∃ D, cls = .ref D ∧ t σ H fun vs H1 => sp a D vs H1 Q E0
theorem pe_callQ {X : Cx} {k : Nat} {f : Addr} {fd : FuncData} {ps : List Str} {sp : Addr → Addr → Sp} {x : Str} {q pos : Pos} {e : Expr} {es : List Expr} {t : TA} {a : Addr} {oe : Obj} {cls : Value} {d : Option Addr} {pn : List (Addr × Obj)}
    (F : FnQ X.prog X.w X.K X.mg X.base k f fd ps sp) (hr : L2H.RoomH k (X.A.mark (some (.ref a)))) (hz : Zc cls d oe) (hfs : ∃ vs, oe.data = .fields vs) (hg : Gl X x) (hm : X.mg x = some (.ref f)) (hk : PySem.W.keepIn X.K (.ref f) = true) (hb : Binds X.K fd ps [])
    (ha : PA (X.suite a ((a, oe) :: pn)) (e :: es) t) (hdb : (x == ("__debug__" : Str)) = false := by decide) (he : starEach (e :: es) X.env = (false, eval e X.env) :: starEach es X.env := by rfl) (hpl : (backTo pos (starEach es X.env)).any (·.1) = false := by rfl) :
    PE (X.suite a ((a, oe) :: pn)) (.Call (.Name x q) (e :: es) [] pos) (tCallQ sp a cls d t) := by
  refine ⟨fun pins s σ H Q I h => ?_⟩
  obtain ⟨rfl, D, rfl, h⟩ := h
  refine wpAny_Call_Name_kw (ld_glob (X := X.suite a ((a, oe) :: pn)) I hg hm ?_ hdb)
  refine PySem.W.callWith_K (h₀ := X.base) I.ok.mod.kin hk (thn (ha.run pos pins s σ H _ I h) fun us s1 ⟨vs, H1, I1, r, q⟩ => ⟨I1.kIn, ?_⟩) he hpl
  have hl : us.length = ps.length := by
    rw [← r.length]
    exact F.len _ _ _ _ _ _ q
  have b := hb s1 us I1.kIn (by rw [List.append_nil]; exact hl)
  rw [List.append_nil] at b
  have P1 := I1.pin (a, oe) (List.mem_append_left _ List.mem_cons_self)
  have pin : L2H.PinOk X.stack H1 s1 (a, oe) := ⟨P1.1, P1.2.1, fun hm => (List.mem_cons.mp (I1.stkSub a hm)).elim P1.2.2.1 P1.2.2.2.1, P1.2.2.2.2⟩
  refine wpAny_call (codeAny_mono (F.run (X.A.mark (some (.ref a))) X.stack s1 H1 ⟨us, []⟩ us vs Q (a, oe) D hr pin hz hfs I1.env0 b r q) fun res s2 hq => ?_)
  cases res with
  | error e => exact False.elim hq
  | ok fl =>
    cases fl with
    | ret u => exact I1.after hq
    | next => exact False.elim hq
    | brk => exact False.elim hq
    | cont => exact False.elim hq
/-- isinstance(e, c) in such a def -/
theorem call_isQ {X : Cx} {p : Addr × Obj} {D : Addr} (C : ExcC X.K D) (hp : p ∈ X.pn) (hz : Zc (.ref D) none p.2) (hf : ∃ vs, p.2.data = .fields vs) : CallR X (.builtin "isinstance") (rIsE X.K D p.1) := by
  intro pins s σ H xs us Q I r h
  obtain ⟨c, cv, b, rfl, hcv, e, q⟩ := h
  obtain ⟨u1, u2, rfl, r1, r2⟩ := Vals.two r
  obtain rfl : u1 = Value.ref p.1 := r1
  have ec := hcv _ r2
  subst ec
  obtain ⟨hget, _⟩ := I.pin p (List.mem_append_left _ hp)
  obtain ⟨vs, hv⟩ := hf
  obtain ⟨pa, po⟩ := p
  obtain ⟨oc, od, oda, osl⟩ := po
  obtain ⟨h1, h2⟩ := hz
  dsimp only at h1 h2 hv hget
  subst h1 h2 hv
  have J : PySem.W.InstAt s.heap pa ⟨.ref D, none, .fields vs, osl⟩ D none := ⟨hget, rfl, rfl, trivial⟩
  exact PySem.W.kia_one (PySem.W.handS_kitx_exc C.hg C.hk C.hs C.hd C.ha C.hn C.ht C.hm) I.kIn J e (fun z => nomatch z) fun tk => ⟨.bl b, H, I.kept (t' := tk) fun _ _ z => z, rfl, q⟩
/-- the flags of an error of the class D: isinstance with each of the classes cs -/
def spFlags (K : PySem.W.Frag) (cs : List Addr) : Addr → Addr → Sp := fun a D vs H Q _ => vs = [.ref a] ∧ ExcC K D ∧ ∃ bs : List Bool, Paired (fun c b => PySem.W.kitOne K (.ref D) (.ref c) = some b) cs bs ∧ ∀ p, H p = none → Q (.ref p) (upd H p (.lst (bs.map V.bl)))

section
variable {C : Cz} {ε : Ev} {L : Led} {k : Rs → Led → Prop} {ta : TA} {P : Post}
/-- raise -/
theorem hs_raise {c : Addr} (h : C.kx c ε L) : HS C (fun _ σ H => C.W (.ref c) none σ H) ε L P := fun σ H D R X E => X c ε σ L H (Grow.refl H L) R h
/-- try: .. except c₀ as n (slot i) -/
theorem hs_tryAs {K : PySem.W.Frag} {c₀ : Value} {i : Nat} {tb : WX → TS} {ts : Addr → Value → Option Addr → TS} {Wout : WX} (kx : KX) (hb : ∀ W, HS ⟨C.K, W, kx⟩ (tb W) ε L P)
    (hx : ∀ c ε' L', kx c ε' L' → PySem.W.exmOne K (.ref c) c₀ = some true ∧ ∀ a, HS C (ts a (.ref c) none) (ε'.set i (some (.raw (.ref a)))) L' { nx := fun e l => P.nx (e.set i none) l, rt := P.rt, bk := fun e l => P.bk (e.set i none) l, ct := fun e l => P.ct (e.set i none) l }) (hK : C.K = K := by rfl) :
    HS C (fun D σ H => tb (wAs K c₀ i ts Wout D) D σ H) ε L P := fun σ H D R X E => by
  subst hK
  refine hb (wAs C.K c₀ i ts Wout D) σ H D R (fun c e' s' l' h' g r q => ?_) E
  obtain ⟨hm, hs⟩ := hx c e' l' q
  refine ⟨true, hm, fun _ a ha => ?_, fun z => nomatch z⟩
  exact hs a _ h' _ (rel_set r rfl) (X.grow g) ⟨fun e2 l2 s2 h2 g2 r2 q2 => (E.grow g).nx _ l2 _ h2 g2 (rel_none r2 i) q2, (E.grow g).rt, fun e2 l2 s2 h2 g2 r2 q2 => (E.grow g).bk _ l2 _ h2 g2 (rel_none r2 i) q2, fun e2 l2 s2 h2 g2 r2 q2 => (E.grow g).ct _ l2 _ h2 g2 (rel_none r2 i) q2⟩
/-- flags(e) in the suite -/
theorem cp_flags {K : PySem.W.Frag} {cs : List Addr} {a c : Addr} {bs : List Bool} (x : ExcC K c) (hp : Paired (fun c' b => PySem.W.kitOne K (.ref c) (.ref c') = some b) cs bs) (h : CA C ta ε L fun rs L1 => rs = [.raw (.ref a)] ∧ k (.dat (.list (bs.map PyData.bool))) L1) : CP C (tCallQ (spFlags K cs) a (.ref c) none ta) ε L k := fun σ H Q R X z =>
  ⟨rfl, c, rfl, h σ H _ R X fun vs rs L1 H1 g1 k1 R1 o1 ⟨e, q⟩ => by
    subst e
    obtain ⟨v, rfl, o⟩ := rsAll_1 o1
    have o' : v = .ref a := o
    subst o'
    refine ⟨rfl, x, bs, hp, fun p hp => ?_⟩
    have g2 : Grow H1 L1 (upd H1 p (.lst (bs.map V.bl))) L1 := grow_new hp
    exact z _ (.dat (.list (bs.map PyData.bool))) L1 _ (g1.trans g2) k1 (R1.grow g2 (Keeps.refl _) (R1.led.new hp)) (.lst (by rw [hid_out (R1.led.fresh hp)]; exact upd_same) (rpAll_bools bs)) q⟩
end
end Z

set_option Elab.async false
set_option linter.all false
set_option maxRecDepth 100000
set_option maxHeartbeats 2000000
namespace Z
open PySem PySem.Spec PyProof.Rows L2
def rtOk (L : Led) (k : Rs → Led → Prop) (r : Rs) (L' : Led) : Prop := ∃ L2 r2, Wk L' L2 ∧ RsWk L' L2 r r2 ∧ Keeps L L2 ∧ k r2 L2
theorem rt_dat {L : Led} {k : Rs → Led → Prop} {d : PyData} (h : k (.dat d) L) : rtOk L k (.dat d) L := ⟨L, _, wk_refl, .dat d, Keeps.refl L, h⟩
/-- behind local lists -/
theorem rt_sub {L L' : Led} {k : Rs → Led → Prop} {d : PyData} (s : L.Sublist L') (h : k (.dat d) L) : rtOk L k (.dat d) L' := ⟨L, _, wk_of_sub s, .dat d, Keeps.refl L, h⟩
theorem rt_plus {L : Led} {k : Rs → Led → Prop} {d : PyData} {p : Addr} {ds : List PyData} (h : k (.dat d) L) : rtOk L k (.dat d) (plus L p ds) := rt_sub (List.sublist_append_left _ _) h
/-- a local list is handed out -/
theorem rt_own {L : Led} {k : Rs → Led → Prop} {p : Addr} {ds : List PyData} (hp : p ∉ L.ks) (h : k (.dat (.list ds)) L) : rtOk L k (.own p) (plus L p ds) := ⟨L, _, wk_plus, .frz (List.mem_append_right _ List.mem_cons_self) hp, Keeps.refl L, h⟩
theorem rt_draws {L : Led} {k : Rs → Led → Prop} {l : Addr} {ns : List Nat} {d : PyData} (e : up L l .drw = L) (h : k (.dat d) L) : rtOk L k (.dat d) (up L l (.lst (ns.map natD))) := ⟨L, _, wk_back e, .dat d, Keeps.refl L, h⟩
def dPost (L : Led) (k : Rs → Led → Prop) : Post := { nx := fun _ L' => rtOk L k (.dat .none) L', rt := rtOk L k }
theorem run_body {C : Cz} {t : TS} {H : Hp} {N : List Str} {vs : List V} {rs : List Rs} {L : Led} {k : Rs → Led → Prop} {Q : VK} (h : HS C t (ev0 N.length rs) L (dPost L k)) (o : RsAll C.K L H vs rs) (l : LOk C.K L H) (X : ExOk C L H)
    (z : ∀ v r L' H', Grow H L H' L' → Keeps L L' → LOk C.K L' H' → RsOk C.K L' H' v r → k r L' → Q v H') : t { nx := fun _ H' => Q .non H', rt := Q } (L2.start N vs) H :=
  h _ H _ (rel_start o l) X ⟨fun e L' s H' g r ⟨L2, r2, a, b, c, d⟩ => z .non r2 L2 H' (g.wk a) c (r.led.wk a) (RsOk.wk (r := .dat .none) .non r.led a b) d, fun v r L' H' g l o ⟨L2, r2, a, b, c, d⟩ => z v r2 L2 H' (g.wk a) c (l.wk a) (o.wk l a b) d, fun _ _ _ _ _ _ f => f.elim, fun _ _ _ _ _ _ f => f.elim⟩
theorem rsAll_len {K : PySem.W.Frag} {L : Led} {H : Hp} {vs : List V} {rs : List Rs} (h : RsAll K L H vs rs) : vs.length = rs.length := Paired.length h
section
variable {P : Program} {w : World} {K : PySem.W.Frag} {mg : Str → Option Value} {base : Heap} {x qual : Str} {st : Stmt} {f : Addr} {fd : FuncData} {N ps : List Str} {k : Nat} {d : DSp}
/-- a def that raises nothing -/
theorem fn_z (F : Fun K x qual st f fd) (S : FnScope N ps (defScope st)) (len : ∀ rs L k x, d rs L k x → rs.length = ps.length)
    (body : ∀ (cdv : Value) (A : Around) (outer : List Env) (s : Shared) (H : Hp) (E : XK), Room k (A.deeper (envOfC qual (defScope st) s.heap.objs.size f cdv)) →
      ∃ t, PSs (cxOf CX0 P w K mg base N qual (defScope st) f cdv A outer s H E).nox (defBody st) t ∧ ∀ rs L q x, d rs L q x → HS (C0 K) t (ev0 N.length rs) L (dPost L q)) :
    FnOk P w K mg base CX0 (k + 1) f fd ps (lift K d) := by
  refine F.ok S (fun vs H Q E h => ?_) (fun cdv A outer s H vs Q E hr h => ?_)
  · obtain ⟨rs, L, q, x, o, _, hd, _⟩ := h
    rw [rsAll_len o]
    exact len rs L q x hd
  · obtain ⟨rs, L, q, x, o, l, hd, z, _⟩ := h
    obtain ⟨t, ht, hb⟩ := body cdv A outer s H E hr
    exact ⟨t, ht, run_body (hb rs L q x hd) o l exOk0 z⟩
/-- a def that may raise -/
theorem fn_zX (F : Fun K x qual st f fd) (S : FnScope N ps (defScope st)) (len : ∀ rs L k x, d rs L k x → rs.length = ps.length)
    (body : ∀ (cdv : Value) (A : Around) (outer : List Env) (s : Shared) (H : Hp) (E : XK), Room k (A.deeper (envOfC qual (defScope st) s.heap.objs.size f cdv)) →
      ∃ t, PSs (cxOf (L2.CX P w) P w K mg base N qual (defScope st) f cdv A outer s H E) (defBody st) t ∧
        ∀ rs L q x, d rs L q x → HS ⟨K, fun cls d _ H => E cls d H, fun c _ L' => Keeps L L' ∧ x c L'⟩ t (ev0 N.length rs) L (dPost L q)) :
    FnOk P w K mg base (L2.CX P w) (k + 1) f fd ps (lift K d) := by
  refine F.okX S (fun vs H Q E h => ?_) (fun cdv A outer s H vs Q E hr h => ?_)
  · obtain ⟨rs, L, q, x, o, _, hd, _⟩ := h
    rw [rsAll_len o]
    exact len rs L q x hd
  · obtain ⟨rs, L, q, x, o, l, hd, z, zx⟩ := h
    obtain ⟨t, ht, hb⟩ := body cdv A outer s H E hr
    exact ⟨t, ht, run_body (hb rs L q x hd) o l (fun c e s' L' H' g r f => zx c L' H' g f.1 r.led f.2) z⟩
end

/-- a def of the text as it stands: where, its row, how its arguments bind -/
structure DefAt (K : PySem.W.Frag) (mg : Str → Option Value) (x : Str) (st : Stmt) (ps : List Str) (f : Addr) (fd : FuncData) : Prop where
  g : mg x = some (.ref f)
  F : Fun K x x st f fd
  b : Binds K fd ps []
/-- a def that keeps its promise, as its callers want it -/
def Has (P : Program) (w : World) (K : PySem.W.Frag) (mg : Str → Option Value) (base : Heap) (k : Nat) (x : Str) (ps : List Str) (d : DSp) : Prop :=
  ∃ f fd, mg x = some (.ref f) ∧ PySem.W.keepIn K (.ref f) = true ∧ Binds K fd ps [] ∧ FnOk P w K mg base CX0 k f fd ps (lift K d)
def HasX (P : Program) (w : World) (K : PySem.W.Frag) (mg : Str → Option Value) (base : Heap) (k : Nat) (x : Str) (ps : List Str) (d : DSp) : Prop :=
  ∃ f fd, mg x = some (.ref f) ∧ PySem.W.keepIn K (.ref f) = true ∧ Binds K fd ps [] ∧ FnOk P w K mg base (L2.CX P w) k f fd ps (lift K d)
theorem ite_b {b : Bool} {A B : Prop} (h1 : b = true → A) (h2 : b = false → B) : if b = true then A else B := by
  cases b with
  | true => exact h1 rfl
  | false => exact h2 rfl
theorem ite_t {A B : Prop} (h : A) : if true = true then A else B := h
theorem ite_f {A B : Prop} (h : B) : if false = true then A else B := by
  rw [if_neg (by decide)]
  exact h
/-! more operators -/
def rGtZ : R2 := rI0 fun i j => .bl (decide (j < i))
theorem op_gtZ {X : Cx} : OpR X (compareOp .Gt) rGtZ := op_gt
def rLeZ : R2 := rI0 fun i j => .bl (decide (i ≤ j))
theorem op_leZ {X : Cx} : OpR X (compareOp .LtE) rLeZ := op_le
def rGeZ : R2 := rI0 fun i j => .bl (decide (j ≤ i))
theorem op_geZ {X : Cx} : OpR X (compareOp .GtE) rGeZ := op_ge
section
variable {C : Cz} {L : Led} {k : Rs → Led → Prop} {K : PySem.W.Frag}
theorem od_gt {i j : Int} (q : k (.dat (.bool (decide (j < i)))) L) : OD C rGtZ (.dat (.int i)) (.dat (.int j)) L k := od_cmp (g := fun a b => decide (b < a)) q
theorem od_le {i j : Int} (q : k (.dat (.bool (decide (i ≤ j)))) L) : OD C rLeZ (.dat (.int i)) (.dat (.int j)) L k := od_cmp (g := fun a b => decide (a ≤ b)) q
theorem od_ge {i j : Int} (q : k (.dat (.bool (decide (j ≤ i)))) L) : OD C rGeZ (.dat (.int i)) (.dat (.int j)) L k := od_cmp (g := fun a b => decide (b ≤ a)) q
theorem od_fdiv {i j : Int} (h : CDivW i j) (q : k (.dat (.int (i / j))) L) : OD C (rI CDivW fun i j => .int (i / j)) (.dat (.int i)) (.dat (.int j)) L k := od_intC (c := CDivW) (g := fun i j => i / j) h q
theorem od_pow {i j : Int} (h : CPow i j) (q : k (.dat (.int (i ^ j.toNat))) L) : OD C (rI CPow fun i j => .int (i ^ j.toNat)) (.dat (.int i)) (.dat (.int j)) L k := od_intC (c := CPow) (g := fun i j => i ^ j.toNat) h q
theorem od_repS {a : Str} {n : Int} (h : a.length ≤ 16 ∧ -(2 ^ 63) ≤ n ∧ n ≤ 1048576) (q : k (.dat (.str (Txt.mul a n))) L) : OD C (rMulY K) (.dat (.str a)) (.dat (.int n)) L k := od_or2 (od_val (fun v w H l x y => by
  cases x
  cases y
  exact ⟨.str _, .str _, fun Q f => ⟨a, n, rfl, rfl, h, f⟩⟩) q)
theorem od_mulY_int {i j : Int} (h : CMul i j) (q : k (.dat (.int (i * j))) L) : OD C (rMulY K) (.dat (.int i)) (.dat (.int j)) L k := od_or1 (od_mul_int h q)
theorem od_mulY_lst {ds : List PyData} {n : Int} (h : -(2 ^ 63) ≤ n ∧ n < 2 ^ 63 ∧ ds.length * n.toNat ≤ sizeLine) (q : k (.dat (.list (List.replicate n.toNat ds).flatten)) L) : OD C (rMulY K) (.dat (.list ds)) (.dat (.int n)) L k := od_or1 (od_mul_lst h q)
theorem cd_neg {i : Int} (q : k (.dat (.int (-i))) L) : CD C (fun vs H Q => ∃ v, vs = [v] ∧ rU (fun i => .int (-i)) v H Q) [.dat (.int i)] L k := cd_val (fun vs H l o => by
  obtain ⟨v, rfl, o1⟩ := rsAll_1 o
  cases o1
  exact ⟨.int (-i), .int _, fun Q f => ⟨_, rfl, i, rfl, f⟩⟩) q
theorem md_cntS {a : Addr} {ys : List Str} {z : Str} (m : (a, .lst (ys.map PyData.str)) ∈ L) (q : k (.dat (.int (ys.count z : Nat))) L) (hK : C.K = K := by rfl) : MD C (rCntS K) (.own a) [.dat (.str z)] L k := fun v vs H Q l o1 o2 f => by
  obtain ⟨rfl, ha⟩ := o1
  obtain ⟨w, rfl, o⟩ := rsAll_1 o2
  cases o
  obtain ⟨xs, ex, hx⟩ := l.isLst m
  have e2 := strs_of hx
  subst e2
  exact ⟨a, ys, z, rfl, rfl, SqL.of ex, f _ (.dat (.int (ys.count z : Nat))) L H (Grow.refl H L) (Keeps.refl L) l (.int _) q⟩
end
end Z

set_option Elab.async false
set_option linter.all false
set_option maxRecDepth 100000
set_option maxHeartbeats 2000000
/-! plain lemmas for walks -/
namespace Z
open PySem PySem.Spec PyProof.Rows L2
theorem atI_int {α : Type} {xs : List α} {i : Int} (h0 : 0 ≤ i) (h1 : i < xs.length) : ∃ d, atI xs i = some d ∧ d ∈ xs ∧ xs[i.toNat]? = some d := by
  have hi : i.toNat < xs.length := by omega
  have e : xs[i.toNat]? = some xs[i.toNat] := List.getElem?_eq_getElem hi
  have q := atI_nat e
  rw [Int.toNat_of_nonneg h0] at q
  exact ⟨_, q, List.getElem_mem hi, e⟩
theorem natD_of {i : Int} (h : 0 ≤ i) : PyData.int i = natD i.toNat := by
  unfold natD
  rw [Int.toNat_of_nonneg h]
theorem natD_app (ms : List Nat) {i : Int} (h : 0 ≤ i) : ms.map natD ++ [PyData.int i] = (ms ++ [i.toNat]).map natD := by
  rw [List.map_append, natD_of h]
  rfl
theorem plus_mem {L : Led} {p : Addr} {ds : List PyData} : (p, Mo.lst ds) ∈ plus L p ds := List.mem_append_right _ List.mem_cons_self
theorem plus_old {L : Led} {p a : Addr} {ds : List PyData} {m : Mo} (h : (a, m) ∈ L) : (a, m) ∈ plus L p ds := List.mem_append_left _ h
theorem rng_get {lo : Int} {n i : Nat} {d : PyData} (h : (rng lo n)[i]? = some d) : d = .int (lo + (i : Int)) ∧ i < n := by
  unfold rng at h
  rw [List.getElem?_map] at h
  by_cases hi : i < n
  · rw [List.getElem?_range hi] at h
    cases h
    exact ⟨rfl, hi⟩
  · rw [List.getElem?_eq_none (by rw [List.length_range]; omega)] at h
    cases h
theorem rng_len {lo : Int} {n : Nat} : (rng lo n).length = n := by
  unfold rng
  rw [List.length_map, List.length_range]
theorem rng_mem {lo : Int} {n : Nat} {d : PyData} (h : d ∈ rng lo n) : ∃ i : Nat, i < n ∧ d = .int (lo + (i : Int)) := by
  obtain ⟨i, hi, e⟩ := List.mem_map.mp h
  exact ⟨i, List.mem_range.mp hi, e.symm⟩
theorem map_get {α : Type} {f : α → PyData} {l : List α} {i : Nat} {d : PyData} (h : (l.map f)[i]? = some d) : ∃ x, l[i]? = some x ∧ d = f x := by
  rw [List.getElem?_map] at h
  cases e : l[i]? with
  | none =>
    rw [e] at h
    cases h
  | some x =>
    rw [e] at h
    cases h
    exact ⟨x, rfl, rfl⟩
theorem sz (n : Nat) (h : n < 16777216 := by omega) : n < sizeLine := by
  rw [sizeLine_eq]
  exact h
theorem szl (n : Nat) (h : n ≤ 16777216 := by omega) : n ≤ sizeLine := by
  rw [sizeLine_eq]
  exact h
end Z

set_option Elab.async false
set_option linter.all false
set_option maxRecDepth 100000
set_option maxHeartbeats 2000000
namespace Z
open PySem PySem.Spec PyProof.Rows L2
section
variable {C : Cz} {ε ε' : Ev} {L : Led} {k : Rs → Led → Prop} {wi wi1 : TI} {g g1 : TG} {tt tt1 : TT} {te : TE} {vs vs1 : List Nat} {K : PySem.W.Frag}
/-- [e for target in iter if ..], written on later -/
theorem cp_lcO (h : CI C wi ε L fun ds L1 => ds.length < sizeLine ∧ ∃ I : Nat → List PyData → Prop, I 0 [] ∧
      (∀ i d acc p, ds[i]? = some d → I i acc → p ∉ L1.ks → CG (C0 C.K) g (.dat d) (wipeE ε vs) (plus L1 p acc) fun ε2 L2 => L2 = plus L1 p acc ∧
        CT (C0 C.K) tt ε2 L2 fun b L3 => L3 = plus L1 p acc ∧ if b = true then CP (C0 C.K) te ε2 L3 fun r L4 => L4 = plus L1 p acc ∧ ∃ y, r = .dat y ∧ I (i + 1) (acc ++ [y]) else I (i + 1) acc) ∧
      ∀ acc, I ds.length acc → ∀ p, p ∉ L1.ks → k (.own p) (plus L1 p acc)) (ho : GOwn g vs) : CP C (tLc wi g tt te vs) ε L k := fun σ H Q R X z =>
  h σ H _ R X fun J ds L1 H1 g1 k1 R1 J1 ⟨hsz, I, i0, hs, hd⟩ D hD => by
    have hDn : D ∉ L1.ks := R1.led.fresh hD
    refine ⟨fun i m H' => m = ds.length - i ∧ i ≤ ds.length ∧ ∃ acc, acc.length ≤ i ∧ I i acc ∧ Grow H1 L1 H' (plus L1 D acc) ∧ LOk C.K (plus L1 D acc) H', ⟨_, rfl, Nat.zero_le _, [], Nat.le_refl _, i0, grow_own hD, R1.led.own hD .nil⟩, ?_⟩
    rintro i m H' ⟨rfl, hi, acc, hal, hI, g', l'⟩
    obtain ⟨js, jg⟩ := J1 _ H' g' l' i
    have RW : Rel C.K (plus L1 D acc) (wipeE ε vs) (wipe σ vs) H' := (rel_wipe R1 vs).grow g' keeps_own l'
    by_cases hl : i < ds.length
    · have hx : ds[i]? = some ds[i] := List.getElem?_eq_getElem hl
      obtain ⟨j1, j2⟩ := jg _ hx
      refine .inr ⟨j1, fun H2 => i + 1 ≤ ds.length ∧ ∃ acc2, acc2.length ≤ i + 1 ∧ I (i + 1) acc2 ∧ Grow H1 L1 H2 (plus L1 D acc2) ∧ LOk C.K (plus L1 D acc2) H2, fun H2 ⟨a, b⟩ => ⟨ds.length - (i + 1), by omega, rfl, a, b⟩, fun v H2 y => ?_⟩
      obtain ⟨g2, l2, rp⟩ := j2 v H2 y
      have key := hs i _ acc D hx hI hDn v (wipe σ vs) H2 (fun σ3 H3 => tt σ3 H3 fun b H4 => if b = true then te σ3 H4 fun y H5 => ∃ acc, H5 D = some (.lst acc) ∧ acc.length < sizeLine ∧ (i + 1 ≤ ds.length ∧ ∃ acc2, acc2.length ≤ i + 1 ∧ I (i + 1) acc2 ∧ Grow H1 L1 (upd H5 D (.lst (acc ++ [y]))) (plus L1 D acc2) ∧ LOk C.K (plus L1 D acc2) (upd H5 D (.lst (acc ++ [y])))) else (i + 1 ≤ ds.length ∧ ∃ acc2, acc2.length ≤ i + 1 ∧ I (i + 1) acc2 ∧ Grow H1 L1 H4 (plus L1 D acc2) ∧ LOk C.K (plus L1 D acc2) H4)) (RW.grow g2 (Keeps.refl _) l2) rp fun ε3 L3 σ3 H3 g3 k3 R3 q3 => ?_
      · have q := ho v (wipe σ vs) H2 _ key
        rw [wipe_wipe] at q
        exact q
      obtain ⟨e3, q3⟩ := q3
      subst e3
      refine q3 σ3 H3 _ R3 exOk0 fun b L4 H4 g4 k4 R4 q4 => ?_
      obtain ⟨e4, q4⟩ := q4
      subst e4
      have gg := g'.trans (g2.trans (g3.trans g4))
      cases b with
      | false =>
        rw [if_neg (by decide)] at q4 ⊢
        exact ⟨hl, acc, Nat.le_succ_of_le hal, q4, gg, R4.led⟩
      | true =>
        rw [if_pos rfl] at q4 ⊢
        refine q4 σ3 H4 _ R4 exOk0 fun w r L5 H5 g5 k5 R5 o5 q5 => ?_
        obtain ⟨e5, yd, er, q5⟩ := q5
        subst e5 er
        obtain ⟨xs, ex, hxs⟩ := R5.led.isLst (List.mem_append_right _ List.mem_cons_self)
        refine ⟨xs, ex, by rw [rpAll_len hxs]; omega, hl, acc ++ [yd], by rw [List.length_append]; exact Nat.succ_le_succ hal, q5, (gg.trans g5).trans grow_app, R5.led.app ex o5⟩
    · have e : i = ds.length := by omega
      subst e
      exact .inl ⟨js rfl, z (.ref D) (.own D) (plus L1 D acc) H' (g1.trans g') (k1.trans keeps_own) (R1.grow g' keeps_own l') ⟨rfl, Led.key plus_mem⟩ (hd acc hI D hDn)⟩
theorem cp_lcFO (f : PyData → Option PyData) (h : CI C wi ε L fun ds L1 => ds.length < sizeLine ∧
      (∀ d ∈ ds, ∀ acc p, p ∉ L1.ks → CG (C0 C.K) g (.dat d) (wipeE ε vs) (plus L1 p acc) fun ε2 L2 => L2 = plus L1 p acc ∧
        CT (C0 C.K) tt ε2 L2 fun b L3 => L3 = plus L1 p acc ∧ if b = true then CP (C0 C.K) te ε2 L3 fun r L4 => L4 = plus L1 p acc ∧ ∃ y, r = .dat y ∧ f d = some y else f d = none) ∧
      ∀ p, p ∉ L1.ks → k (.own p) (plus L1 p (ds.filterMap f))) (ho : GOwn g vs) : CP C (tLc wi g tt te vs) ε L k := by
  refine cp_lcO ?_ ho
  refine fun σ H R Rl X z => h σ H R Rl X fun J ds L' H' g1 k1 R1 J1 ⟨a, b, c⟩ => z J ds L' H' g1 k1 R1 J1 ⟨a, fun i acc => acc = (ds.take i).filterMap f, rfl, fun i d acc p hd hI hp => ?_, fun acc hI => ?_⟩
  · have hm : d ∈ ds := List.mem_of_getElem? hd
    have ht : ds.take (i + 1) = ds.take i ++ [d] := by rw [List.take_add_one, hd] <;> rfl
    intro v σ2 H2 Q2 R2 o2 z2
    refine b d hm acc p hp v σ2 H2 Q2 R2 o2 fun ε3 L3 σ3 H3 g3 k3 R3 ⟨e3, q3⟩ => z2 ε3 L3 σ3 H3 g3 k3 R3 ⟨e3, CT.mono q3 fun bb L4 ⟨e4, q4⟩ => ⟨e4, ?_⟩⟩
    cases bb with
    | true =>
      rw [if_pos rfl] at q4 ⊢
      exact CP.mono q4 fun r L5 ⟨e5, y, er, ey⟩ => ⟨e5, y, er, (by show acc ++ [y] = (ds.take (i + 1)).filterMap f; rw [ht, List.filterMap_append, hI, List.filterMap_cons, ey]; rfl)⟩
    | false =>
      rw [if_neg (by decide)] at q4 ⊢
      show acc = (ds.take (i + 1)).filterMap f
      rw [ht, List.filterMap_append, hI, List.filterMap_cons, q4]
      show _ = _ ++ []
      rw [List.append_nil]
  · have e : acc = (ds.take ds.length).filterMap f := hI
    rw [e, List.take_length]
    exact c
/-! an owned list is looked at as data -/
theorem rel_take {σ : L2.St} {H H1 : Hp} {p : Addr} {ds : List PyData} (R : Rel K (plus L p ds) ε σ H) (hp : p ∉ L.ks) (hL : ∀ q ∈ L, q.2 = Mo.drw) (g : Grow H L H1 L) (l1 : LOk K L H1) : Grow H (plus L p ds) H1 (plus L p ds) ∧ Rel K (plus L p ds) ε σ H1 := by
  have G : Grow H (plus L p ds) H1 (plus L p ds) := ⟨fun a o e n => g.old a o e fun z => n (keeps_own a z), fun a ha => .inl ha⟩
  refine ⟨G, R.grow G (Keeps.refl _) ⟨R.led.nd, fun q hq => ?_⟩⟩
  rcases List.mem_append.mp hq with h | h
  · have o := l1.at_ q h
    have hd := hL q h
    obtain ⟨a, m⟩ := q
    subst hd
    exact o
  · have e := List.mem_singleton.mp h
    subst e
    obtain ⟨ys, e3, e4⟩ := R.led.isLst (plus_mem (L := L) (p := p) (ds := ds))
    exact ⟨ys, g.old p _ e3 hp, rpAll_mono G.ext e4⟩
theorem ct_view {kb : Bool → Led → Prop} {p : Addr} {ds : List PyData} (hp : p ∉ L.ks) (hL : ∀ q ∈ L, q.2 = Mo.drw) (e : EvWk (plus L p ds) L ε ε') (h : CT (C0 C.K) tt ε' L fun b L1 => L1 = L ∧ kb b (plus L p ds)) : CT C tt ε (plus L p ds) kb := fun σ H Q R X z => by
  refine h σ H Q (R.wk wk_plus e) exOk0 fun b L1 H1 g1 k1 R1 q => ?_
  obtain ⟨rfl, q⟩ := q
  obtain ⟨G, R2⟩ := rel_take R hp hL g1 R1.led
  exact z b _ H1 G (Keeps.refl _) R2 q
/-- and in a call that answers yes or no -/
theorem cp_view {p : Addr} {ds : List PyData} (hp : p ∉ L.ks) (hL : ∀ q ∈ L, q.2 = Mo.drw) (e : EvWk (plus L p ds) L ε ε') (h : CP (C0 C.K) te ε' L fun r L1 => L1 = L ∧ ∃ b : Bool, r = .dat (.bool b) ∧ k (.dat (.bool b)) (plus L p ds)) : CP C te ε (plus L p ds) k := fun σ H Q R X z => by
  refine h σ H Q (R.wk wk_plus e) exOk0 fun v r L1 H1 g1 k1 R1 o1 q => ?_
  obtain ⟨rfl, b, rfl, q⟩ := q
  obtain ⟨G, R2⟩ := rel_take R hp hL g1 R1.led
  cases o1
  exact z _ (.dat (.bool b)) _ H1 G (Keeps.refl _) R2 (.bl b) q
/-- a written list is handed out -/
theorem rt_ownK {k : Rs → Led → Prop} {p : Addr} {ds : List PyData} (h : k (.own p) (plus L p ds)) : rtOk L k (.own p) (plus L p ds) := ⟨_, _, wk_refl, .own (Led.key plus_mem), keeps_own, h⟩
theorem rt_ownD {k : Rs → Led → Prop} {p p2 : Addr} {ds : List PyData} {ns : List Nat} (h : k (.own p2) (L ++ [(p2, .drw)])) : rtOk L k (.own p2) (plus (plus L p ds) p2 (ns.map natD)) := by
  refine ⟨_, _, ⟨plus L p2 (ns.map natD), ?_, ?_⟩, .own (Led.key (List.mem_append_right _ List.mem_cons_self)), keeps_own, h⟩
  · exact List.Sublist.append (List.sublist_append_left _ _) (List.Sublist.refl _)
  · have key : ∀ L : Led, Paired (fun p q => q.1 = p.1 ∧ MoLe p.2 q.2) (plus L p2 (ns.map natD)) (L ++ [(p2, .drw)]) := by
      intro L
      induction L with
      | nil => exact .cons ⟨rfl, .drw ns⟩ .nil
      | cons q r ih => exact .cons ⟨rfl, .same _⟩ ih
    exact key L
/-! a text's signs -/
theorem sgn_len (c : Nat) : (⟨#[c]⟩ : Str).length = 1 := rfl
theorem str_of (z : Str) : (⟨z.cps.toList.toArray⟩ : Str) = z := rfl
def ofL (l : List Nat) : Str := ⟨l.toArray⟩
theorem ofL_app (a : List Nat) (c : Nat) : ofL a ++ ofL [c] = ofL (a ++ [c]) := by
  show (⟨a.toArray ++ #[c]⟩ : Str) = ⟨(a ++ [c]).toArray⟩
  congr 1
  simp
theorem ofL_len (a : List Nat) : (ofL a).length = a.length := rfl
end
end Z

set_option Elab.async false
set_option linter.all false
set_option maxRecDepth 100000
set_option maxHeartbeats 2000000
namespace Z
open PySem PySem.Spec PyProof.Rows L2
section
variable {C : Cz} {ε ε' : Ev} {L : Led} {k : Rs → Led → Prop} {wi wi1 : TI} {g g1 : TG} {tt tt1 : TT} {te : TE} {vs vs1 : List Nat} {K : PySem.W.Frag}
/-- over a source that is a map -/
theorem cp_lcM (α : Type) (h : CI C wi ε L fun ds L1 => ds.length < sizeLine ∧ ∃ (l : List α) (g0 : α → PyData) (f : α → Option PyData), ds = l.map g0 ∧
      (∀ x ∈ l, ∀ acc p, p ∉ L1.ks → CG (C0 C.K) g (.dat (g0 x)) (wipeE ε vs) (plus L1 p acc) fun ε2 L2 => L2 = plus L1 p acc ∧
        CT (C0 C.K) tt ε2 L2 fun b L3 => L3 = plus L1 p acc ∧ if b = true then CP (C0 C.K) te ε2 L3 fun r L4 => L4 = plus L1 p acc ∧ ∃ y, r = .dat y ∧ f x = some y else f x = none) ∧
      k (.dat (.list (l.filterMap f))) L1) (ho : GOwn g vs) : CP C (tLc wi g tt te vs) ε L k := by
  refine cp_lc ?_ ho
  refine fun σ H R Rl X z => h σ H R Rl X fun J ds L' H' g1 k1 R1 J1 ⟨a, l, g0, f, el, b, c⟩ => z J ds L' H' g1 k1 R1 J1 ⟨a, fun i acc => acc = (l.take i).filterMap f, rfl, fun i d acc p hd hI hp => ?_, fun acc hI => ?_⟩
  · subst el
    obtain ⟨x, hx, rfl⟩ := map_get hd
    have hm : x ∈ l := List.mem_of_getElem? hx
    have ht : l.take (i + 1) = l.take i ++ [x] := by rw [List.take_add_one, hx] <;> rfl
    intro v σ2 H2 Q2 R2 o2 z2
    refine b x hm acc p hp v σ2 H2 Q2 R2 o2 fun ε3 L3 σ3 H3 g3 k3 R3 ⟨e3, q3⟩ => z2 ε3 L3 σ3 H3 g3 k3 R3 ⟨e3, CT.mono q3 fun bb L4 ⟨e4, q4⟩ => ⟨e4, ?_⟩⟩
    cases bb with
    | true =>
      rw [if_pos rfl] at q4 ⊢
      exact CP.mono q4 fun r L5 ⟨e5, y, er, ey⟩ => ⟨e5, y, er, (by show acc ++ [y] = (l.take (i + 1)).filterMap f; rw [ht, List.filterMap_append, hI, List.filterMap_cons, ey]; rfl)⟩
    | false =>
      rw [if_neg (by decide)] at q4 ⊢
      show acc = (l.take (i + 1)).filterMap f
      rw [ht, List.filterMap_append, hI, List.filterMap_cons, q4]
      show _ = _ ++ []
      rw [List.append_nil]
  · subst el
    have e : acc = (l.take (l.map g0).length).filterMap f := hI
    rw [e, List.length_map, List.take_length]
    exact c
theorem cp_lcMO (α : Type) (h : CI C wi ε L fun ds L1 => ds.length < sizeLine ∧ ∃ (l : List α) (g0 : α → PyData) (f : α → Option PyData), ds = l.map g0 ∧
      (∀ x ∈ l, ∀ acc p, p ∉ L1.ks → CG (C0 C.K) g (.dat (g0 x)) (wipeE ε vs) (plus L1 p acc) fun ε2 L2 => L2 = plus L1 p acc ∧
        CT (C0 C.K) tt ε2 L2 fun b L3 => L3 = plus L1 p acc ∧ if b = true then CP (C0 C.K) te ε2 L3 fun r L4 => L4 = plus L1 p acc ∧ ∃ y, r = .dat y ∧ f x = some y else f x = none) ∧
      ∀ p, p ∉ L1.ks → k (.own p) (plus L1 p (l.filterMap f))) (ho : GOwn g vs) : CP C (tLc wi g tt te vs) ε L k := by
  refine cp_lcO ?_ ho
  refine fun σ H R Rl X z => h σ H R Rl X fun J ds L' H' g1 k1 R1 J1 ⟨a, l, g0, f, el, b, c⟩ => z J ds L' H' g1 k1 R1 J1 ⟨a, fun i acc => acc = (l.take i).filterMap f, rfl, fun i d acc p hd hI hp => ?_, fun acc hI => ?_⟩
  · subst el
    obtain ⟨x, hx, rfl⟩ := map_get hd
    have hm : x ∈ l := List.mem_of_getElem? hx
    have ht : l.take (i + 1) = l.take i ++ [x] := by rw [List.take_add_one, hx] <;> rfl
    intro v σ2 H2 Q2 R2 o2 z2
    refine b x hm acc p hp v σ2 H2 Q2 R2 o2 fun ε3 L3 σ3 H3 g3 k3 R3 ⟨e3, q3⟩ => z2 ε3 L3 σ3 H3 g3 k3 R3 ⟨e3, CT.mono q3 fun bb L4 ⟨e4, q4⟩ => ⟨e4, ?_⟩⟩
    cases bb with
    | true =>
      rw [if_pos rfl] at q4 ⊢
      exact CP.mono q4 fun r L5 ⟨e5, y, er, ey⟩ => ⟨e5, y, er, (by show acc ++ [y] = (l.take (i + 1)).filterMap f; rw [ht, List.filterMap_append, hI, List.filterMap_cons, ey]; rfl)⟩
    | false =>
      rw [if_neg (by decide)] at q4 ⊢
      show acc = (l.take (i + 1)).filterMap f
      rw [ht, List.filterMap_append, hI, List.filterMap_cons, q4]
      show _ = _ ++ []
      rw [List.append_nil]
  · subst el
    have e : acc = (l.take (l.map g0).length).filterMap f := hI
    rw [e, List.length_map, List.take_length]
    exact c
theorem ct_yes {kb : Bool → Led → Prop} (q : kb true L) : CT C tYes ε L kb := fun σ H Q R X z => z true L H (Grow.refl H L) (Keeps.refl L) R q
end
/-- both ways lead on from J -/
theorem hs_join {C : Cz} {ε : Ev} {L : Led} {t u : TS} {P : Post} {b : Bool} (J : Ev → Led → Prop) (h : if b = true then HS C t ε L { P with nx := J } else HS C u ε L { P with nx := J }) (h2 : ∀ e l, J e l → P.nx e l) : if b = true then HS C t ε L P else HS C u ε L P := by
  cases b with
  | true =>
    rw [if_pos rfl] at h ⊢
    exact h.mono h2 (fun _ _ z => z) (fun _ _ z => z) fun _ _ z => z
  | false =>
    rw [if_neg (by decide)] at h ⊢
    exact h.mono h2 (fun _ _ z => z) (fun _ _ z => z) fun _ _ z => z
theorem fm_bool {α : Type} (g : α → Bool) : ∀ l : List α, l.filterMap (fun c => some (PyData.bool (g c))) = (l.map g).map PyData.bool
  | [] => rfl
  | a :: r => by
    rw [List.filterMap_cons, List.map_cons, List.map_cons, ← fm_bool g r]
theorem fm_int {α : Type} (g : α → Int) : ∀ l : List α, l.filterMap (fun c => some (PyData.int (g c))) = (l.map g).map PyData.int
  | [] => rfl
  | a :: r => by
    rw [List.filterMap_cons, List.map_cons, List.map_cons, ← fm_int g r]
theorem fm_str {α : Type} (g : α → Str) : ∀ l : List α, l.filterMap (fun c => some (PyData.str (g c))) = (l.map g).map PyData.str
  | [] => rfl
  | a :: r => by
    rw [List.filterMap_cons, List.map_cons, List.map_cons, ← fm_str g r]
/-- those that pass -/
theorem fm_if {α β : Type} (p : α → Bool) (g : α → β) : ∀ l : List α, l.filterMap (fun c => if p c = true then some (g c) else none) = (l.filter p).map g
  | [] => rfl
  | a :: r => by
    rw [List.filterMap_cons, List.filter_cons]
    cases h : p a with
    | true =>
      rw [if_pos rfl, if_pos rfl, List.map_cons, ← fm_if p g r]
    | false =>
      rw [if_neg (by decide), if_neg (by decide), fm_if p g r]
/-! the same rules, where the place's constants are named -/
section
variable {X : Cx} {K : PySem.W.Frag}
theorem opK {o : Value → Value → Sem Value} {r : PySem.W.Frag → R2} (h : OpR X o (r X.K)) (e : X.K = K) : OpR X o (r K) := e ▸ h
theorem ixK {r : PySem.W.Frag → R2} (h : IxR X (r X.K)) (e : X.K = K) : IxR X (r K) := e ▸ h
theorem callK {f : Value} {r : PySem.W.Frag → List V → Hp → VK → Prop} (h : CallR X f (r X.K)) (e : X.K = K) : CallR X f (r K) := e ▸ h
theorem mtK {m : String} {r : PySem.W.Frag → V → List V → Hp → VK → Prop} (h : MtR X m (r X.K)) (e : X.K = K) : MtR X m (r K) := e ▸ h
theorem pg_tupK {es : List Expr} {k : Nat} {t : TGs} {n : Nat} {pos : Pos} (e : X.K = K) (hc : X.calm = true) (h : PGs X es t)
    (hn : (assignEach es X.env).length = n := by rfl) (hst : (assignEach es X.env).findIdx? (·.1) = none := by rfl) : PG X (.Tuple es k pos) (gTup K n t) := by
  subst e
  exact pg_tup hc h hn hst
theorem pi_sqK {tg e : Expr} {te : TE} (ek : X.K = K) (he : PE X e te) : PI X tg e (iSq K te) := by
  subst ek
  exact pi_sq he
theorem pi_enK {e : Expr} {ta : TA} {p pos tpos : Pos} {elts : List Expr} {kk : Nat} (ek : X.K = K) (hg : Gl X "enumerate") (hm : X.mg "enumerate" = none) (ha : PA X [e] ta) (hs : starEach [e] X.env = [(false, eval e X.env)] := by rfl) :
    PI X (.Tuple elts kk tpos) (.Call (.Name "enumerate" p) [e] [] pos) (iEn K ta) := by
  subst ek
  exact pi_en hg hm ha hs
theorem pi_zpK {e e2 : Expr} {ta : TA} {p pos tpos : Pos} {elts : List Expr} {kk : Nat} (ek : X.K = K) (hg : Gl X "zip") (hm : X.mg "zip" = none) (ha : PA X [e, e2] ta)
    (hs : starEach [e, e2] X.env = (false, eval e X.env) :: starEach [e2] X.env := by rfl) (hpl : (backTo pos (starEach [e2] X.env)).any (·.1) = false := by rfl) :
    PI X (.Tuple elts kk tpos) (.Call (.Name "zip" p) [e, e2] [] pos) (iZp K ta) := by
  subst ek
  exact pi_zp hg hm ha hs hpl
theorem pe_bm0K {T : String} {name : Str} {id : String} {r : V → List V → Hp → VK → Prop} {o : Expr} {tO : TE} {apos cpos : Pos} (ek : X.K = K) (pa : PlainAttrs T) (slot : Slot T name id) (hty : typeOf (.builtin id) = pure (.type "method_descriptor")) (hm : MtR X id r) (ho : PE X o tO)
    (hbase : attributeBase o name X.env (eval o X.env) = eval o X.env := by rfl) (hline : (apos.endLine == cpos.line) = true := by rfl) : PE X (.Call (.Attribute o name apos) [] [] cpos) (tBM0 K T r tO) := by
  subst ek
  exact pe_bm0 pa slot hty hm ho hbase hline
theorem pe_bmK {T : String} {name : Str} {id : String} {r : V → List V → Hp → VK → Prop} {o e : Expr} {es : List Expr} {tO : TE} {t : TA} {apos cpos : Pos} (ek : X.K = K) (pa : PlainAttrs T) (slot : Slot T name id) (hty : typeOf (.builtin id) = pure (.type "method_descriptor")) (hm : MtR X id r) (ho : PE X o tO) (ha : PA X (e :: es) t)
    (hbase : attributeBase o name X.env (eval o X.env) = eval o X.env := by rfl)
    (hfew : ((backTo cpos (starEach (e :: es) X.env)).all (fun x => !x.1) && (backToKw cpos (keywordEach [] X.env)).all (fun x => x.1.isSome)
      && decide ((e :: es).length + ([] : List Keyword).length + (if ([] : List Keyword).isEmpty then 0 else 1) < 30)) = true := by rfl)
    (hline : (apos.endLine == cpos.line) = true := by rfl) (hs : starEach (e :: es) X.env = (false, eval e X.env) :: starEach es X.env := by rfl) (hplain : (backTo cpos (starEach es X.env)).any (·.1) = false := by rfl) :
    PE X (.Call (.Attribute o name apos) (e :: es) [] cpos) (tBM K T r tO t) := by
  subst ek
  exact pe_bm pa slot hty hm ho ha hbase hfew hline hs hplain
end
end Z

set_option Elab.async false
set_option linter.all false
set_option maxRecDepth 100000
set_option maxHeartbeats 2000000
namespace Z
open PySem PySem.Spec PyProof.Rows L2
/-- a class of errors of the text's own, with no __init__ of its own -/
structure ErrAt (K : PySem.W.Frag) (mg : Str → Option Value) (x : Str) (C : Addr) : Prop where
  g : mg x = some (.ref C)
  x : PySem.W.excIn K C [.type "ValueError", .type "Exception", .type "BaseException", .type "object"] "ValueError.__new__" = true
  k : PySem.W.keepIn K (.ref C) = true
  s1 : PySem.W.subIn K (.ref C) (.type "BaseException") = some true
  s2 : PySem.W.typeIn K (.ref C) = some (.type "type")
/-- what an error of the class D answers to isinstance, class by class -/
def FlagsAt (K : PySem.W.Frag) (D : Addr) (cs : List Addr) (bs : List Bool) : Prop := ExcC K D ∧ Paired (fun c b => PySem.W.kitOne K (.ref D) (.ref c) = some b) cs bs
/-- a def that keeps its promise where an error is caught -/
def HasQ (P : Program) (w : World) (K : PySem.W.Frag) (mg : Str → Option Value) (base : Heap) (k : Nat) (x : Str) (ps : List Str) (sp : Addr → Addr → Sp) : Prop :=
  ∃ f fd, mg x = some (.ref f) ∧ PySem.W.keepIn K (.ref f) = true ∧ Binds K fd ps [] ∧ FnQ P w K mg base k f fd ps sp
/-- what _law_same takes: n deep -/
def okD : Nat → PyData → Prop
  | _, .dict _ => False
  | 0, .list _ => False
  | 0, .tuple _ => False
  | n + 1, .list ds => ds.length ≤ 1000000 ∧ ∀ d ∈ ds, okD n d
  | n + 1, .tuple ds => ds.length ≤ 1000000 ∧ ∀ d ∈ ds, okD n d
  | _, _ => True
theorem okD_str : ∀ (n : Nat) (x : Str), okD n (.str x)
  | 0, _ => trivial
  | _ + 1, _ => trivial
theorem okD_int : ∀ (n : Nat) (x : Int), okD n (.int x)
  | 0, _ => trivial
  | _ + 1, _ => trivial
theorem okD_bool : ∀ (n : Nat) (x : Bool), okD n (.bool x)
  | 0, _ => trivial
  | _ + 1, _ => trivial
theorem okD_none : ∀ (n : Nat), okD n .none
  | 0 => trivial
  | _ + 1 => trivial
def dSame : Nat → DSp
  | 0 => fun _ _ _ _ => False
  | n + 1 => fun rs L k _ => ∃ d, rs = [.dat d, .dat d] ∧ okD n d ∧ k (.dat (.bool true)) L
section
variable {C : Cz} {ε : Ev} {L : Led} {k : Rs → Led → Prop} {K : PySem.W.Frag}
theorem cp_join {b : Bool} {ta tb : TE} (J : Rs → Led → Prop) (h : if b = true then CP C ta ε L J else CP C tb ε L J) (h2 : ∀ r l, J r l → k r l) : if b = true then CP C ta ε L k else CP C tb ε L k := by
  cases b with
  | true =>
    rw [if_pos rfl] at h ⊢
    exact h.mono h2
  | false =>
    rw [if_neg (by decide)] at h ⊢
    exact h.mono h2
theorem ct_join {b : Bool} {tt : TT} {kb : Bool → Led → Prop} (J : Bool → Led → Prop) (h : if b = true then CT C tt ε L J else J false L) (h2 : ∀ b l, J b l → kb b l) : if b = true then CT C tt ε L kb else kb false L := by
  cases b with
  | true =>
    rw [if_pos rfl] at h ⊢
    exact h.mono h2
  | false =>
    rw [if_neg (by decide)] at h ⊢
    exact h2 _ _ h
theorem od_same (d : PyData) (h : ∀ ds, d ≠ .list ds) (h2 : ∀ ds, d ≠ .tuple ds) (h3 : ∀ ds, d ≠ .dict ds) (h4 : d ≠ .none) (q : k (.dat (.bool true)) L) : OD C (rEqZ K) (.dat d) (.dat d) L k := by
  cases d with
  | none => exact absurd rfl h4
  | bool b => exact od_eq_bool (by rw [beq_self_eq_true]; exact q)
  | int b => exact od_eq_int (by rw [beq_self_eq_true]; exact q)
  | str b => exact od_eq_str (by rw [beq_self_eq_true]; exact q)
  | list b => exact absurd rfl (h _)
  | tuple b => exact absurd rfl (h2 _)
  | dict b => exact absurd rfl (h3 _)
end
inductive OW (L' M2 : Led) : Option Rs → Option Rs → Prop
  | no (o : Option Rs) : OW L' M2 o none
  | mk {r r2 : Rs} (h : RsWk L' M2 r r2) : OW L' M2 (some r) (some r2)
theorem evwk_mk {L' M2 : Led} : ∀ {ε ε2 : Ev}, Paired (OW L' M2) ε ε2 → EvWk L' M2 ε ε2
  | _, _, .nil => ⟨rfl, fun i r2 h => by simp at h⟩
  | _, _, .cons (a := o) (b := o2) h t => by
    obtain ⟨e1, e2⟩ := evwk_mk t
    refine ⟨by rw [List.length_cons, List.length_cons, e1], fun i r2 hr => ?_⟩
    cases i with
    | zero =>
      have hr : o2 = some r2 := by simpa using hr
      subst hr
      cases h with
      | mk h => exact ⟨_, rfl, h⟩
    | succ i =>
      obtain ⟨r, a, b⟩ := e2 i r2 (by simpa using hr)
      exact ⟨r, by simpa using a, b⟩
theorem EvWk.set {L' M2 : Led} {ε ε2 : Ev} (h : EvWk L' M2 ε ε2) (i : Nat) (d : PyData) : EvWk L' M2 (ε.set i (some (.dat d))) (ε2.set i (some (.dat d))) := by
  refine ⟨by rw [List.length_set, List.length_set, h.1], fun j r2 hr => ?_⟩
  by_cases e : i = j
  · subst e
    by_cases hl : i < ε2.length
    · rw [List.getElem?_set_self hl] at hr
      cases hr
      exact ⟨_, by rw [List.getElem?_set_self (by rw [h.1]; exact hl)], .dat d⟩
    · rw [List.getElem?_eq_none (by rw [List.length_set]; omega)] at hr
      cases hr
  · rw [List.getElem?_set_ne e] at hr
    obtain ⟨r, a, b⟩ := h.2 j r2 hr
    exact ⟨r, by rw [List.getElem?_set_ne e]; exact a, b⟩
theorem roomQ {j k : Nat} {A : Around} {v : Option Value} (r : Room k A) (h : j ≤ k) : L2H.RoomH j (A.mark v) := ⟨(r.mono h).dp, (r.mono h).un⟩
end Z

set_option Elab.async false
set_option linter.all false
set_option maxRecDepth 100000
set_option maxHeartbeats 2000000
namespace Z
open PySem PySem.Spec PyProof.Rows L2
/-! the head's facts, as the walks want them -/
section
variable {K : PySem.W.Frag} {h : Heap} {mg : Str → Option Value}
theorem fun_of {x qual : Str} {st : Stmt} {f : Addr} {fd : FuncData} (F : FunD K x qual (defArgs st) (defBody st) (defScope st) [] [] f fd) : Fun K x qual st f fd := by
  obtain ⟨oc, od, dV, kV, doc, pm, an, cdv, ct, osl, e, lk, hcd, hd, _⟩ := F.ex
  rcases hd with ⟨_, e2⟩ | ⟨e2, _⟩
  · subst e2
    exact ⟨⟨oc, od, kV, doc, pm, an, cdv, ct, osl, e, lk, hcd⟩, F.kp⟩
  · exact absurd rfl e2
def excB (K : PySem.W.Frag) (C : Addr) : Bool :=
  He.eqO (PySem.W.findIn K (.ref C) "__getattribute__") (some (some (.builtin "BaseException.__getattribute__"))) && (He.eqO (PySem.W.findIn K (.ref C) "__getattr__") (some none) && (decide (PySem.W.subIn K (.ref C) (.type "BaseException") = some true) &&
  (PySem.W.hasDictIn K C && (He.eqO (PySem.W.findIn K (.ref C) "__class__") (some (some (.builtin "object.__class__"))) && (He.eqO (PySem.W.specialIn K (.builtin "object.__class__") "__get__") (some (some (.builtin "getset_descriptor.__get__"))) &&
  (decide (PySem.W.takesIn K (.builtin "object.__class__") = some true) && decide (PySem.W.mroIn K C (.type "object") = some true)))))))
theorem excB_ok {C : Addr} (c : excB K C = true) : ExcC K C := by
  obtain ⟨c1, c⟩ := He.ba c
  obtain ⟨c2, c⟩ := He.ba c
  obtain ⟨c3, c⟩ := He.ba c
  obtain ⟨c4, c⟩ := He.ba c
  obtain ⟨c5, c⟩ := He.ba c
  obtain ⟨c6, c⟩ := He.ba c
  obtain ⟨c7, c8⟩ := He.ba c
  exact ⟨He.eqO_ok c1, He.eqO_ok c2, of_decide_eq_true c3, c4, He.eqO_ok c5, He.eqO_ok c6, of_decide_eq_true c7, of_decide_eq_true c8⟩
def flagsB (K : PySem.W.Frag) (x : Str) (cs : List (Str × Bool)) : Bool := excB K (He.ga K x) && cs.all fun p => decide (PySem.W.kitOne K (.ref (He.ga K x)) (.ref (He.ga K p.1)) = some p.2)
theorem flags_ok {x : Str} {cs : List (Str × Bool)} (c : flagsB K x cs = true) : FlagsAt K (He.ga K x) (cs.map fun p => He.ga K p.1) (cs.map Prod.snd) := by
  obtain ⟨c1, c2⟩ := He.ba c
  refine ⟨excB_ok c1, ?_⟩
  clear c c1
  induction cs with
  | nil => exact .nil
  | cons p r ih =>
    rw [List.all_cons] at c2
    obtain ⟨c3, c4⟩ := He.ba c2
    exact .cons (of_decide_eq_true c3) (ih c4)
theorem err_ok (X : K.In h) (G : h.Ns mainGlobals mg) {x : Str} (c : (He.Fa.exc x).ok K = true) (g : (He.Fa.glo x).ok K = true) : ErrAt K mg x (He.ga K x) := by
  obtain ⟨c1, c2, c3, c4⟩ := He.exc_ok c
  exact ⟨He.glo_ok X G g, c1, c2, c3, c4⟩
end
theorem law_start {K : PySem.W.Frag} (d : DSp) {H : Hp} {a : Addr} {ns : List Int} (hd : ∀ (k : Rs → Led → Prop) (x : Addr → Led → Prop), k (.dat (.bool true)) [] → d [.scr ns] [] k x) (hS : SqL K H a (ns.map V.int)) : lift K d [.ref a] H (fun v _ => v = .bl true) fun _ _ _ => False := by
  refine ⟨[.scr ns], [], fun r _ => r = .dat (.bool true), fun _ _ => False, .cons ⟨a, rfl, ?_⟩ .nil, ⟨List.nodup_nil, fun _ h => nomatch h⟩, hd _ _ rfl, fun v r L' H' _ _ _ o e => ?_, fun _ _ _ _ _ _ f => f⟩
  · have e : hid [] H = H := funext fun b => hid_out (fun h => nomatch h)
    rw [e]
    exact hS
  · subst e
    cases o
    rfl
end Z

set_option Elab.async false
set_option linter.all false
set_option maxRecDepth 100000
set_option maxHeartbeats 2000000
/-! tuples: slices, sums, greatest items, stars; two and three stores at once -/
namespace PySem
section
variable {prog : Program} {w : World} {A : Around} {E : Value → Shared → Prop} {s : Shared} {l : Addr} {xs : Array (Int × Tok)}
theorem zt_iter {Q : Value → Shared → Prop} (hl : s.heap.IsTuple l (intItems xs))
    (h : ∀ s₂ : Shared, s₂ = { s with heap := s.heap.push { cls := .type "tuple_iterator", data := .fields #[.ref l, .int 0 0] } } → (s₂.heap.IsTupleIter s.heap.objs.size l 0 ∧ s₂.heap.IsTuple l (intItems xs)) →
      (∀ b ∈ [s.heap.objs.size, l], b < s₂.heap.objs.size) → l ≠ s.heap.objs.size → Q (.ref s.heap.objs.size) s₂) : wpAny (model prog w) A (pyIter (.ref l)) Q E s := by
  have old : l < s.heap.objs.size := by
    obtain ⟨_, e, _⟩ := hl
    exact Heap.lt_size e
  refine wpAny_pyIter_tuple hl (h _ rfl ⟨⟨_, Heap.get?_push_size _ rfl, rfl, rfl⟩, hl.push _⟩ (fun b hb => ?_) (Nat.ne_of_lt old))
  have sz : (s.heap.push { cls := .type "tuple_iterator", data := .fields #[.ref l, .int 0 0] }).objs.size = s.heap.objs.size + 1 := Heap.size_push _ _
  show b < (s.heap.push { cls := .type "tuple_iterator", data := .fields #[.ref l, .int 0 0] }).objs.size
  rw [sz]
  rcases List.mem_cons.mp hb with hb | hb
  · rw [hb]
    exact Nat.lt_succ_self _
  · rw [List.mem_singleton.mp hb]
    exact Nat.lt_succ_of_lt old
theorem zt_old {h' : Heap} (hk : ∀ b o, b ∉ [s.heap.objs.size] → (s.heap.push { cls := .type "tuple_iterator", data := .fields #[.ref l, .int 0 0] }).get? b = some o → h'.get? b = some o) : ∀ b o, s.heap.get? b = some o → h'.get? b = some o := fun b o e =>
  hk b o (fun z => Nat.lt_irrefl _ (List.mem_singleton.mp z ▸ Heap.lt_size e)) (Heap.get?_push_of_some _ e)
theorem zt_sum {Q : Value → Shared → Prop} (hh : A.handled = none) (hl : s.heap.IsTuple l (intItems xs)) (h : ∀ h' tk t', (∀ b o, s.heap.get? b = some o → h'.get? b = some o) → Q (.int (preSum (numAt xs) xs.size) t') { s with heap := h', toks := tk }) :
    wpAny (model prog w) A (call (.builtin "sum") [.ref l]) Q E s := by
  refine call_sum_walkG (zt_iter hl fun s₂ e st hfp hne => ?_)
  subst e
  refine ⟨_, _, _, _, _, _, numAt xs, rfl, Walks.tuple (A := A.in1) hh _ l hne (intItems xs), st, hfp, (fun i v hv => intItems_at hv), fun h' tk t' hk => ?_⟩
  have q := h h' tk t' (zt_old hk)
  simpa [intItems] using q
theorem zt_max {Q : Value → Shared → Prop} (hh : A.handled = none) (hl : s.heap.IsTuple l (intItems xs)) (hne : 0 < xs.size)
    (h : ∀ v h' tk, (intItems xs)[argBest (fun i j => decide (numAt xs i > numAt xs j)) (xs.size - 1)]? = some v → (∀ b o, s.heap.get? b = some o → h'.get? b = some o) → Q v { s with heap := h', toks := tk }) : wpAny (model prog w) A (call (.builtin "max") [.ref l]) Q E s := by
  refine call_max_walk (zt_iter hl fun s₂ e st hfp hli => ?_)
  subst e
  exact ⟨_, _, _, _, _, _, _, rfl, Walks.tuple (A := A.in1) hh _ l hli (intItems xs), st, hfp, by simpa [intItems] using hne, CmpOf.ints_gt (numAt xs) (fun i v hv => intItems_at hv), fun v h' tk hP hk => h v h' tk (by simpa [intItems] using hP) (zt_old hk)⟩
end
end PySem
namespace Z
open PySem PySem.Spec PyProof.Rows L2
section
variable {prog : Program} {w : World} {A : Around} {E : Value → Shared → Prop} {s : Shared} {l : Addr} {its : List Value} {ns : List Int} {Q : Value → Shared → Prop}
theorem zt_sumR (hh : A.handled = none) (hl : s.heap.IsTuple l its.toArray) (hi : IntsAre its ns) (h : ∀ h' tk t', (∀ b o, s.heap.get? b = some o → h'.get? b = some o) → Q (.int ns.sum t') { s with heap := h', toks := tk }) : wpAny (model prog w) A (call (.builtin "sum") [.ref l]) Q E s := by
  have hn := hi.numsOf
  obtain ⟨xs, e⟩ := hi.allInts.items
  rw [e] at hl
  refine zt_sum hh hl fun h' tk t' hk => ?_
  have q := h h' tk t' hk
  have hn2 : numsOf (intItems xs).toList = ns := by
    rw [← e]
    exact hn
  rw [nums_intItems] at hn2
  rw [preSum_eq, List.take_of_length_le (by simp), hn2]
  exact q
theorem zt_maxR (hh : A.handled = none) (hl : s.heap.IsTuple l its.toArray) (hi : IntsAre its ns) (hne : 0 < ns.length)
    (h : ∀ h' tk M t', (∀ b o, s.heap.get? b = some o → h'.get? b = some o) → M ∈ ns → (∀ a, a ∈ ns → a ≤ M) → Q (.int M t') { s with heap := h', toks := tk }) : wpAny (model prog w) A (call (.builtin "max") [.ref l]) Q E s := by
  have hn := hi.numsOf
  obtain ⟨xs, e⟩ := hi.allInts.items
  rw [e] at hl
  have hn2 : numsOf (intItems xs).toList = ns := by
    rw [← e]
    exact hn
  rw [nums_intItems] at hn2
  subst hn2
  have hz : 0 < xs.size := by simpa using hne
  refine zt_max hh hl hz fun v h' tk hv hk => ?_
  obtain ⟨t, rfl⟩ := intItems_at hv
  obtain ⟨h1, h2⟩ := argBest_gt (numAt xs) (xs.size - 1)
  refine h h' tk _ t hk ?_ fun a ha => ?_
  · rw [numAt_eq]
    refine PySem.getD_mem ?_
    rw [List.length_map, Array.length_toList]
    omega
  · obtain ⟨j, hj, e2⟩ := mem_getD ha
    rw [List.length_map, Array.length_toList] at hj
    rw [← e2, ← numAt_eq]
    exact h2 j (by omega)
end
/-- sum and max, lists and tuples -/
def rSumZ (K : PySem.W.Frag) : List V → Hp → VK → Prop := fun vs H Q => rSum K vs H Q ∨ ∃ (a : Addr) (ns : List Int), vs = [V.ref a] ∧ SqT K H a (ns.map V.int) ∧ Q (.int ns.sum) H
theorem call_sumZ {X : Cx} (hc : X.calm = true) : CallR X (.builtin "sum") (rSumZ X.K) := (cr_sum hc).or fun pins s σ H vs us Q I r h => by
  obtain ⟨a, ns, rfl, hs, q⟩ := h
  obtain ⟨its, rv, hl, _⟩ := I.tuple hs
  rw [Vals.ref1 r]
  exact zt_sumR (I.ok.hd hc) hl rv.ints fun h' tk t' hk => ⟨.int _, H, I.kept hk, ⟨_, rfl⟩, q⟩
def rMaxZ (K : PySem.W.Frag) : List V → Hp → VK → Prop := fun vs H Q => (rMax K vs H Q ∨ ∃ (a : Addr) (ns : List Int), vs = [V.ref a] ∧ SqT K H a (ns.map V.int) ∧ 0 < ns.length ∧ ∀ m, m ∈ ns → (∀ y, y ∈ ns → y ≤ m) → Q (.int m) H) ∨ ∃ i j, vs = [.int i, .int j] ∧ Q (.int (if j > i then j else i)) H
theorem call_maxZ {X : Cx} (hc : X.calm = true) : CallR X (.builtin "max") (rMaxZ X.K) := ((cr_max hc).or fun pins s σ H vs us Q I r h => by
  obtain ⟨a, ns, rfl, hs, hne, q⟩ := h
  obtain ⟨its, rv, hl, _⟩ := I.tuple hs
  rw [Vals.ref1 r]
  exact zt_maxR (I.ok.hd hc) hl rv.ints hne fun h' tk m t' hk h1 h2 => ⟨.int _, H, I.kept hk, ⟨_, rfl⟩, q m h1 h2⟩).or (call_max2 hc)
/-! slices -/
def cutD {α : Type} (ds : List α) (lo hi : Option Int) : List α := (ds.drop (HT.sIx ds.length 0 lo)).take (HT.sIx ds.length ds.length hi - HT.sIx ds.length 0 lo)
theorem cut_whole {α : Type} {ds : List α} {lo hi : Option Int} (h : HT.sIx ds.length 0 lo = 0 ∧ HT.sIx ds.length ds.length hi = ds.length) : cutD ds lo hi = ds := by
  unfold cutD
  rw [h.1, h.2, List.drop_zero, Nat.sub_zero, List.take_length]
def rSlZ (K : PySem.W.Frag) : V → Option Int → Option Int → Hp → VK → Prop := fun x lo hi H Q => rSlA K x lo hi H Q ∨ rSlL K x lo hi H Q ∨ rSlS x lo hi H Q
theorem sl_Z {X : Cx} : SlR X (rSlZ X.K) := sl_tupA.or (sl_list.or sl_str)
def CO (C : Cz) (t : TO) (ε : Ev) (L : Led) (q : Option Int → Led → Prop) : Prop :=
  ∀ (σ : L2.St) (H : Hp) (Q : Option Int → Hp → Prop), Rel C.K L ε σ H → ExOk C L H → (∀ o L' H', Grow H L H' L' → Keeps L L' → Rel C.K L' ε σ H' → q o L' → Q o H') → t σ H Q
def SD (C : Cz) (r : V → Option Int → Option Int → Hp → VK → Prop) (x : Rs) (lo hi : Option Int) (L : Led) (k : Rs → Led → Prop) : Prop :=
  ∀ (v : V) (H : Hp) (Q : VK), LOk C.K L H → RsOk C.K L H v x → (∀ z s L' H', Grow H L H' L' → Keeps L L' → LOk C.K L' H' → RsOk C.K L' H' z s → k s L' → Q z H') → r v lo hi H Q
section
variable {C : Cz} {ε : Ev} {L : Led} {k : Rs → Led → Prop} {K : PySem.W.Frag} {te ta tb tc : TE} {tA : TA} {P : Post} {tl th : TO}
theorem co_none {q : Option Int → Led → Prop} (h : q none L) : CO C tNoPart ε L q := fun σ H Q R X z => z none L H (Grow.refl H L) (Keeps.refl L) R h
theorem co_some {q : Option Int → Led → Prop} (h : CP C te ε L fun r L1 => ∃ i, r = .dat (.int i) ∧ q (some i) L1) : CO C (tPart te) ε L q := fun σ H Q R X z =>
  h σ H _ R X fun v x L1 H1 g1 k1 R1 o1 ⟨i, e, q⟩ => by
    subst e
    cases o1
    exact ⟨i, rfl, z (some i) L1 H1 g1 k1 R1 q⟩
theorem cp_sl {r : V → Option Int → Option Int → Hp → VK → Prop} (h : CP C te ε L fun x L1 => CO C tl ε L1 fun lo L2 => CO C th ε L2 fun hi L3 => SD C r x lo hi L3 k) : CP C (tSl r te tl th) ε L k := fun σ H Q R X z =>
  h σ H _ R X fun v x L1 H1 g1 k1 R1 o1 h1 => h1 σ H1 _ R1 (X.grow g1) fun lo L2 H2 g2 k2 R2 h2 => h2 σ H2 _ R2 ((X.grow g1).grow g2) fun hi L3 H3 g3 k3 R3 h3 =>
    h3 v H3 Q R3.led ((o1.grow g2 k2).grow g3 k3) fun u s L4 H4 g4 k4 l4 o4 q => z u s L4 H4 (((g1.trans g2).trans g3).trans g4) (((k1.trans k2).trans k3).trans k4) (R3.grow g4 k4 l4) o4 q
theorem rpAll_cut {H : Hp} {xs : List V} {ds : List PyData} (h : RpAll K H xs ds) (lo hi : Option Int) : RpAll K H (cutV xs lo hi) (cutD ds lo hi) := by
  unfold cutV cutD
  rw [rpAll_len h]
  exact rpAll_take _ (rpAll_drop _ h)
theorem sd_tup {ds : List PyData} {lo hi : Option Int} (q : k (.dat (.tuple (cutD ds lo hi))) L) (hK : C.K = K := by rfl) : SD C (rSlZ K) (.dat (.tuple ds)) lo hi L k := fun v H Q l o f => by
  subst hK
  have o' : Rp C.K (hid L H) v (.tuple ds) := o
  cases o' with
  | @tup p xs _ e ha =>
    refine .inl ⟨p, xs, rfl, ext_t hid_sub e, fun hw => ?_, fun hw a ha2 => ?_⟩
    · rw [rpAll_len ha] at hw
      rw [cut_whole hw] at q
      exact f _ (.dat (.tuple ds)) L H (Grow.refl H L) (Keeps.refl L) l o q
    · have g : Grow H L (upd H a (.tup (cutV xs lo hi))) L := grow_new ha2
      exact f _ (.dat (.tuple (cutD ds lo hi))) L _ g (Keeps.refl L) (l.new ha2) (.tup (SqT.of (by rw [hid_out (l.fresh ha2)]; exact upd_same)) (rpAll_mono g.ext (rpAll_cut ha lo hi))) q
theorem sd_lst {ds : List PyData} {lo hi : Option Int} (q : k (.dat (.list (cutD ds lo hi))) L) : SD C (rSlZ K) (.dat (.list ds)) lo hi L k := fun v H Q l o f => by
  have o' : Rp C.K (hid L H) v (.list ds) := o
  cases o' with
  | @lst p xs _ e ha =>
    refine .inr (.inl ⟨p, xs, rfl, SqL.of (hid_sub _ _ e), fun a ha2 => ?_⟩)
    have g : Grow H L (upd H a (.lst (cutV xs lo hi))) L := grow_new ha2
    exact f _ (.dat (.list (cutD ds lo hi))) L _ g (Keeps.refl L) (l.new ha2) (.lst (by rw [hid_out (l.fresh ha2)]; exact upd_same) (rpAll_mono g.ext (rpAll_cut ha lo hi))) q
theorem sd_str {z : Str} {lo hi : Option Int} (hz : z.length ≤ sizeLine) (q : k (.dat (.str ⟨(cutD z.cps.toList lo hi).toArray⟩)) L) : SD C (rSlZ K) (.dat (.str z)) lo hi L k := fun v H Q l o f => by
  have o' : Rp C.K (hid L H) v (.str z) := o
  cases o'
  refine .inr (.inr ⟨z, rfl, hz, ?_⟩)
  have e : cutS z lo hi = ⟨(cutD z.cps.toList lo hi).toArray⟩ := by
    unfold cutD
    rw [Array.length_toList]
    rfl
  rw [e]
  exact f _ (.dat (.str _)) L H (Grow.refl H L) (Keeps.refl L) l (.str _) q
/-! stars -/
theorem star_rs {H : Hp} : ∀ {vs : List V} {ds : List PyData}, RpAll K (hid L H) vs ds → ∀ {ws : List V} {ys : List Rs}, RsAll K L H ws ys → RsAll K L H (vs ++ ws) (ds.map Rs.dat ++ ys)
  | _, _, .nil, _, _, s => s
  | _, _, .cons h t, _, _, s => .cons h (star_rs t s)
theorem ca_star {tr : TA} {kA : List Rs → Led → Prop} (h : CP C te ε L fun x L1 => ∃ ds, (x = .dat (.list ds) ∨ x = .dat (.tuple ds)) ∧ CA C tr ε L1 fun ys L2 => kA (ds.map Rs.dat ++ ys) L2) (hK : C.K = K := by rfl) : CA C (StX.tStar K te tr) ε L kA := fun σ H Q R X z => by
  subst hK
  refine h σ H _ R X fun v x L1 H1 g1 k1 R1 o1 ⟨ds, e, h1⟩ => ?_
  have key : ∀ (vs : List V), RpAll C.K (hid L1 H1) vs ds → ∀ L2 H2, Grow H1 L1 H2 L2 → Keeps L1 L2 → ∀ ws ys, RsAll C.K L2 H2 ws ys → RsAll C.K L2 H2 (vs ++ ws) (ds.map Rs.dat ++ ys) := by
    intro vs hv
    intro L2 H2 g2 k2 ws ys hw
    exact star_rs (rpAll_mono g2.ext hv) hw
  rcases e with e | e
  · subst e
    cases o1 with
    | @lst p xs _ e2 ha => exact ⟨p, xs, rfl, .inr (SqL.of (hid_sub _ _ e2)), h1 σ H1 _ R1 (X.grow g1) fun ws ys L2 H2 g2 k2 R2 o2 q => z _ _ L2 H2 (g1.trans g2) (k1.trans k2) R2 (key xs ha L2 H2 g2 k2 ws ys o2) q⟩
  · subst e
    cases o1 with
    | @tup p xs _ e2 ha => exact ⟨p, xs, rfl, .inl (ext_t hid_sub e2), h1 σ H1 _ R1 (X.grow g1) fun ws ys L2 H2 g2 k2 R2 o2 q => z _ _ L2 H2 (g1.trans g2) (k1.trans k2) R2 (key xs ha L2 H2 g2 k2 ws ys o2) q⟩
/-! chains, stores at once -/
theorem cp_chain {r r' : R2} (h : CP C ta ε L fun x L1 => CP C tb ε L1 fun y L2 => OD C r x y L2 fun z L3 => ∃ b, z = .dat (.bool b) ∧ if b = true then CP C tc ε L3 fun w L4 => OD C r' y w L4 k else k (.dat (.bool false)) L3) : CP C (tChain r r' ta tb tc) ε L k := fun σ H Q R X z =>
  h σ H _ R X fun v x L1 H1 g1 k1 R1 o1 h1 => h1 σ H1 _ R1 (X.grow g1) fun w y L2 H2 g2 k2 R2 o2 h2 => h2 v w H2 _ R2.led (o1.grow g2 k2) o2 fun u s L3 H3 g3 k3 l3 o3 ⟨b, e, q⟩ => by
    subst e
    cases o3
    have R3 := R2.grow g3 k3 l3
    have g123 := (g1.trans g2).trans g3
    have k123 := (k1.trans k2).trans k3
    refine ⟨b, rfl, ?_⟩
    cases b with
    | true =>
      rw [if_pos rfl] at q ⊢
      exact q σ H3 _ R3 (X.grow g123) fun u2 y2 L4 H4 g4 k4 R4 o4 h4 => h4 w u2 H4 Q R4.led ((o2.grow g3 k3).grow g4 k4) o4 fun u5 s5 L5 H5 g5 k5 l5 o5 q5 => z u5 s5 L5 H5 ((g123.trans g4).trans g5) ((k123.trans k4).trans k5) (R4.grow g5 k5 l5) o5 q5
    | false =>
      rw [if_neg (by decide)] at q ⊢
      exact z _ (.dat (.bool false)) L3 H3 g123 k123 R3 (.bl false) q
theorem hs_par {i j : Nat} (h : CA C tA ε L fun rs L1 => ∃ a b, rs = [a, b] ∧ P.nx ((ε.set i (some a)).set j (some b)) L1) : HS C (tPar i j tA) ε L P := fun σ H D R X E =>
  h σ H _ R X fun vs rs L1 H1 g1 k1 R1 o1 ⟨a, b, e, q⟩ => by
    subst e
    obtain ⟨v, w, rfl, oa, ob⟩ := rsAll_2 o1
    exact ⟨v, w, rfl, E.nx _ L1 _ H1 g1 (rel_set (rel_set R1 oa) ob) q⟩
theorem rsAll_3 {H : Hp} {vs : List V} {r s t : Rs} (o : RsAll K L H vs [r, s, t]) : ∃ u v w, vs = [u, v, w] ∧ RsOk K L H u r ∧ RsOk K L H v s ∧ RsOk K L H w t := by
  cases o with
  | cons a b =>
    obtain ⟨v, w, rfl, c, d⟩ := rsAll_2 b
    exact ⟨_, v, w, rfl, a, c, d⟩
theorem hs_par3 {i j l : Nat} (h : CA C tA ε L fun rs L1 => ∃ a b c, rs = [a, b, c] ∧ P.nx (((ε.set i (some a)).set j (some b)).set l (some c)) L1) : HS C (tPar3 i j l tA) ε L P := fun σ H D R X E =>
  h σ H _ R X fun vs rs L1 H1 g1 k1 R1 o1 ⟨a, b, c, e, q⟩ => by
    subst e
    obtain ⟨u, v, w, rfl, oa, ob, oc⟩ := rsAll_3 o1
    exact ⟨u, v, w, rfl, E.nx _ L1 _ H1 g1 (rel_set (rel_set (rel_set R1 oa) ob) oc) q⟩
theorem hs_ifJ {tt : TT} {t u : TS} (J : Ev → Led → Prop) (h : CT C tt ε L fun b L1 => if b = true then HS C t ε L1 { P with nx := J } else HS C u ε L1 { P with nx := J }) (h2 : ∀ e l, J e l → P.nx e l) : HS C (tIfS tt t u) ε L P :=
  (hs_if (P := { P with nx := J }) h).mono h2 (fun _ _ z => z) (fun _ _ z => z) fun _ _ z => z
theorem hs_whileJ {tc : TT} {tbd : TS} (J : Ev → Led → Prop) (I : Ev → Led → Prop) (μ : Ev → Led → Nat) (h0 : I ε L) (hs : ∀ ε' L', I ε' L' → CT C tc ε' L' fun b L2 => if b = true then HS C tbd ε' L2 { P with nx := fun e l => I e l ∧ μ e l < μ ε' L', ct := fun e l => I e l ∧ μ e l < μ ε' L', bk := J } else J ε' L2) (h2 : ∀ e l, J e l → P.nx e l) : HS C (tWhile tc tbd) ε L P :=
  (hs_while (P := { P with nx := J }) I μ h0 hs).mono h2 (fun _ _ z => z) (fun _ _ z => z) fun _ _ z => z
theorem hs_forJ {wi : TI} {g : TG} {tbd : TS} (J : Ev → Led → Prop) (h : HS C (tFor wi g tbd) ε L { P with nx := J }) (h2 : ∀ e l, J e l → P.nx e l) : HS C (tFor wi g tbd) ε L P :=
  h.mono h2 (fun _ _ z => z) (fun _ _ z => z) fun _ _ z => z
theorem at_last {α : Type} {ds : List α} {d : α} (h : ds[ds.length - 1]? = some d) : atI ds (-1) = some d := by
  have h0 : 0 < ds.length := by
    have := (List.getElem?_eq_some_iff.mp h).1
    omega
  unfold atI ixN
  rw [if_neg (by decide), if_pos (by omega)]
  show ds[((-1 : Int) + (ds.length : Int)).toNat]? = _
  rw [show ((-1 : Int) + (ds.length : Int)).toNat = ds.length - 1 by omega]
  exact h
theorem hs_asgG {g : TG} (h : CP C te ε L fun r L1 => CG C g r ε L1 P.nx) : HS C (tAsg te g) ε L P := fun σ H D R X E =>
  h σ H _ R X fun v r L1 H1 g1 k1 R1 o1 q => q v σ H1 _ R1 o1 fun ε2 L2 σ2 H2 g2 k2 R2 q2 => E.nx ε2 L2 σ2 H2 (g1.trans g2) R2 q2
theorem hs_asgT2 {i j : Nat} (h : CP C te ε L fun r L1 => CG C (gTup K 2 (gCons (gName i) (gCons (gName j) gNil))) r ε L1 P.nx) : HS C (tAsg te (gTup K 2 (gCons (gName i) (gCons (gName j) gNil)))) ε L P := hs_asgG h
theorem hs_pass (h : P.nx ε L) : HS C tNext ε L P := hs_next h
/-! by values -/
theorem od_ip_add {i j : Int} (q : k (.dat (.int (i + j))) L) : OD C (ipI fun a b => a + b) (.dat (.int i)) (.dat (.int j)) L k := od_val (fun v w H l a b => by
  cases a
  cases b
  exact ⟨.int (i + j), .int _, fun Q f => ⟨i, j, rfl, rfl, f⟩⟩) q
theorem od_ip_sub {i j : Int} (q : k (.dat (.int (i - j))) L) : OD C (ipI fun a b => a - b) (.dat (.int i)) (.dat (.int j)) L k := od_val (fun v w H l a b => by
  cases a
  cases b
  exact ⟨.int (i - j), .int _, fun Q f => ⟨i, j, rfl, rfl, f⟩⟩) q
theorem cd_sumZ_lst {ns : List Int} (q : k (.dat (.int ns.sum)) L) : CD C (rSumZ K) [.dat (.list (ns.map PyData.int))] L k := cd_or1 (cd_sum q)
theorem cd_sumZ_tup {ns : List Int} (q : k (.dat (.int ns.sum)) L) (hK : C.K = K := by rfl) : CD C (rSumZ K) [.dat (.tuple (ns.map PyData.int))] L k := by
  subst hK
  refine cd_or2 (cd_val (fun vs H l o => ?_) q)
  obtain ⟨v, rfl, o1⟩ := rsAll_1 o
  cases o1 with
  | @tup p xs _ e ha =>
    have ex := ints_of ha
    subst ex
    exact ⟨.int _, .int _, fun Q f => ⟨p, ns, rfl, ext_t hid_sub e, f⟩⟩
/-- the greatest of some -/
def maxI : List Int → Int
  | [] => 0
  | a :: r => r.foldl max a
theorem foldl_max (r : List Int) : ∀ a : Int, (r.foldl max a = a ∨ r.foldl max a ∈ r) ∧ a ≤ r.foldl max a ∧ ∀ y ∈ r, y ≤ r.foldl max a := by
  induction r with
  | nil => exact fun a => ⟨.inl rfl, Int.le_refl a, fun y h => nomatch h⟩
  | cons b t ih =>
    intro a
    obtain ⟨h1, h2, h3⟩ := ih (max a b)
    rw [List.foldl_cons]
    refine ⟨?_, by omega, fun y hy => ?_⟩
    · rcases h1 with h1 | h1
      · by_cases hab : a ≤ b
        · rw [Int.max_eq_right hab] at h1 ⊢
          exact .inr (by rw [h1]; exact List.mem_cons_self)
        · rw [Int.max_eq_left (by omega)] at h1 ⊢
          exact .inl h1
      · exact .inr (List.mem_cons_of_mem _ h1)
    · rcases List.mem_cons.mp hy with e | e
      · subst e
        omega
      · exact h3 y e
theorem maxI_mem {ns : List Int} (h : 0 < ns.length) : maxI ns ∈ ns := by
  cases ns with
  | nil => simp at h
  | cons a r =>
    rcases (foldl_max r a).1 with e | e
    · show r.foldl max a ∈ a :: r
      rw [e]
      exact List.mem_cons_self
    · exact List.mem_cons_of_mem _ e
theorem maxI_le {ns : List Int} {y : Int} (h : y ∈ ns) : y ≤ maxI ns := by
  cases ns with
  | nil => cases h
  | cons a r =>
    rcases List.mem_cons.mp h with e | e
    · subst e
      exact (foldl_max r y).2.1
    · exact (foldl_max r a).2.2 y e
theorem cd_max_lst {ns : List Int} (h : 0 < ns.length) (q : k (.dat (.int (maxI ns))) L) : CD C (rMaxZ K) [.dat (.list (ns.map PyData.int))] L k := cd_or1 (cd_or1 (cd_val (fun vs H l o => by
  obtain ⟨v, rfl, o1⟩ := rsAll_1 o
  cases o1 with
  | @lst p xs _ e ha =>
    have ex := ints_of ha
    subst ex
    refine ⟨.int (maxI ns), .int _, fun Q f => ⟨p, ns, rfl, SqL.of (hid_sub _ _ e), h, fun m h1 h2 => ?_⟩⟩
    have em : m = maxI ns := Int.le_antisymm (maxI_le h1) (h2 _ (maxI_mem h))
    rw [em]
    exact f) q))
theorem cd_max_tup {ns : List Int} (h : 0 < ns.length) (q : k (.dat (.int (maxI ns))) L) (hK : C.K = K := by rfl) : CD C (rMaxZ K) [.dat (.tuple (ns.map PyData.int))] L k := by
  subst hK
  refine cd_or1 (cd_or2 (cd_val (fun vs H l o => ?_) q))
  obtain ⟨v, rfl, o1⟩ := rsAll_1 o
  cases o1 with
  | @tup p xs _ e ha =>
    have ex := ints_of ha
    subst ex
    refine ⟨.int (maxI ns), .int _, fun Q f => ⟨p, ns, rfl, ext_t hid_sub e, h, fun m h1 h2 => ?_⟩⟩
    have em : m = maxI ns := Int.le_antisymm (maxI_le h1) (h2 _ (maxI_mem h))
    rw [em]
    exact f
theorem cd_max2 {i j : Int} (q : k (.dat (.int (if j > i then j else i))) L) : CD C (rMaxZ K) [.dat (.int i), .dat (.int j)] L k := cd_or2 (cd_val (fun vs H l o => by
  have e := rsAll_int2 o
  subst e
  exact ⟨.int _, .int _, fun Q f => ⟨i, j, rfl, f⟩⟩) q)
/-- tuple(xs), list(xs) -/
def rTupZ (K : PySem.W.Frag) : List V → Hp → VK → Prop := fun xs H Q => ∃ p ys, xs = [.ref p] ∧ ((SqL K H p ys ∧ ∀ l, H l = none → Q (.ref l) (upd H l (.tup ys))) ∨ (SqT K H p ys ∧ Q (.ref p) H))
theorem call_tupleZ {X : Cx} : CallR X (.type "tuple") (rTupZ X.K) := call_tuple_of
theorem cd_tup_lst {ds : List PyData} (q : k (.dat (.tuple ds)) L) : CD C (rTupZ K) [.dat (.list ds)] L k := fun vs H Q l o f => by
  obtain ⟨v, rfl, o1⟩ := rsAll_1 o
  cases o1 with
  | @lst p xs _ e ha =>
    refine ⟨p, xs, rfl, .inl ⟨SqL.of (hid_sub _ _ e), fun a ha2 => ?_⟩⟩
    have g : Grow H L (upd H a (.tup xs)) L := grow_new ha2
    exact f _ (.dat (.tuple ds)) L _ g (Keeps.refl L) (l.new ha2) (.tup (SqT.of (by rw [hid_out (l.fresh ha2)]; exact upd_same)) (rpAll_mono g.ext ha)) q
theorem cd_tup_own {a : Addr} {ds : List PyData} (m : (a, .lst ds) ∈ L) (q : k (.dat (.tuple ds)) L) : CD C (rTupZ K) [.own a] L k := fun vs H Q l o f => by
  obtain ⟨v, rfl, o1⟩ := rsAll_1 o
  obtain ⟨rfl, ha⟩ := o1
  obtain ⟨xs, ex, hx⟩ := l.isLst m
  refine ⟨a, xs, rfl, .inl ⟨SqL.of ex, fun p hp => ?_⟩⟩
  have g : Grow H L (upd H p (.tup xs)) L := grow_new hp
  exact f _ (.dat (.tuple ds)) L _ g (Keeps.refl L) (l.new hp) (.tup (SqT.of (by rw [hid_out (l.fresh hp)]; exact upd_same)) (rpAll_mono g.ext hx)) q
def rLstZ (K : PySem.W.Frag) : List V → Hp → VK → Prop := fun xs H Q => ∃ p ys, xs = [.ref p] ∧ (SqL K H p ys ∨ SqT K H p ys) ∧ ∀ l, H l = none → Q (.ref l) (upd H l (.lst ys))
theorem call_listZ {X : Cx} : CallR X (.type "list") (rLstZ X.K) := call_list_of
theorem cd_list_tup {ds : List PyData} (q : k (.dat (.list ds)) L) (hK : C.K = K := by rfl) : CD C (rLstZ K) [.dat (.tuple ds)] L k := by
  subst hK
  refine cd_lst (fun vs H l o => ?_) q
  obtain ⟨v, rfl, o1⟩ := rsAll_1 o
  cases o1 with
  | @tup p xs _ e ha => exact ⟨xs, ha, fun Q f => ⟨p, xs, rfl, .inr (ext_t hid_sub e), f⟩⟩
theorem cd_list_lst {ds : List PyData} (q : k (.dat (.list ds)) L) : CD C (rLstZ K) [.dat (.list ds)] L k := cd_lst (fun vs H l o => by
  obtain ⟨v, rfl, o1⟩ := rsAll_1 o
  cases o1 with
  | @lst p xs _ e ha => exact ⟨xs, ha, fun Q f => ⟨p, xs, rfl, .inl (SqL.of (hid_sub _ _ e)), f⟩⟩) q
/-- sorted(xs) of ints -/
theorem cd_sortedI {ns ms : List Int} (hp : ms.Perm ns) (hs : ms.Pairwise (· ≤ ·)) (q : k (.dat (.list (ms.map PyData.int))) L) : CD C (rSortedI K) [.dat (.list (ns.map PyData.int))] L k := cd_lst (fun vs H l o => by
  obtain ⟨v, rfl, o1⟩ := rsAll_1 o
  cases o1 with
  | @lst p xs _ e ha =>
    have ex := ints_of ha
    subst ex
    refine ⟨ms.map V.int, rpAll_ints ms, fun Q f => ⟨p, ns, rfl, SqL.of (hid_sub _ _ e), fun ns' a h1 h2 h3 => ?_⟩⟩
    have en : ns' = ms := List.Perm.eq_of_pairwise (fun a b _ _ h1 h2 => Int.le_antisymm h1 h2) h2 hs (h1.trans hp.symm)
    rw [en]
    exact f a h3) q
/-! in, over ints -/
theorem inV_ints (i : Int) : ∀ ns : List Int, inV (.int i) (ns.map V.int) = decide (i ∈ ns)
  | [] => by
    simp [inV]
  | a :: r => by
    have h := inV_ints i r
    unfold inV at h ⊢
    rw [List.map_cons, List.any_cons, h]
    have e : eqV (.int a) (.int i) = decide (a = i) := by
      show (a == i) = _
      by_cases z : a = i
      · rw [decide_eq_true z]
        exact beq_iff_eq.mpr z
      · rw [decide_eq_false z]
        exact beq_eq_false_iff_ne.mpr z
    rw [e]
    by_cases h1 : a = i
    · subst h1
      simp
    · rw [decide_eq_false h1, Bool.false_or]
      have : (i ∈ a :: r) ↔ i ∈ r := by
        rw [List.mem_cons]
        exact ⟨fun h => h.resolve_left fun z => h1 z.symm, .inr⟩
      simp [this]
theorem flat_ints (ns : List Int) : (ns.map V.int).all flatV = true := by
  induction ns with
  | nil => rfl
  | cons a r ih =>
    rw [List.map_cons, List.all_cons, ih]
    rfl
theorem od_in_tup {i : Int} {ns : List Int} (q : k (.dat (.bool (decide (i ∈ ns)))) L) (hK : C.K = K := by rfl) : OD C (rInZ K) (.dat (.int i)) (.dat (.tuple (ns.map PyData.int))) L k := by
  subst hK
  refine od_or2 (od_val (fun v w H l a b => ?_) q)
  cases a
  cases b with
  | @tup p xs _ e ha =>
    have ex := ints_of ha
    subst ex
    exact ⟨.bl _, .bl _, fun Q f => ⟨p, _, rfl, .inr (ext_t hid_sub e), rfl, flat_ints ns, by rw [if_neg (by decide), inV_ints]; exact f⟩⟩
theorem od_notIn_tup {i : Int} {ns : List Int} (q : k (.dat (.bool (!decide (i ∈ ns)))) L) (hK : C.K = K := by rfl) : OD C (rNotInZ K) (.dat (.int i)) (.dat (.tuple (ns.map PyData.int))) L k := by
  subst hK
  refine od_or2 (od_val (fun v w H l a b => ?_) q)
  cases a
  cases b with
  | @tup p xs _ e ha =>
    have ex := ints_of ha
    subst ex
    exact ⟨.bl _, .bl _, fun Q f => ⟨p, _, rfl, .inr (ext_t hid_sub e), rfl, flat_ints ns, by rw [if_pos rfl, inV_ints]; exact f⟩⟩
/-- xs + ys, written on later -/
theorem od_add_own {ds es : List PyData} (h : ds.length + es.length ≤ sizeLine) (q : ∀ p, p ∉ L.ks → k (.own p) (plus L p (ds ++ es))) : OD C (rAddZ K) (.dat (.list ds)) (.dat (.list es)) L k := fun v w H Q l a b f => .inr (.inr (.inl (by
  have a' : Rp C.K (hid L H) v (.list ds) := a
  have b' : Rp C.K (hid L H) w (.list es) := b
  cases a' with
  | @lst p xs _ e1 h1 =>
    cases b' with
    | @lst p2 ys _ e2 h2 =>
      refine ⟨p, p2, xs, ys, rfl, rfl, hid_sub _ _ e1, hid_sub _ _ e2, by rw [rpAll_len h1, rpAll_len h2]; exact h, fun a ha => ?_⟩
      exact f _ (.own a) _ _ (grow_own ha) keeps_own (l.own ha (rpAll_app h1 h2)) ⟨rfl, Led.key plus_mem⟩ (q a (l.fresh ha)))))
/-- (e,) * n -/
theorem od_mul_tup {ds : List PyData} {n : Int} (h : ds ≠ [] ∧ 2 ≤ n ∧ n ≤ 1000 ∧ ds.length ≤ 1000) (q : k (.dat (.tuple (List.replicate n.toNat ds).flatten)) L) (hK : C.K = K := by rfl) : OD C (rMulY K) (.dat (.tuple ds)) (.dat (.int n)) L k := fun v w H Q l a b f => .inl (.inr (.inr (by
  subst hK
  have a' : Rp C.K (hid L H) v (.tuple ds) := a
  cases b
  cases a' with
  | @tup p xs _ e ha =>
    have hl := rpAll_len ha
    refine ⟨p, n, xs, rfl, rfl, ext_t hid_sub e, fun z => h.1 (List.eq_nil_of_length_eq_zero (by rw [← hl, z]; rfl)), h.2.1, h.2.2.1, by rw [hl]; exact h.2.2.2, fun a2 ha2 => ?_⟩
    have g : Grow H L (upd H a2 (.tup (List.replicate n.toNat xs).flatten)) L := grow_new ha2
    exact f _ (.dat (.tuple (List.replicate n.toNat ds).flatten)) L _ g (Keeps.refl L) (l.new ha2) (.tup (SqT.of (by rw [hid_out (l.fresh ha2)]; exact upd_same)) (rpAll_mono g.ext (rpAll_rep ha _))) q)))
end
theorem slK {X : Cx} {K : PySem.W.Frag} {r : PySem.W.Frag → V → Option Int → Option Int → Hp → VK → Prop} (h : SlR X (r X.K)) (e : X.K = K) : SlR X (r K) := e ▸ h
theorem pa_starK {X : Cx} {K : PySem.W.Frag} {e : Expr} {es : List Expr} {p : Pos} {te : TE} {t : TA} (ek : X.K = K) (he : PE X e te) (hr : PA X es t) (hs : starEach (.Starred e p :: es) X.env = (true, eval e X.env) :: starEach es X.env := by rfl) : PA X (.Starred e p :: es) (StX.tStar K te t) := by
  subst ek
  exact StX.pa_star he hr hs
end Z

set_option Elab.async false
set_option linter.all false
set_option maxRecDepth 100000
set_option maxHeartbeats 4000000
namespace W06
open PySem PySem.Spec PyProof.Rows L2 Z
def top (i : Nat) : Stmt := PySem.Challenge.pw_humpyard_k06_whole_great_cuts.main.body.getD i (.Pass ⟨0, 0, 0, 0⟩)
/-! cuts of lengths -/
def okL (xs : List Int) : Prop := xs.length ≤ 300 ∧ ∀ x ∈ xs, 1 ≤ x ∧ x ≤ 1000
def pre (xs : List Int) (i : Nat) : Int := (xs.take i).sum
def seg (xs : List Int) (a b : Nat) : Int := ((xs.drop a).take (b - a)).sum
theorem seg_pre {xs : List Int} {a b : Nat} (h : a ≤ b) : seg xs a b = pre xs b - pre xs a := by
  have e : xs.take b = xs.take a ++ (xs.drop a).take (b - a) := by
    have := List.take_add (l := xs) (i := a) (j := b - a)
    rw [show a + (b - a) = b by omega] at this
    exact this
  unfold pre seg
  rw [e, List.sum_append]
  omega
theorem sum_nonneg : ∀ {l : List Int}, (∀ x ∈ l, 0 ≤ x) → 0 ≤ l.sum
  | [], _ => Int.le_refl 0
  | a :: r, h => by
    rw [List.sum_cons]
    have h1 := h a List.mem_cons_self
    have h2 := sum_nonneg fun x hx => h x (List.mem_cons_of_mem _ hx)
    omega
theorem pre_mono {xs : List Int} (h : okL xs) {a b : Nat} (hab : a ≤ b) : pre xs a ≤ pre xs b := by
  have e := seg_pre (xs := xs) hab
  have : 0 ≤ seg xs a b := sum_nonneg fun x hx => by
    have := (h.2 x (List.mem_of_mem_drop (List.mem_of_mem_take hx))).1
    omega
  omega
theorem pre_succ {xs : List Int} {i : Nat} {x : Int} (h : xs[i]? = some x) : pre xs (i + 1) = pre xs i + x := by
  unfold pre
  rw [List.take_add_one, h, List.sum_append]
  simp
theorem pre_end {xs : List Int} {i : Nat} (h : xs.length ≤ i) : pre xs i = xs.sum := by
  unfold pre
  rw [List.take_of_length_le h]
def gr (S : Int) : Nat → Int → List Int → List Nat
  | _, _, [] => []
  | a, w, x :: t => if S < w + x ∧ 0 < a then a :: gr S (a + 1) x t else gr S (a + 1) (w + x) t
def Good (xs : List Int) (S : Int) : Nat → List Nat → Prop
  | g, [] => pre xs xs.length - pre xs g ≤ S
  | g, b :: r => g < b ∧ b < xs.length ∧ pre xs b - pre xs g ≤ S ∧ S < pre xs (b + 1) - pre xs g ∧ Good xs S b r
theorem drop_get {xs t : List Int} {a : Nat} {x : Int} (h : xs.drop a = x :: t) : xs[a]? = some x ∧ xs.drop (a + 1) = t := by
  refine ⟨?_, ?_⟩
  · have := congrArg (fun l : List Int => l[0]?) h
    simpa using this
  · have := congrArg List.tail h
    simpa using this
theorem gr_good {xs : List Int} {S : Int} (hS : ∀ x ∈ xs, x ≤ S) : ∀ (t : List Int) (a g : Nat), xs.drop a = t → (g < a ∨ a = 0 ∧ g = 0) → pre xs a - pre xs g ≤ S → Good xs S g (gr S a (pre xs a - pre xs g) t)
  | [], a, g, h, _, hw => by
    have hl : xs.length ≤ a := List.drop_eq_nil_iff.mp h
    show pre xs xs.length - pre xs g ≤ S
    rw [pre_end (Nat.le_refl _), ← pre_end hl]
    exact hw
  | x :: t, a, g, h, hg, hw => by
    obtain ⟨hx, ht⟩ := drop_get h
    have hp := pre_succ hx
    have hm : x ∈ xs := List.mem_of_getElem? hx
    have hl : a < xs.length := (List.getElem?_eq_some_iff.mp hx).1
    have hxS := hS x hm
    unfold gr
    by_cases hc : S < pre xs a - pre xs g + x ∧ 0 < a
    · rw [if_pos hc]
      have e : pre xs (a + 1) - pre xs a = x := by omega
      have ih := gr_good hS t (a + 1) a ht (.inl (Nat.lt_succ_self a)) (by omega)
      rw [e] at ih
      exact ⟨by omega, hl, hw, by omega, ih⟩
    · rw [if_neg hc]
      have e : pre xs (a + 1) - pre xs g = pre xs a - pre xs g + x := by omega
      have hle : pre xs a - pre xs g + x ≤ S := by
        rcases hg with hg | ⟨h1, h2⟩
        · omega
        · subst h1 h2
          omega
      have ih := gr_good hS t (a + 1) g ht (.inl (by omega)) (by omega)
      rw [e] at ih
      exact ih
def greedy (xs : List Int) (S : Int) : List Nat := gr S 0 0 xs
theorem greedy_good {xs : List Int} {S : Int} (hS : ∀ x ∈ xs, x ≤ S) (h0 : 0 ≤ S) : Good xs S 0 (greedy xs S) := by
  have h := gr_good hS xs 0 0 rfl (.inr ⟨rfl, rfl⟩) (by omega)
  rw [show pre xs 0 - pre xs 0 = 0 by omega] at h
  exact h
/-- cuts in order -/
def Asc (n : Nat) : Nat → List Nat → Prop
  | _, [] => True
  | g, b :: r => g < b ∧ b < n ∧ Asc n b r
theorem good_asc {xs : List Int} {S : Int} : ∀ {C : List Nat} {g : Nat}, Good xs S g C → Asc xs.length g C
  | [], _, _ => trivial
  | b :: r, _, h => ⟨h.1, h.2.1, good_asc h.2.2.2.2⟩
theorem asc_mem {n : Nat} : ∀ {C : List Nat} {g : Nat}, Asc n g C → ∀ c ∈ C, g < c ∧ c < n
  | [], _, _, c, hc => by cases hc
  | b :: r, g, h, c, hc => by
    rcases List.mem_cons.mp hc with e | e
    · subst e
      exact ⟨h.1, h.2.1⟩
    · have := asc_mem h.2.2 c e
      exact ⟨by have := h.1; omega, this.2⟩
theorem asc_pair {n : Nat} : ∀ {C : List Nat} {g : Nat}, Asc n g C → C.Pairwise (· < ·)
  | [], _, _ => .nil
  | b :: r, g, h => .cons (fun c hc => (asc_mem h.2.2 c hc).1) (asc_pair h.2.2)
theorem asc_of {n : Nat} : ∀ {C : List Nat} {g : Nat}, C.Pairwise (· < ·) → (∀ c ∈ C, g < c ∧ c < n) → Asc n g C
  | [], _, _, _ => trivial
  | b :: r, g, h, hm => by
    cases h with
    | cons h1 h2 => exact ⟨(hm b List.mem_cons_self).1, (hm b List.mem_cons_self).2, asc_of h2 fun c hc => ⟨h1 c hc, (hm c (List.mem_cons_of_mem _ hc)).2⟩⟩
def partsR (xs : List Int) : Nat → List Nat → List Int
  | g, [] => [seg xs g xs.length]
  | g, b :: r => seg xs g b :: partsR xs b r
def ends (n : Nat) (C : List Nat) : List Nat := 0 :: C ++ [n]
def parts (xs : List Int) (C : List Nat) : List Int := partsR xs 0 C
theorem parts_len (xs : List Int) : ∀ (C : List Nat) (g : Nat), (partsR xs g C).length = C.length + 1
  | [], _ => rfl
  | b :: r, g => by
    unfold partsR
    rw [List.length_cons, parts_len xs r b, List.length_cons]
theorem good_le {xs : List Int} {S : Int} : ∀ {C : List Nat} {g : Nat}, g ≤ xs.length → Good xs S g C → ∀ p ∈ partsR xs g C, p ≤ S
  | [], g, hg, h, p, hp => by
    rw [partsR, List.mem_singleton] at hp
    subst hp
    rw [seg_pre hg]
    exact h
  | b :: r, g, hg, h, p, hp => by
    rw [partsR] at hp
    rcases List.mem_cons.mp hp with e | e
    · subst e
      rw [seg_pre (Nat.le_of_lt h.1)]
      exact h.2.2.1
    · exact good_le (Nat.le_of_lt h.2.1) h.2.2.2.2 p e
theorem find_part {xs : List Int} : ∀ {C : List Nat} {g i : Nat}, Asc xs.length g C → g ≤ i → i < xs.length → ∃ e e', seg xs e e' ∈ partsR xs g C ∧ e ≤ i ∧ i < e' ∧ e' ≤ xs.length ∧ (e' ∈ C ∨ e' = xs.length)
  | [], g, i, _, h1, h2 => ⟨g, xs.length, by rw [partsR]; exact List.mem_singleton.mpr rfl, h1, h2, Nat.le_refl _, .inr rfl⟩
  | b :: r, g, i, h, h1, h2 => by
    by_cases hb : i < b
    · exact ⟨g, b, by rw [partsR]; exact List.mem_cons_self, h1, hb, Nat.le_of_lt h.2.1, .inl List.mem_cons_self⟩
    · obtain ⟨e, e', a1, a2, a3, a4, a5⟩ := find_part h.2.2 (by omega : b ≤ i) h2
      exact ⟨e, e', by rw [partsR]; exact List.mem_cons_of_mem _ a1, a2, a3, a4, a5.imp_left (List.mem_cons_of_mem _)⟩
theorem part_at {xs : List Int} : ∀ {C : List Nat} {g : Nat}, g < xs.length → Asc xs.length g C → ∀ p ∈ partsR xs g C, ∃ e e', p = seg xs e e' ∧ g ≤ e ∧ e < e' ∧ e' ≤ xs.length ∧ ∀ c ∈ C, e < c → e' ≤ c
  | [], g, hg, _, p, hp => by
    rw [partsR, List.mem_singleton] at hp
    exact ⟨g, xs.length, hp, Nat.le_refl _, hg, Nat.le_refl _, fun c hc => nomatch hc⟩
  | b :: r, g, hg, h, p, hp => by
    rw [partsR] at hp
    rcases List.mem_cons.mp hp with e | e
    · refine ⟨g, b, e, Nat.le_refl _, h.1, Nat.le_of_lt h.2.1, fun c hc _ => ?_⟩
      rcases List.mem_cons.mp hc with z | z
      · omega
      · have := (asc_mem h.2.2 c z).1
        omega
    · obtain ⟨e1, e2, a1, a2, a3, a4, a5⟩ := part_at h.2.1 h.2.2 p e
      refine ⟨e1, e2, a1, by have := h.1; omega, a3, a4, fun c hc hlt => ?_⟩
      rcases List.mem_cons.mp hc with z | z
      · omega
      · exact a5 c z hlt
theorem filter_more {α : Type} (p q : α → Bool) : ∀ {C : List α} {c : α}, (∀ x, q x = true → p x = true) → c ∈ C → p c = true → q c = false → (C.filter q).length + 1 ≤ (C.filter p).length
  | [], c, _, h, _, _ => nomatch h
  | a :: r, c, hpq, hc, h1, h2 => by
    have mono : ∀ l : List α, (l.filter q).length ≤ (l.filter p).length := by
      intro l
      induction l with
      | nil => exact Nat.le_refl _
      | cons b t ih =>
        rw [List.filter_cons, List.filter_cons]
        cases hq : q b with
        | true =>
          rw [hpq b hq]
          simpa using ih
        | false =>
          cases hp : p b with
          | true =>
            simp only [Bool.false_eq_true, if_false, if_true, List.length_cons]
            omega
          | false => simpa using ih
    rcases List.mem_cons.mp hc with e | e
    · subst e
      have := mono r
      rw [List.filter_cons, List.filter_cons, h1, h2]
      simp only [Bool.false_eq_true, if_false, if_true, List.length_cons]
      omega
    · have ih := filter_more p q hpq e h1 h2
      rw [List.filter_cons, List.filter_cons]
      cases hq : q a with
      | true =>
        rw [hpq a hq]
        simp only [if_true, List.length_cons]
        omega
      | false =>
        cases hp : p a with
        | true =>
          simp only [Bool.false_eq_true, if_false, if_true, List.length_cons]
          omega
        | false => simpa using ih
/-- the markers: no cutting with shorter parts has fewer cuts -/
theorem markers {xs : List Int} {S : Int} (hx : okL xs) {C : List Nat} (hC : Asc xs.length 0 C) (hp : ∀ p ∈ parts xs C, p ≤ S) : ∀ {G : List Nat} {a : Nat}, a < xs.length → Good xs S a G → G.length ≤ (C.filter fun c => decide (a < c)).length
  | [], _, _, _ => Nat.zero_le _
  | b :: r, a, ha, h => by
    have ih := markers hx hC hp h.2.1 h.2.2.2.2
    obtain ⟨e, e', m1, m2, m3, m4, m5⟩ := find_part (C := C) (g := 0) (i := a) hC (Nat.zero_le _) ha
    have hs := hp _ m1
    rw [seg_pre (by omega)] at hs
    have hb : e' ≤ b := by
      refine Nat.not_lt.mp fun hlt => ?_
      have q1 := pre_mono hx (show b + 1 ≤ e' from hlt)
      have q2 := pre_mono hx m2
      have := h.2.2.2.1
      omega
    have hc : e' ∈ C := m5.resolve_right (by have := h.2.1; omega)
    have key := filter_more (fun c => decide (a < c)) (fun c => decide (b < c)) (C := C) (c := e') (fun x hx => decide_eq_true (by have := of_decide_eq_true hx; have := h.1; omega)) hc (decide_eq_true m3) (decide_eq_false (by omega))
    rw [List.length_cons]
    omega
/-- more cuts, no longer parts -/
theorem refine_le {xs : List Int} {S : Int} (hx : okL xs) (h0 : 0 < xs.length) {G C : List Nat} (hG : Good xs S 0 G) (hC : Asc xs.length 0 C) (hs : ∀ c ∈ G, c ∈ C) : ∀ p ∈ parts xs C, p ≤ S := by
  intro p hp
  obtain ⟨e, e', rfl, _, a2, a3, a4⟩ := part_at h0 hC p hp
  obtain ⟨g, g', m1, m2, m3, m4, m5⟩ := find_part (good_asc hG) (Nat.zero_le e) (by omega)
  have q := good_le (Nat.zero_le _) hG _ m1
  rw [seg_pre (by omega)] at q
  have hg : e' ≤ g' := by
    rcases m5 with z | z
    · exact a4 g' (hs g' z) m3
    · omega
  rw [seg_pre (by omega)]
  have q1 := pre_mono hx m2
  have q2 := pre_mono hx hg
  omega
/-- how great the greatest part is at least -/
theorem max_part {xs : List Int} (hx : okL xs) {C : List Nat} (hC : Asc xs.length 0 C) {x : Int} (hm : x ∈ xs) : x ≤ maxI (parts xs C) := by
  obtain ⟨i, hi, e⟩ := List.mem_iff_getElem.mp hm
  obtain ⟨a, b, m1, m2, m3, m4, _⟩ := find_part hC (Nat.zero_le i) hi
  have q := maxI_le m1
  rw [seg_pre (by omega)] at q
  have hp := pre_succ (xs := xs) (i := i) (x := x) (by rw [List.getElem?_eq_getElem hi, e])
  have q1 := pre_mono hx m2
  have q2 := pre_mono hx (show i + 1 ≤ b from m3)
  show x ≤ maxI (partsR xs 0 C)
  omega
/-- the law's own count of parts -/
def fwf (S : Int) : Int → Int → List Int → Int
  | p, _, [] => p
  | p, w, x :: t => if S < w + x then fwf S (p + 1) x t else fwf S p (w + x) t
theorem fwf_gr (S : Int) : ∀ (t : List Int) (a : Nat) (p w : Int), 0 < a → fwf S p w t = p + ((gr S a w t).length : Int)
  | [], _, p, _, _ => by simp [fwf, gr]
  | x :: t, a, p, w, ha => by
    unfold fwf gr
    by_cases h : S < w + x
    · rw [if_pos h, if_pos ⟨h, ha⟩, fwf_gr S t (a + 1) _ _ (Nat.succ_pos _), List.length_cons]
      omega
    · rw [if_neg h, if_neg fun z => h z.1, fwf_gr S t (a + 1) _ _ (Nat.succ_pos _)]
def fewest (xs : List Int) (S : Int) : Int := fwf S 1 0 xs
theorem fewest_eq {xs : List Int} {S : Int} (hS : ∀ x ∈ xs, x ≤ S) : fewest xs S = ((greedy xs S).length : Int) + 1 := by
  cases xs with
  | nil => simp [fewest, fwf, greedy, gr]
  | cons x t =>
    have hx := hS x List.mem_cons_self
    have h : ¬ S < 0 + x := by omega
    have h2 : ¬ (S < 0 + x ∧ 0 < 0) := by omega
    unfold fewest greedy fwf gr
    rw [if_neg h, if_neg h2, fwf_gr S t (0 + 1) _ _ (by decide)]
    omega
/-! the least siding -/
def bsR (c : Int → Nat) (k : Nat) : Nat → Int → Int → Int
  | 0, l, _ => l
  | n + 1, l, h => if l < h then (if c ((l + h) / 2) < k then bsR c k n l ((l + h) / 2) else bsR c k n ((l + h) / 2 + 1) h) else l
theorem bsR_ok (c : Int → Nat) (k : Nat) : ∀ (n : Nat) (l h l0 : Int), h - l ≤ n → l ≤ h → l0 ≤ l → (l = l0 ∨ k ≤ c (l - 1)) → c h < k → l0 ≤ bsR c k n l h ∧ bsR c k n l h ≤ h ∧ (bsR c k n l h = l0 ∨ k ≤ c (bsR c k n l h - 1)) ∧ c (bsR c k n l h) < k
  | 0, l, h, l0, h1, h2, h3, h4, h5 => by
    have e : l = h := by omega
    subst e
    exact ⟨h3, h2, h4, h5⟩
  | n + 1, l, h, l0, h1, h2, h3, h4, h5 => by
    unfold bsR
    by_cases hl : l < h
    · rw [if_pos hl]
      by_cases hc : c ((l + h) / 2) < k
      · rw [if_pos hc]
        obtain ⟨a, b, d, e⟩ := bsR_ok c k n l ((l + h) / 2) l0 (by omega) (by omega) h3 h4 hc
        exact ⟨a, by omega, d, e⟩
      · rw [if_neg hc]
        exact bsR_ok c k n ((l + h) / 2 + 1) h l0 (by omega) (by omega) (by omega) (.inr (by rw [show (l + h) / 2 + 1 - 1 = (l + h) / 2 by omega]; omega)) h5
    · rw [if_neg hl]
      have e : l = h := by omega
      subst e
      exact ⟨h3, h2, h4, h5⟩
theorem bsR_fuel (c : Int → Nat) (k : Nat) : ∀ (n m : Nat) (l h : Int), h - l ≤ n → h - l ≤ m → bsR c k n l h = bsR c k m l h
  | 0, 0, _, _, _, _ => rfl
  | 0, m + 1, l, h, h1, _ => by
    unfold bsR
    rw [if_neg (by omega)]
  | n + 1, 0, l, h, _, h2 => by
    show (if l < h then _ else l) = l
    rw [if_neg (by omega)]
  | n + 1, m + 1, l, h, h1, h2 => by
    unfold bsR
    by_cases hl : l < h
    · rw [if_pos hl, if_pos hl, bsR_fuel c k n m l _ (by omega) (by omega), bsR_fuel c k n m _ h (by omega) (by omega)]
    · rw [if_neg hl, if_neg hl]
def cG (xs : List Int) (S : Int) : Nat := (greedy xs S).length
def least (xs : List Int) (k : Nat) : Int := bsR (cG xs) k (xs.sum - maxI xs).toNat (maxI xs) xs.sum

theorem sum_split (xs : List Int) : xs.sum = pre xs xs.length := (pre_end (Nat.le_refl _)).symm
theorem gr_sum {xs : List Int} (hx : okL xs) : greedy xs xs.sum = [] := by
  have key : ∀ (t : List Int) (a : Nat) (w : Int), xs.drop a = t → w = pre xs a → gr xs.sum a w t = [] := by
    intro t
    induction t with
    | nil => intro a w _ _; rfl
    | cons x t ih =>
      intro a w h hw
      obtain ⟨h1, h2⟩ := drop_get h
      have hp := pre_succ h1
      have hl : a < xs.length := (List.getElem?_eq_some_iff.mp h1).1
      have hm := pre_mono hx (show a + 1 ≤ xs.length from hl)
      rw [← sum_split] at hm
      unfold gr
      rw [if_neg (by omega)]
      exact ih (a + 1) (w + x) h2 (by omega)
  exact key xs 0 0 rfl rfl
theorem max_sum {xs : List Int} (hx : okL xs) (h0 : 0 < xs.length) : maxI xs ≤ xs.sum := by
  obtain ⟨i, hi, e⟩ := List.mem_iff_getElem.mp (maxI_mem h0)
  have hp := pre_succ (xs := xs) (i := i) (x := maxI xs) (by rw [List.getElem?_eq_getElem hi, e])
  have q1 := pre_mono hx (Nat.zero_le i)
  have q2 := pre_mono hx (show i + 1 ≤ xs.length from hi)
  rw [← sum_split] at q2
  have : pre xs 0 = 0 := rfl
  omega
theorem least_ok {xs : List Int} (hx : okL xs) (h0 : 0 < xs.length) {k : Nat} (hk : 0 < k) : maxI xs ≤ least xs k ∧ least xs k ≤ xs.sum ∧ (least xs k = maxI xs ∨ k ≤ cG xs (least xs k - 1)) ∧ cG xs (least xs k) < k := by
  have hm := max_sum hx h0
  refine bsR_ok (cG xs) k _ _ _ _ (by omega) hm (Int.le_refl _) (.inl rfl) ?_
  show (greedy xs xs.sum).length < k
  rw [gr_sum hx]
  exact hk
theorem below {xs : List Int} {S : Int} (h : maxI xs ≤ S) : ∀ x ∈ xs, x ≤ S := fun x hx => Int.le_trans (maxI_le hx) h
theorem max_pos {xs : List Int} (hx : okL xs) (h0 : 0 < xs.length) : 1 ≤ maxI xs := (hx.2 _ (maxI_mem h0)).1
/-- a best cutting: the greedy one and some more -/
theorem best_max {xs : List Int} (hx : okL xs) (h0 : 0 < xs.length) {k : Nat} (hk : 0 < k) {C : List Nat} (hC : Asc xs.length 0 C) (hl : C.length + 1 = k) (hs : ∀ c ∈ greedy xs (least xs k), c ∈ C) : maxI (parts xs C) = least xs k := by
  obtain ⟨a1, a2, a3, a4⟩ := least_ok hx h0 hk
  have hmp := max_pos hx h0
  have hG := greedy_good (xs := xs) (S := least xs k) (below a1) (by omega)
  have hle := refine_le hx h0 hG hC hs
  have hpl : 0 < (parts xs C).length := by
    unfold parts
    rw [parts_len]
    omega
  refine Int.le_antisymm (hle _ (maxI_mem hpl)) ?_
  rcases a3 with e | e
  · rw [e]
    exact max_part hx hC (maxI_mem h0)
  · refine Int.not_lt.mp fun hlt => ?_
    by_cases hb : maxI xs ≤ least xs k - 1
    · have hG2 := greedy_good (xs := xs) (S := least xs k - 1) (below hb) (by omega)
      have q := markers hx hC (fun p hp => by have := maxI_le hp; omega) (G := greedy xs (least xs k - 1)) h0 hG2
      have q2 := List.length_filter_le (fun c => decide (0 < c)) C
      unfold cG at e
      omega
    · have := max_part hx hC (maxI_mem h0)
      omega
/-- the rest of the places -/
theorem nodup_len {α : Type} [DecidableEq α] : ∀ {l G : List α}, l.Nodup → (∀ x ∈ l, x ∈ G) → l.length ≤ G.length
  | [], _, _, _ => Nat.zero_le _
  | a :: r, G, hn, h => by
    have hn := List.nodup_cons.mp hn
    have ha := h a List.mem_cons_self
    have ih := nodup_len (l := r) (G := G.erase a) hn.2 fun x hx => (List.mem_erase_of_ne (fun z => hn.1 (by rw [← z]; exact hx))).mpr (h x (List.mem_cons_of_mem _ hx))
    rw [List.length_erase_of_mem ha] at ih
    have : 0 < G.length := List.length_pos_of_mem ha
    rw [List.length_cons]
    omega
def more (n : Nat) (G : List Nat) : List Nat := (List.range' 1 (n - 1)).filter fun c => !decide (c ∈ G)
theorem more_len (n : Nat) (G : List Nat) : n - 1 ≤ (more n G).length + G.length := by
  have e : ((List.range' 1 (n - 1)).filter fun c => decide (c ∈ G)).length + (more n G).length = n - 1 := by
    have key : ∀ l : List Nat, (l.filter fun c => decide (c ∈ G)).length + (l.filter fun c => !decide (c ∈ G)).length = l.length := by
      intro l
      induction l with
      | nil => rfl
      | cons a r ih =>
        rw [List.filter_cons, List.filter_cons, List.length_cons]
        cases h : decide (a ∈ G) with
        | true =>
          simp only [Bool.not_true, if_true, Bool.false_eq_true, if_false, List.length_cons]
          omega
        | false =>
          simp only [Bool.not_false, if_true, Bool.false_eq_true, if_false, List.length_cons]
          omega
    have := key (List.range' 1 (n - 1))
    rw [List.length_range'] at this
    exact this
  have h := nodup_len (l := (List.range' 1 (n - 1)).filter fun c => decide (c ∈ G)) (G := G) (List.filter_sublist.nodup List.nodup_range') fun x hx => of_decide_eq_true (List.mem_filter.mp hx).2
  omega
def bestL (n k : Nat) (G : List Nat) : List Nat := (G ++ (more n G).take (k - 1 - G.length)).mergeSort
theorem bestL_ok {n k : Nat} {G : List Nat} (hG : Asc n 0 G) (hk : G.length < k) (hkn : k ≤ n) : (bestL n k G).Perm (G ++ (more n G).take (k - 1 - G.length)) ∧ Asc n 0 (bestL n k G) ∧ (bestL n k G).length + 1 = k ∧ ∀ c ∈ G, c ∈ bestL n k G := by
  have hp : (bestL n k G).Perm (G ++ (more n G).take (k - 1 - G.length)) := List.mergeSort_perm _ _
  have hmem : ∀ c ∈ (more n G).take (k - 1 - G.length), c ∉ G ∧ 0 < c ∧ c < n := fun c hc => by
    have h1 := List.mem_filter.mp (List.mem_of_mem_take hc)
    have h2 := List.mem_range'_1.mp h1.1
    have h3 : decide (c ∈ G) = false := by simpa using h1.2
    exact ⟨of_decide_eq_false h3, by omega, by omega⟩
  have hnd : (bestL n k G).Nodup := by
    refine hp.nodup_iff.mpr (List.nodup_append.mpr ⟨(asc_pair hG).imp (fun h => Nat.ne_of_lt h), ((List.take_sublist _ _).nodup (List.filter_sublist.nodup List.nodup_range')), fun a ha b hb e => ?_⟩)
    subst e
    exact (hmem a hb).1 ha
  have hs : (bestL n k G).Pairwise (· ≤ ·) := by
    have h := List.pairwise_mergeSort (le := fun a b : Nat => decide (a ≤ b)) (fun a b c h1 h2 => decide_eq_true (Nat.le_trans (of_decide_eq_true h1) (of_decide_eq_true h2))) (fun a b => by
      rcases Nat.le_total a b with h | h
      · simp [h]
      · simp [h]) (G ++ (more n G).take (k - 1 - G.length))
    exact h.imp fun h => of_decide_eq_true h
  have hlt : (bestL n k G).Pairwise (· < ·) := (hs.and hnd).imp fun ⟨h1, h2⟩ => Nat.lt_of_le_of_ne h1 h2
  refine ⟨hp, asc_of hlt fun c hc => ?_, ?_, fun c hc => hp.mem_iff.mpr (List.mem_append_left _ hc)⟩
  · rcases List.mem_append.mp (hp.mem_iff.mp hc) with z | z
    · exact asc_mem hG c z
    · exact (hmem c z).2
  · have hm := more_len n G
    rw [hp.length_eq, List.length_append, List.length_take]
    omega
/-! sums over places -/
def sumN : Nat → (Nat → Int) → Int
  | 0, _ => 0
  | n + 1, F => sumN n F + F n
theorem sumN_congr {F G : Nat → Int} : ∀ {n : Nat}, (∀ i, i < n → F i = G i) → sumN n F = sumN n G
  | 0, _ => rfl
  | n + 1, h => by
    unfold sumN
    rw [sumN_congr fun i hi => h i (Nat.lt_succ_of_lt hi), h n (Nat.lt_succ_self n)]
theorem sumN_add (F G : Nat → Int) : ∀ n : Nat, sumN n (fun i => F i + G i) = sumN n F + sumN n G
  | 0 => rfl
  | n + 1 => by
    show sumN n (fun i => F i + G i) + (F n + G n) = sumN n F + F n + (sumN n G + G n)
    rw [sumN_add F G n]
    omega
theorem sumN_mul (c : Int) (F : Nat → Int) : ∀ n : Nat, sumN n (fun i => F i * c) = sumN n F * c
  | 0 => by simp [sumN]
  | n + 1 => by
    unfold sumN
    rw [sumN_mul c F n, Int.add_mul]
theorem sumN_zero {F : Nat → Int} : ∀ {n : Nat}, (∀ i, i < n → F i = 0) → sumN n F = 0
  | 0, _ => rfl
  | n + 1, h => by
    unfold sumN
    rw [sumN_zero fun i hi => h i (Nat.lt_succ_of_lt hi), h n (Nat.lt_succ_self n)]
    rfl
/-- from a on: c places -/
def sumF (a : Nat) : Nat → (Nat → Int) → Int
  | 0, _ => 0
  | c + 1, F => F a + sumF (a + 1) c F
/-- as many ways from the front as from behind -/
theorem ways {n : Nat} {A : Nat → Nat → Int} {F B : Nat → Int} (hF0 : F 0 = 1) (hF : ∀ j, 0 < j → j ≤ n → F j = sumN j fun i => F i * A i j) (hBn : B n = 1) (hB : ∀ i, i < n → B i = sumF (i + 1) (n - i) fun j => A i j * B j) (hn : 0 < n) : F n = B 0 := by
  have T : ∀ m, m < n → B 0 = sumN (m + 1) fun i => F i * sumF (m + 1) (n - m) fun j => A i j * B j := by
    intro m
    induction m with
    | zero =>
      intro h
      show _ = 0 + F 0 * _
      rw [hF0, Int.one_mul, Int.zero_add, hB 0 h]
    | succ m ih =>
      intro h
      rw [ih (by omega)]
      have e1 : n - m = (n - (m + 1)) + 1 := by omega
      have e2 : (sumN (m + 1) fun i => F i * sumF (m + 1) (n - m) fun j => A i j * B j) = sumN (m + 1) fun i => (F i * A i (m + 1)) * B (m + 1) + F i * sumF (m + 1 + 1) (n - (m + 1)) fun j => A i j * B j := sumN_congr fun i _ => by
        rw [e1]
        show F i * (A i (m + 1) * B (m + 1) + _) = _
        rw [Int.mul_add, Int.mul_assoc]
      rw [e2, sumN_add, sumN_mul, ← hF (m + 1) (by omega) (by omega)]
      show _ = sumN (m + 1) _ + F (m + 1) * _
      rw [hB (m + 1) h]
      omega
  have h := T (n - 1) (by omega)
  rw [show n - 1 + 1 = n by omega, show n - (n - 1) = 1 by omega] at h
  rw [h, hF n hn (Nat.le_refl n)]
  refine sumN_congr fun i _ => ?_
  show _ = F i * (A i n * B n + 0)
  rw [hBn, Int.mul_one, Int.add_zero]

end W06

set_option Elab.async false
set_option linter.all false
set_option maxRecDepth 100000
set_option maxHeartbeats 4000000
namespace W06
open PySem PySem.Spec PyProof.Rows L2 Z
local macro_rules | `(tactic| walk_at "z") => `(tactic| first
  | with_reducible refine hs_seq ?_
  | with_reducible refine hs_asg ?_
  | with_reducible refine hs_ret ?_
  | with_reducible refine hs_if ?_
  | with_reducible refine hs_drop ?_
  | with_reducible refine hs_next ?_
  | ((with_reducible refine cp_var (r := ?zr) ?zh ?_); (case zh => exact rfl))
  | with_reducible refine cp_int ?_
  | with_reducible refine cp_str ?_
  | with_reducible refine cp_bl ?_
  | with_reducible refine cp_non ?_
  | with_reducible refine cp_ref ?_
  | with_reducible refine cp_ty ?_
  | with_reducible refine cp_op ?_
  | with_reducible refine cp_un ?_
  | with_reducible refine cp_cb ?_
  | with_reducible refine ca_nil ?_
  | with_reducible refine ca_cons ?_
  | with_reducible refine cp_andV ?_
  | with_reducible refine cp_orV ?_
  | with_reducible refine cp_notV ?_
  | with_reducible refine cp_if ?_
  | with_reducible refine cp_call ?_
  | with_reducible refine cp_callS ?_
  | with_reducible refine ct_test ?_
  | with_reducible refine ct_b ?_
  | with_reducible refine ct_and ?_
  | with_reducible refine ct_or ?_
  | with_reducible refine ct_not ?_
  | with_reducible refine ct_yes ?_
  | with_reducible refine cg_name ?_
  | with_reducible refine hs_par ?_
  | with_reducible refine hs_par3 ?_
  | ((with_reducible refine hs_aug (x := ?zx) ?zh ?_); (case zh => exact rfl))
  | with_reducible refine cp_chain ?_
  | with_reducible refine cp_sl ?_
  | with_reducible refine co_none ?_
  | with_reducible refine co_some ?_
  | refine sd_tup ?_
  | refine sd_lst ?_
  | refine od_ip_add ?_
  | refine od_ip_sub ?_
  | refine cd_tup_lst ?_
  | refine cd_list_tup ?_
  | refine cd_list_lst ?_
  | refine cd_max2 ?_
  | refine ⟨_, _, _, rfl, ?_⟩
  | with_reducible refine cp_lst ?_
  | with_reducible refine cp_tup ?_
  | refine cp_bm ?_
  | refine cp_bm0 ?_
  | refine ⟨(show rsTy _ (Rs.own _) _ from rfl), ?_⟩
  | refine ⟨(show rsTy _ (Rs.dat _) _ from ⟨rfl, by decide⟩), ?_⟩
  | refine od_add_int ?_
  | refine od_sub ?_
  | refine od_lt_int ?_
  | refine od_gt ?_
  | refine od_le ?_
  | refine od_ge ?_
  | refine od_eq_int ?_
  | refine od_eq_str ?_
  | refine od_eq_bool ?_
  | refine od_ne_int ?_
  | refine od_ne_str ?_
  | refine od_ne_bool ?_
  | refine od_mod (by decide) ?_
  | refine od_pow ⟨by decide, by decide, by decide⟩ ?_
  | refine od_fdiv ⟨by decide, by decide⟩ ?_
  | refine od_mulY_int (.inr ⟨by decide, by decide⟩) ?_
  | refine od_mulY_int (.inl ⟨by decide, by decide⟩) ?_
  | refine od_in_sign ?_
  | refine od_notIn_sign ?_
  | refine od_is_bool ?_
  | refine od_isNot_bool ?_
  | refine od_is_none ?_
  | refine od_isNot_none ?_
  | refine cd_len_lst ?_
  | refine cd_len_tup ?_
  | refine cd_int_int ?_
  | refine cd_int_bool ?_
  | refine cd_abs ?_
  | refine cd_neg ?_
  | refine cd_isi (by decide) ?_
  | refine ⟨_, rfl, ?_⟩
  | refine ⟨_, _, rfl, ?_⟩
  | refine ⟨[], rfl, szl _ (Nat.le_trans (Nat.le_of_eq (show _ = 0 from rfl)) (by decide)), ?_⟩
  | refine ⟨[_], rfl, szl _ (Nat.le_trans (Nat.le_of_eq (show _ = 1 from rfl)) (by decide)), ?_⟩
  | refine ⟨[_, _], rfl, szl _ (Nat.le_trans (Nat.le_of_eq (show _ = 2 from rfl)) (by decide)), ?_⟩
  | refine ⟨[_, _, _], rfl, szl _ (Nat.le_trans (Nat.le_of_eq (show _ = 3 from rfl)) (by decide)), ?_⟩
  | refine ⟨[_, _, _, _], rfl, szl _ (Nat.le_trans (Nat.le_of_eq (show _ = 4 from rfl)) (by decide)), ?_⟩
  | refine ⟨[_, _, _, _, _], rfl, szl _ (Nat.le_trans (Nat.le_of_eq (show _ = 5 from rfl)) (by decide)), ?_⟩
  | refine ⟨[_, _, _, _, _, _], rfl, szl _ (Nat.le_trans (Nat.le_of_eq (show _ = 6 from rfl)) (by decide)), ?_⟩
  | refine ⟨[_, _, _, _, _, _, _], rfl, szl _ (Nat.le_trans (Nat.le_of_eq (show _ = 7 from rfl)) (by decide)), ?_⟩
  | refine ⟨[_, _, _, _, _, _, _, _], rfl, szl _ (Nat.le_trans (Nat.le_of_eq (show _ = 8 from rfl)) (by decide)), ?_⟩
  | refine ⟨[_, _, _, _, _, _, _, _, _], rfl, szl _ (Nat.le_trans (Nat.le_of_eq (show _ = 9 from rfl)) (by decide)), ?_⟩
  | with_reducible refine ite_t ?_
  | refine ite_t ?_
  | refine ite_f ?_)
section
variable {P : Program} {w : World} {K : PySem.W.Frag} {mg : Str → Option Value} {base : Heap}
abbrev s__law_take : Stmt := top 29
theorem sc__law_take : FnScope ["draws", "bound"] ["draws", "bound"] (defScope s__law_take) := ⟨rfl, rfl, rfl, by decide +kernel, rfl, by decide +kernel, by decide +kernel⟩
abbrev ps__law_take : List Str := ["draws", "bound"]
def dTake : DSp := fun rs L k _ => ∃ l b, rs = [.own l, .dat (.int b)] ∧ (l, .drw) ∈ L ∧ 0 < b ∧ ∀ n : Int, 0 ≤ n → n < b → k (.dat (.int n)) L
theorem ok__law_take {f : Addr} {fd : FuncData} (D : DefAt K mg "_law_take" s__law_take ps__law_take f fd) (B_len : mg "len" = none) (B_int : mg "int" = none) : Has P w K mg base 1 "_law_take" ps__law_take dTake := by
  refine ⟨f, fd, D.g, D.F.kp, D.b, fn_z D.F sc__law_take (fun rs L k x h => ?_) fun cdv A outer s H E hr => ?_⟩
  · obtain ⟨l, b, rfl, _⟩ := h
    rfl
  · have nd := sc__law_take.nd
    refine ⟨_, (pss_cons (ps_if (pt_cmpR (op_eqZ hr.units) (pe_callB call_lenZ (by rfl) B_len (by decide +kernel) (pa_cons (pv 0) pa_nil)) pe_int (nomark _)) (pss_one (ps_ret pe_int)) pss_nil)
    (pss_one (ps_ret (pe_op op_mod (pe_callTy call_intZ (by rfl) B_int (by decide +kernel) (pa_cons (pe_bm0 PySem.F.plainAttrs_list PySem.F.slot_list_pop PySem.F.type_list_pop mt_pop (pv 0)) pa_nil)) (pv 1))))), fun rs L q x h => ?_⟩
    obtain ⟨l, b, rfl, m, hb, hq⟩ := h
    refine hs_open m fun ns eu => ?_
    have mm := mem_up (L := L) (a := l) (m := .lst (ns.map natD)) (Led.key m)
    repeat walk_at "z"
    refine cd_len_own mm ?_
    repeat walk_at "z"
    refine ite_b (fun hc => ?_) fun hc => ?_
    · repeat walk_at "z"
      exact rt_draws eu (hq 0 (Int.le_refl 0) hb)
    · have hne : ns ≠ [] := fun z => by
        subst z
        simp at hc
      obtain ⟨n, hn⟩ : ∃ n, ns.getLast? = some n := by
        cases e : ns.getLast? with
        | none => exact absurd (List.getLast?_eq_none_iff.mp e) hne
        | some n => exact ⟨n, rfl⟩
      repeat walk_at "z"
      refine md_pop mm (d := natD n) ?_ ?_
      · rw [List.length_map, List.getElem?_map, ← List.getLast?_eq_getElem?, hn]
        rfl
      · rw [← List.map_dropLast, up_up]
        repeat walk_at "z"
        refine od_mod hb ?_
        exact rt_draws eu (hq _ (Int.emod_nonneg _ (by omega)) (Int.emod_lt_of_pos _ hb))
abbrev s__law_pick : Stmt := top 30
theorem sc__law_pick : FnScope ["draws", "some"] ["draws", "some"] (defScope s__law_pick) := ⟨rfl, rfl, rfl, by decide +kernel, rfl, by decide +kernel, by decide +kernel⟩
abbrev ps__law_pick : List Str := ["draws", "some"]
def dPick : DSp := fun rs L k _ => ∃ l, (l, .drw) ∈ L ∧ ((∃ z : Str, rs = [.own l, .dat (.str z)] ∧ 0 < z.length ∧ z.length ≤ 100000 ∧ ∀ c ∈ z.cps.toList, k (.dat (sgn c)) L) ∨
  ∃ ds, rs = [.own l, .dat (.list ds)] ∧ ds ≠ [] ∧ ∀ d ∈ ds, k (.dat d) L)
theorem ok__law_pick {f : Addr} {fd : FuncData} (D : DefAt K mg "_law_pick" s__law_pick ps__law_pick f fd) (B_len : mg "len" = none) (H_take : Has P w K mg base 1 "_law_take" ps__law_take dTake) : Has P w K mg base 2 "_law_pick" ps__law_pick dPick := by
  obtain ⟨_, _, g__law_take, kp__law_take, b__law_take, G__law_take⟩ := H_take
  refine ⟨f, fd, D.g, D.F.kp, D.b, fn_z D.F sc__law_pick (fun rs L k x h => ?_) fun cdv A outer s H E hr => ?_⟩
  · obtain ⟨l, _, ⟨z, rfl, _⟩ | ⟨z, rfl, _⟩⟩ := h <;> rfl
  · have nd := sc__law_pick.nd
    refine ⟨_, (pss_one (ps_ret (pe_ix ix_seq (pv 1) (pe_call G__law_take (hr.mono (by first | decide | omega)) (by rfl) g__law_take kp__law_take b__law_take .nil pass0 (pa_cons (pv 0) (pa_cons (pe_callB call_lenZ (by rfl) B_len (by decide +kernel) (pa_cons (pv 1) pa_nil)) pa_nil))) (fun _ _ => rfl)))), fun rs L q x h => ?_⟩
    obtain ⟨l, m, ⟨z, rfl, h0, h1, hq⟩ | ⟨ds, rfl, hne, hq⟩⟩ := h
    · repeat walk_at "z"
      refine cd_len_str (szl _) ?_
      repeat walk_at "z"
      refine ⟨m, by omega, fun n n0 n1 => ?_⟩
      have hl : z.cps.toList.length = z.length := Array.length_toList
      obtain ⟨c, e, hc, _⟩ := atI_int (xs := z.cps.toList) n0 (by rw [hl]; exact n1)
      exact od_ix_str (szl _) e (rt_dat (hq c hc))
    · repeat walk_at "z"
      have hp : 0 < ds.length := List.length_pos_iff.mpr hne
      refine ⟨m, by omega, fun n n0 n1 => ?_⟩
      obtain ⟨d, e, hd, _⟩ := atI_int n0 n1
      exact od_ix_lst e (rt_dat (hq d hd))
abbrev s__law_draws : Stmt := top 28
theorem sc__law_draws : FnScope ["script", "draws", "seed", "cell", "number", "k"] ["script"] (defScope s__law_draws) := ⟨rfl, rfl, rfl, by decide +kernel, rfl, by decide +kernel, by decide +kernel⟩
abbrev ps__law_draws : List Str := ["script"]
def dDraws : DSp := fun rs L k _ => ∃ ns : List Int, rs = [.scr ns] ∧ ns.length ≤ 63 ∧ ∀ p, p ∉ L.ks → k (.own p) (L ++ [(p, .drw)])
theorem ok__law_draws {f : Addr} {fd : FuncData} (D : DefAt K mg "_law_draws" s__law_draws ps__law_draws f fd) (B_int : mg "int" = none) (B_abs : mg "abs" = none) (B_range : mg "range" = none) (B_list : mg "list" = none) (B_reversed : mg "reversed" = none) : Has P w K mg base 1 "_law_draws" ps__law_draws dDraws := by
  refine ⟨f, fd, D.g, D.F.kp, D.b, fn_z D.F sc__law_draws (fun rs L k x h => ?_) fun cdv A outer s H E hr => ?_⟩
  · obtain ⟨ns, rfl, _⟩ := h
    rfl
  · have nd := sc__law_draws.nd
    refine ⟨_, (pss_cons (ps_set (i := 1) nd rfl (by first | exact .inl rfl | exact .inr rfl) (pe_lst pa_nil))
    (pss_cons (ps_set (i := 2) nd rfl (by first | exact .inl rfl | exact .inr rfl) pe_int)
    (pss_cons (ps_for PassesOwn.never rfl (pi_sq (pv 0)) (pg_name (i := 3) nd rfl (by first | exact .inl rfl | exact .inr rfl))
      (pss_cons (ps_set (i := 4) nd rfl (by first | exact .inl rfl | exact .inr rfl) (pe_callB call_abs (by rfl) B_abs (by decide +kernel) (pa_cons (pe_callTy call_intZ (by rfl) B_int (by decide +kernel) (pa_cons (pv 3) pa_nil)) pa_nil)))
      (pss_cons (ps_set (i := 2) nd rfl (by first | exact .inl rfl | exact .inr rfl) (pe_op op_mod (pe_callTy call_intZ (by rfl) B_int (by decide +kernel) (pa_cons (pe_op op_addZ (pe_op op_addZ (pe_op op_mulY (pv 2) pe_int) (pv 4)) pe_int) pa_nil)) pe_int))
      (pss_cons (ps_if (pt_cmpR op_ltZ (pv 4) (pe_op op_pow pe_int pe_int) (nomark _)) (pss_cons (ps_expr (pe_bm PySem.F.plainAttrs_list PySem.F.slot_list_append PySem.F.type_list_append mt_append (pv 1) (pa_cons (pe_op op_mod (pe_callTy call_intZ (by rfl) B_int (by decide +kernel) (pa_cons (pv 4) pa_nil)) pe_int) pa_nil)))
        (pss_cons (ps_expr (pe_bm PySem.F.plainAttrs_list PySem.F.slot_list_append PySem.F.type_list_append mt_append (pv 1) (pa_cons (pe_op op_mod (pe_callTy call_intZ (by rfl) B_int (by decide +kernel) (pa_cons (pv 2) pa_nil)) pe_int) pa_nil)))
        (pss_one (ps_set (i := 4) nd rfl (by first | exact .inl rfl | exact .inr rfl) pe_int)))) pss_nil)
      (pss_one (ps_for PassesOwn.never rfl (pi_range1 (by rfl) B_range (pa_cons pe_int pa_nil)) (pg_name (i := 5) nd rfl (by first | exact .inl rfl | exact .inr rfl))
        (pss_one (ps_if (pt_cmpR op_gtZ (pv 4) pe_int (nomark _)) (pss_cons (ps_expr (pe_bm PySem.F.plainAttrs_list PySem.F.slot_list_append PySem.F.type_list_append mt_append (pv 1) (pa_cons (pe_op op_mod (pe_callTy call_intZ (by rfl) B_int (by decide +kernel) (pa_cons (pv 4) pa_nil)) pe_int) pa_nil)))
          (pss_one (ps_set (i := 4) nd rfl (by first | exact .inl rfl | exact .inr rfl) (pe_op op_fdivW (pv 4) pe_int)))) pss_nil))))))))
    (pss_cons (ps_for PassesOwn.never rfl (pi_range1 (by rfl) B_range (pa_cons pe_int pa_nil)) (pg_name (i := 5) nd rfl (by first | exact .inl rfl | exact .inr rfl))
      (pss_cons (ps_set (i := 2) nd rfl (by first | exact .inl rfl | exact .inr rfl) (pe_op op_mod (pe_callTy call_intZ (by rfl) B_int (by decide +kernel) (pa_cons (pe_op op_addZ (pe_op op_mulY (pv 2) pe_int) pe_int) pa_nil)) pe_int))
      (pss_one (ps_expr (pe_bm PySem.F.plainAttrs_list PySem.F.slot_list_append PySem.F.type_list_append mt_append (pv 1) (pa_cons (pe_op op_fdivW (pv 2) pe_int) pa_nil))))))
    (pss_one (ps_ret (pe_lrev rfl (by rfl) B_list (by rfl) B_reversed (pv 1)))))))), fun rs L q x h => ?_⟩
    obtain ⟨ns, rfl, hn, hq⟩ := h
    refine hs_seq ?_
    refine hs_asg ?_
    refine cp_lstO ?_
    refine ca_nil ?_
    refine ⟨[], rfl, szl _ (by decide), fun p hp => ?_⟩
    repeat walk_at "z"
    refine hs_for ?_
    refine ci_sq ?_
    refine cp_var rfl ?_
    refine ⟨_, .scr ns, fun i ε' L' => ∃ (ms : List Nat) (s : Int) (c nm kk : Option Rs), 0 ≤ s ∧ ms.length ≤ 62 * i ∧ ε' = [some (.scr ns), some (.own p), some (.dat (.int s)), c, nm, kk] ∧ L' = plus L p (ms.map natD), ⟨[], 11, _, _, _, by decide, Nat.zero_le _, rfl, rfl⟩, ?_, ?_⟩
    · rintro i d ε' L' hd ⟨ms, s, c, nm, kk, hs, hl, rfl, rfl⟩
      obtain ⟨n, hn', rfl⟩ := map_get hd
      refine cg_name ?_
      repeat walk_at "z"
      have hN : 0 ≤ (if n < 0 then -n else n) := by split <;> omega
      generalize (if n < 0 then -n else n) = N at hN ⊢
      have hS : 0 ≤ (s * 48271 + N + 1) % 2147483647 := Int.emod_nonneg _ (by decide)
      generalize (s * 48271 + N + 1) % 2147483647 = S at hS ⊢
      have hi : i < ns.length := (List.getElem?_eq_some_iff.mp hn').1
      refine hs_join (fun ε' L' => ∃ (ms : List Nat) (N : Int), 0 ≤ N ∧ ms.length ≤ 62 * i + 2 ∧ ε' = [some (.scr ns), some (.own p), some (.dat (.int S)), some (.dat (.int n)), some (.dat (.int N)), kk] ∧ L' = plus L p (ms.map natD)) (ite_b (fun hc => ?_) fun hc => ?_) ?_
      · repeat walk_at "z"
        refine md_append plus_mem (sz _ (by rw [List.length_map]; omega)) ?_
        rw [up_plus hp, natD_app ms (Int.emod_nonneg _ (by decide))]
        repeat walk_at "z"
        refine md_append plus_mem (sz _ (by rw [List.length_map, List.length_append, List.length_singleton]; omega)) ?_
        rw [up_plus hp, natD_app _ (Int.emod_nonneg _ (by decide))]
        repeat walk_at "z"
        exact ⟨_, 0, Int.le_refl 0, by rw [List.length_append, List.length_append, List.length_singleton, List.length_singleton]; omega, rfl, rfl⟩
      · repeat walk_at "z"
        exact ⟨ms, N, hN, by omega, rfl, rfl⟩
      · rintro ε' L' ⟨ms, N, hN, hl, rfl, rfl⟩
        refine hs_for ?_
        refine ci_range1 ?_
        repeat walk_at "z"
        refine ⟨by decide, fun j ε' L' => ∃ (ms : List Nat) (N : Int) (kk : Option Rs), 0 ≤ N ∧ ms.length ≤ 62 * i + 2 + j ∧ ε' = [some (.scr ns), some (.own p), some (.dat (.int S)), some (.dat (.int n)), some (.dat (.int N)), kk] ∧ L' = plus L p (ms.map natD), ⟨ms, N, _, hN, hl, rfl, rfl⟩, ?_, ?_⟩
        · rintro j d ε' L' hd ⟨ms, N, kk, hN, hl, rfl, rfl⟩
          obtain ⟨rfl, hj⟩ := rng_get hd
          have hj' : j < 60 := hj
          refine cg_name ?_
          repeat walk_at "z"
          refine ite_b (fun hc => ?_) fun hc => ?_
          · repeat walk_at "z"
            refine md_append plus_mem (sz _ (by rw [List.length_map]; omega)) ?_
            rw [up_plus hp, natD_app _ (Int.emod_nonneg _ (by decide))]
            repeat walk_at "z"
            exact ⟨_, _, _, Int.ediv_nonneg hN (by decide), by rw [List.length_append, List.length_singleton]; omega, rfl, rfl⟩
          · repeat walk_at "z"
            exact ⟨ms, N, _, hN, by omega, rfl, rfl⟩
        · rintro ε' L' ⟨ms, N, kk, hN, hl, rfl, rfl⟩
          rw [rng_len] at hl
          have hl' : ms.length ≤ 62 * i + 2 + 60 := hl
          exact ⟨ms, S, _, _, _, hS, by omega, rfl, rfl⟩
    · rintro ε' L' ⟨ms, s, c, nm, kk, hs, hl, rfl, rfl⟩
      rw [List.length_map] at hl
      repeat walk_at "z"
      refine hs_for ?_
      refine ci_range1 ?_
      repeat walk_at "z"
      refine ⟨by decide, fun j ε' L' => ∃ (ms : List Nat) (s : Int) (kk : Option Rs), 0 ≤ s ∧ ms.length ≤ 62 * 63 + j ∧ ε' = [some (.scr ns), some (.own p), some (.dat (.int s)), c, nm, kk] ∧ L' = plus L p (ms.map natD), ⟨ms, s, _, hs, by omega, rfl, rfl⟩, ?_, ?_⟩
      · rintro j d ε' L' hd ⟨ms, s, kk, hs, hl, rfl, rfl⟩
        obtain ⟨rfl, hj⟩ := rng_get hd
        have hj' : j < 700 := hj
        refine cg_name ?_
        repeat walk_at "z"
        have hS : 0 ≤ (s * 48271 + 69621) % 2147483647 := Int.emod_nonneg _ (by decide)
        refine md_append plus_mem (sz _ (by rw [List.length_map]; omega)) ?_
        rw [up_plus hp, natD_app _ (Int.ediv_nonneg hS (by decide))]
        repeat walk_at "z"
        exact ⟨_, _, _, hS, by rw [List.length_append, List.length_singleton]; omega, rfl, rfl⟩
      · rintro ε' L' ⟨ms, s, kk, hs, hl, rfl, rfl⟩
        repeat walk_at "z"
        refine cp_lrev (a := p) (ds := ms.map natD) ?_
        repeat walk_at "z"
        refine ⟨rfl, plus_mem, fun p2 hp2 => ?_⟩
        rw [← List.map_reverse]
        exact rt_ownD (hq p2 fun z => hp2 (keeps_own _ z))
abbrev s__law_same : Stmt := top 31
theorem sc__law_same : FnScope ["actual", "due", "k", "key"] ["actual", "due"] (defScope s__law_same) := ⟨rfl, rfl, rfl, by decide +kernel, rfl, by decide +kernel, by decide +kernel⟩
abbrev ps__law_same : List Str := ["actual", "due"]
theorem ok__law_same {f : Addr} {fd : FuncData} (D : DefAt K mg "_law_same" s__law_same ps__law_same f fd) (B_len : mg "len" = none) (B_range : mg "range" = none) (B_isinstance : mg "isinstance" = none) (B_tuple : mg "tuple" = none) (B_list : mg "list" = none) (B_dict : mg "dict" = none) (B_bool : mg "bool" = none) (B_int : mg "int" = none) (B_str : mg "str" = none) :
    ∀ n, Has P w K mg base n "_law_same" ps__law_same (dSame n)
  | 0 => ⟨f, fd, D.g, D.F.kp, D.b, ⟨fun vs H Q E h => by
      obtain ⟨_, _, _, _, _, _, h, _⟩ := h
      exact h.elim, fun A outer s H args us vs Q E _ _ _ _ h => by
      obtain ⟨_, _, _, _, _, _, h, _⟩ := h
      exact h.elim⟩⟩
  | n + 1 => by
    obtain ⟨_, _, g__law_same, kp__law_same, b__law_same, G__law_same⟩ := ok__law_same D B_len B_range B_isinstance B_tuple B_list B_dict B_bool B_int B_str n
    refine ⟨f, fd, D.g, D.F.kp, D.b, fn_z D.F sc__law_same (fun rs L k x h => ?_) fun cdv A outer s H E hr => ?_⟩
    · obtain ⟨d, rfl, _⟩ := h
      rfl
    · have nd := sc__law_same.nd
      refine ⟨_, (pss_cons (ps_if (pt_cmpR op_isZ (pv 1) pe_non (nomark _)) (pss_one (ps_ret (pe_cmpR op_isZ (pv 0) pe_non (nomark _)))) pss_nil)
    (pss_cons (ps_if (PW.pt (pw_or (pt_val (pe_callB call_isi (by rfl) B_isinstance (by decide +kernel) (pa_cons (pv 1) (pa_cons (pe_bltn (v := .ty "tuple") (by rfl) B_tuple (by decide +kernel) rfl) pa_nil)))) (pw_or1 (pt_val (pe_callB call_isi (by rfl) B_isinstance (by decide +kernel) (pa_cons (pv 1) (pa_cons (pe_bltn (v := .ty "list") (by rfl) B_list (by decide +kernel) rfl) pa_nil))))))) (pss_cons (ps_if (PW.pt (pw_or (pt_cmpR (op_neZ hr.units) (pe_callB call_isi (by rfl) B_isinstance (by decide +kernel) (pa_cons (pv 1) (pa_cons (pe_bltn (v := .ty "tuple") (by rfl) B_tuple (by decide +kernel) rfl) pa_nil))) (pe_callB call_isi (by rfl) B_isinstance (by decide +kernel) (pa_cons (pv 0) (pa_cons (pe_bltn (v := .ty "tuple") (by rfl) B_tuple (by decide +kernel) rfl) pa_nil))) (nomark _)) (pw_or1 (pt_cmpR (op_neZ hr.units) (pe_callB call_isi (by rfl) B_isinstance (by decide +kernel) (pa_cons (pv 1) (pa_cons (pe_bltn (v := .ty "list") (by rfl) B_list (by decide +kernel) rfl) pa_nil))) (pe_callB call_isi (by rfl) B_isinstance (by decide +kernel) (pa_cons (pv 0) (pa_cons (pe_bltn (v := .ty "list") (by rfl) B_list (by decide +kernel) rfl) pa_nil))) (nomark _))))) (pss_one (ps_ret pe_bl)) pss_nil)
      (pss_cons (ps_if (pt_cmpR (op_neZ hr.units) (pe_callB call_lenZ (by rfl) B_len (by decide +kernel) (pa_cons (pv 0) pa_nil)) (pe_callB call_lenZ (by rfl) B_len (by decide +kernel) (pa_cons (pv 1) pa_nil)) (nomark _)) (pss_one (ps_ret pe_bl)) pss_nil)
      (pss_cons (ps_for PassesOwn.never rfl (pi_range1 (by rfl) B_range (pa_cons (pe_callB call_lenZ (by rfl) B_len (by decide +kernel) (pa_cons (pv 1) pa_nil)) pa_nil)) (pg_name (i := 2) nd rfl (by first | exact .inl rfl | exact .inr rfl))
        (pss_one (ps_if (pt_not (pt_val (pe_call G__law_same (hr.mono (by first | decide | omega)) (by rfl) g__law_same kp__law_same b__law_same .nil pass0 (pa_cons (pe_ix ix_seq (pv 0) (pv 2) (fun _ _ => rfl)) (pa_cons (pe_ix ix_seq (pv 1) (pv 2) (fun _ _ => rfl)) pa_nil))))) (pss_one (ps_ret pe_bl)) pss_nil)))
      (pss_one (ps_ret pe_bl))))) pss_nil)
    (pss_cons (ps_if (pt_val (pe_callB call_isi (by rfl) B_isinstance (by decide +kernel) (pa_cons (pv 1) (pa_cons (pe_bltn (v := .ty "dict") (by rfl) B_dict (by decide +kernel) rfl) pa_nil)))) (pss_cons (ps_if (PW.pt (pw_or (pt_not (pt_val (pe_callB call_isi (by rfl) B_isinstance (by decide +kernel) (pa_cons (pv 0) (pa_cons (pe_bltn (v := .ty "dict") (by rfl) B_dict (by decide +kernel) rfl) pa_nil))))) (pw_or1 (pt_cmpR (op_neZ hr.units) (pe_callB call_lenZ (by rfl) B_len (by decide +kernel) (pa_cons (pv 0) pa_nil)) (pe_callB call_lenZ (by rfl) B_len (by decide +kernel) (pa_cons (pv 1) pa_nil)) (nomark _))))) (pss_one (ps_ret pe_bl)) pss_nil)
      (pss_one (ps_ret (pe_cmpR (op_eqZ hr.units) (pe_lc (own := [("key", 3)]) rfl nd (pi_sq (pv 1)) (blkOk_by (own := [("key", 3)]) (N := ["actual", "due", "k", "key"]) (sc := defScope s__law_same) (by decide +kernel)) (fun _ _ _ _ _ => (pg_name (i := 3) nd rfl (by first | exact .inl rfl | exact .inr rfl))) (fun _ _ _ _ _ => (pts_one (PW.pt (pw_or (pt_cmpR (opK (r := rNotInZ) (K := K) op_notInZ (by rfl)) (pv 3) (pv 0) (by rfl)) (pw_or1 (pt_not (pt_val (pe_call G__law_same (hr.mono (by first | decide | omega)) (by rfl) g__law_same kp__law_same b__law_same .nil pass0 (pa_cons (pe_ix (ixK (r := rIx) (K := K) ix_seq (by rfl)) (pv 0) (pv 3) (fun _ _ => rfl)) (pa_cons (pe_ix (ixK (r := rIx) (K := K) ix_seq (by rfl)) (pv 1) (pv 3) (fun _ _ => rfl)) pa_nil)))))))))) (fun _ _ _ _ _ => (pv 3))) (pe_lst pa_nil) (nomark _))))) pss_nil)
    (pss_cons (ps_if (pt_cmpR (op_neZ hr.units) (pe_callB call_isi (by rfl) B_isinstance (by decide +kernel) (pa_cons (pv 1) (pa_cons (pe_bltn (v := .ty "bool") (by rfl) B_bool (by decide +kernel) rfl) pa_nil))) (pe_callB call_isi (by rfl) B_isinstance (by decide +kernel) (pa_cons (pv 0) (pa_cons (pe_bltn (v := .ty "bool") (by rfl) B_bool (by decide +kernel) rfl) pa_nil))) (nomark _)) (pss_one (ps_ret pe_bl)) pss_nil)
    (pss_cons (ps_if (PW.pt (pw_or (pt_cmpR (op_neZ hr.units) (pe_callB call_isi (by rfl) B_isinstance (by decide +kernel) (pa_cons (pv 1) (pa_cons (pe_bltn (v := .ty "int") (by rfl) B_int (by decide +kernel) rfl) pa_nil))) (pe_callB call_isi (by rfl) B_isinstance (by decide +kernel) (pa_cons (pv 0) (pa_cons (pe_bltn (v := .ty "int") (by rfl) B_int (by decide +kernel) rfl) pa_nil))) (nomark _)) (pw_or1 (pt_cmpR (op_neZ hr.units) (pe_callB call_isi (by rfl) B_isinstance (by decide +kernel) (pa_cons (pv 1) (pa_cons (pe_bltn (v := .ty "str") (by rfl) B_str (by decide +kernel) rfl) pa_nil))) (pe_callB call_isi (by rfl) B_isinstance (by decide +kernel) (pa_cons (pv 0) (pa_cons (pe_bltn (v := .ty "str") (by rfl) B_str (by decide +kernel) rfl) pa_nil))) (nomark _))))) (pss_one (ps_ret pe_bl)) pss_nil)
    (pss_one (ps_ret (pe_cmpR (op_eqZ hr.units) (pv 0) (pv 1) (nomark _))))))))), fun rs L q x h => ?_⟩
      obtain ⟨d, rfl, ok, hq⟩ := h
      cases d with
      | dict ds => cases n <;> exact ok.elim
      | none =>
        repeat walk_at "z"
        exact rt_dat hq
      | bool b =>
        repeat walk_at "z"
        rw [beq_self_eq_true]
        exact rt_dat hq
      | int b =>
        repeat walk_at "z"
        rw [beq_self_eq_true]
        exact rt_dat hq
      | str b =>
        repeat walk_at "z"
        rw [beq_self_eq_true]
        exact rt_dat hq
      | list ds =>
        repeat walk_at "z"
        rw [show (!((ds.length : Int) == (ds.length : Int))) = false from by rw [beq_self_eq_true]; rfl]
        repeat walk_at "z"
        have ok : ∃ m, n = m + 1 ∧ ds.length ≤ 1000000 ∧ ∀ d ∈ ds, okD m d := by
          cases n with
          | zero => exact ok.elim
          | succ m => exact ⟨m, rfl, ok⟩
        obtain ⟨m, rfl, hl, ok⟩ := ok
        refine hs_for ?_
        refine ci_range1 ?_
        repeat walk_at "z"
        refine ⟨by omega, fun i ε' L' => ∃ kk, ε' = [some (.dat (.list ds)), some (.dat (.list ds)), kk, none] ∧ L' = L, ⟨_, rfl, rfl⟩, ?_, ?_⟩
        · rintro i d ε' L' hd ⟨kk, rfl, rfl⟩
          obtain ⟨rfl, hi⟩ := rng_get hd
          have hi : i < ds.length := by omega
          have ec : ds[i]? = some ds[i] := List.getElem?_eq_getElem hi
          generalize ds[i] = e at ec
          rw [Int.zero_add]
          refine cg_name ?_
          repeat walk_at "z"
          refine od_ix_lst (atI_nat ec) ?_
          repeat walk_at "z"
          refine od_ix_lst (atI_nat ec) ?_
          repeat walk_at "z"
          refine ⟨ok e (List.mem_of_getElem? ec), ?_⟩
          repeat walk_at "z"
          first | exact rfl | exact ⟨_, rfl, rfl⟩
        · rintro ε' L' ⟨kk, rfl, rfl⟩
          repeat walk_at "z"
          exact rt_dat hq
      | tuple ds =>
        repeat walk_at "z"
        rw [show (!((ds.length : Int) == (ds.length : Int))) = false from by rw [beq_self_eq_true]; rfl]
        repeat walk_at "z"
        have ok : ∃ m, n = m + 1 ∧ ds.length ≤ 1000000 ∧ ∀ d ∈ ds, okD m d := by
          cases n with
          | zero => exact ok.elim
          | succ m => exact ⟨m, rfl, ok⟩
        obtain ⟨m, rfl, hl, ok⟩ := ok
        refine hs_for ?_
        refine ci_range1 ?_
        repeat walk_at "z"
        refine ⟨by omega, fun i ε' L' => ∃ kk, ε' = [some (.dat (.tuple ds)), some (.dat (.tuple ds)), kk, none] ∧ L' = L, ⟨_, rfl, rfl⟩, ?_, ?_⟩
        · rintro i d ε' L' hd ⟨kk, rfl, rfl⟩
          obtain ⟨rfl, hi⟩ := rng_get hd
          have hi : i < ds.length := by omega
          have ec : ds[i]? = some ds[i] := List.getElem?_eq_getElem hi
          generalize ds[i] = e at ec
          rw [Int.zero_add]
          refine cg_name ?_
          repeat walk_at "z"
          refine od_ix_tup (atI_nat ec) ?_
          repeat walk_at "z"
          refine od_ix_tup (atI_nat ec) ?_
          repeat walk_at "z"
          refine ⟨ok e (List.mem_of_getElem? ec), ?_⟩
          repeat walk_at "z"
          first | exact rfl | exact ⟨_, rfl, rfl⟩
        · rintro ε' L' ⟨kk, rfl, rfl⟩
          repeat walk_at "z"
          exact rt_dat hq

end
end W06

set_option Elab.async false
set_option linter.all false
set_option maxRecDepth 100000
set_option maxHeartbeats 4000000
namespace W06
open PySem PySem.Spec PyProof.Rows L2 Z
local macro_rules | `(tactic| walk_at "z") => `(tactic| first
  | with_reducible refine hs_seq ?_
  | with_reducible refine hs_asg ?_
  | with_reducible refine hs_ret ?_
  | with_reducible refine hs_if ?_
  | with_reducible refine hs_drop ?_
  | with_reducible refine hs_next ?_
  | ((with_reducible refine cp_var (r := ?zr) ?zh ?_); (case zh => exact rfl))
  | with_reducible refine cp_int ?_
  | with_reducible refine cp_str ?_
  | with_reducible refine cp_bl ?_
  | with_reducible refine cp_non ?_
  | with_reducible refine cp_ref ?_
  | with_reducible refine cp_ty ?_
  | with_reducible refine cp_op ?_
  | with_reducible refine cp_un ?_
  | with_reducible refine cp_cb ?_
  | with_reducible refine ca_nil ?_
  | with_reducible refine ca_cons ?_
  | with_reducible refine cp_andV ?_
  | with_reducible refine cp_orV ?_
  | with_reducible refine cp_notV ?_
  | with_reducible refine cp_if ?_
  | with_reducible refine cp_call ?_
  | with_reducible refine cp_callS ?_
  | with_reducible refine ct_test ?_
  | with_reducible refine ct_b ?_
  | with_reducible refine ct_and ?_
  | with_reducible refine ct_or ?_
  | with_reducible refine ct_not ?_
  | with_reducible refine ct_yes ?_
  | with_reducible refine cg_name ?_
  | with_reducible refine hs_par ?_
  | with_reducible refine hs_par3 ?_
  | ((with_reducible refine hs_aug (x := ?zx) ?zh ?_); (case zh => exact rfl))
  | with_reducible refine cp_chain ?_
  | with_reducible refine cp_sl ?_
  | with_reducible refine co_none ?_
  | with_reducible refine co_some ?_
  | refine sd_tup ?_
  | refine sd_lst ?_
  | refine od_ip_add ?_
  | refine od_ip_sub ?_
  | refine cd_tup_lst ?_
  | refine cd_list_tup ?_
  | refine cd_list_lst ?_
  | refine cd_max2 ?_
  | refine ⟨_, _, _, rfl, ?_⟩
  | with_reducible refine cp_lst ?_
  | with_reducible refine cp_tup ?_
  | refine cp_bm ?_
  | refine cp_bm0 ?_
  | refine ⟨(show rsTy _ (Rs.own _) _ from rfl), ?_⟩
  | refine ⟨(show rsTy _ (Rs.dat _) _ from ⟨rfl, by decide⟩), ?_⟩
  | refine od_add_int ?_
  | refine od_sub ?_
  | refine od_lt_int ?_
  | refine od_gt ?_
  | refine od_le ?_
  | refine od_ge ?_
  | refine od_eq_int ?_
  | refine od_eq_str ?_
  | refine od_eq_bool ?_
  | refine od_ne_int ?_
  | refine od_ne_str ?_
  | refine od_ne_bool ?_
  | refine od_mod (by decide) ?_
  | refine od_pow ⟨by decide, by decide, by decide⟩ ?_
  | refine od_fdiv ⟨by decide, by decide⟩ ?_
  | refine od_mulY_int (.inr ⟨by decide, by decide⟩) ?_
  | refine od_mulY_int (.inl ⟨by decide, by decide⟩) ?_
  | refine od_in_sign ?_
  | refine od_notIn_sign ?_
  | refine od_is_bool ?_
  | refine od_isNot_bool ?_
  | refine od_is_none ?_
  | refine od_isNot_none ?_
  | refine cd_len_lst ?_
  | refine cd_len_tup ?_
  | refine cd_int_int ?_
  | refine cd_int_bool ?_
  | refine cd_abs ?_
  | refine cd_neg ?_
  | refine cd_isi (by decide) ?_
  | refine ⟨_, rfl, ?_⟩
  | refine ⟨_, _, rfl, ?_⟩
  | refine ⟨[], rfl, szl _ (Nat.le_trans (Nat.le_of_eq (show _ = 0 from rfl)) (by decide)), ?_⟩
  | refine ⟨[_], rfl, szl _ (Nat.le_trans (Nat.le_of_eq (show _ = 1 from rfl)) (by decide)), ?_⟩
  | refine ⟨[_, _], rfl, szl _ (Nat.le_trans (Nat.le_of_eq (show _ = 2 from rfl)) (by decide)), ?_⟩
  | refine ⟨[_, _, _], rfl, szl _ (Nat.le_trans (Nat.le_of_eq (show _ = 3 from rfl)) (by decide)), ?_⟩
  | refine ⟨[_, _, _, _], rfl, szl _ (Nat.le_trans (Nat.le_of_eq (show _ = 4 from rfl)) (by decide)), ?_⟩
  | refine ⟨[_, _, _, _, _], rfl, szl _ (Nat.le_trans (Nat.le_of_eq (show _ = 5 from rfl)) (by decide)), ?_⟩
  | refine ⟨[_, _, _, _, _, _], rfl, szl _ (Nat.le_trans (Nat.le_of_eq (show _ = 6 from rfl)) (by decide)), ?_⟩
  | refine ⟨[_, _, _, _, _, _, _], rfl, szl _ (Nat.le_trans (Nat.le_of_eq (show _ = 7 from rfl)) (by decide)), ?_⟩
  | refine ⟨[_, _, _, _, _, _, _, _], rfl, szl _ (Nat.le_trans (Nat.le_of_eq (show _ = 8 from rfl)) (by decide)), ?_⟩
  | refine ⟨[_, _, _, _, _, _, _, _, _], rfl, szl _ (Nat.le_trans (Nat.le_of_eq (show _ = 9 from rfl)) (by decide)), ?_⟩
  | with_reducible refine ite_t ?_
  | refine ite_t ?_
  | refine ite_f ?_)
section
variable {P : Program} {w : World} {K : PySem.W.Frag} {mg : Str → Option Value} {base : Heap}
abbrev dI (ns : List Int) : List PyData := ns.map PyData.int
abbrev tI (ns : List Int) : PyData := .tuple (dI ns)
def nI (C : List Nat) : List Int := C.map fun c : Nat => (c : Int)
abbrev s_is_within : Stmt := top 7
theorem sc_is_within : FnScope ["value", "low", "high"] ["value", "low", "high"] (defScope s_is_within) := ⟨rfl, rfl, rfl, by decide +kernel, rfl, by decide +kernel, by decide +kernel⟩
abbrev ps_is_within : List Str := ["value", "low", "high"]
def wi (v : PyData) (lo hi : Int) : Bool := match v with
  | .int i => decide (lo ≤ i) && decide (i ≤ hi)
  | _ => false
def dWithin : DSp := fun rs L k _ => ∃ v lo hi, rs = [.dat v, .dat (.int lo), .dat (.int hi)] ∧ k (.dat (.bool (wi v lo hi))) L
theorem ok_is_within {f : Addr} {fd : FuncData} (D : DefAt K mg "is_within" s_is_within ps_is_within f fd) (B_isinstance : mg "isinstance" = none) (B_int : mg "int" = none) (B_bool : mg "bool" = none) : Has P w K mg base 1 "is_within" ps_is_within dWithin := by
  refine ⟨f, fd, D.g, D.F.kp, D.b, fn_z D.F sc_is_within (fun rs L k x h => ?_) fun cdv A outer s H E hr => ?_⟩
  · obtain ⟨v, lo, hi, rfl, _⟩ := h
    rfl
  · have nd := sc_is_within.nd
    refine ⟨_, (pss_one (ps_ret (pe_and (pe_callB call_isi (by rfl) B_isinstance (by decide +kernel) (pa_cons (pv 0) (pa_cons (pe_bltn (v := .ty "int") (by rfl) B_int (by decide +kernel) rfl) pa_nil))) (pe_and (pe_not (pe_callB call_isi (by rfl) B_isinstance (by decide +kernel) (pa_cons (pv 0) (pa_cons (pe_bltn (v := .ty "bool") (by rfl) B_bool (by decide +kernel) rfl) pa_nil)))) (pe_one (pe_chain op_leZ op_leZ (pv 1) (pv 0) (pv 2))))))), fun rs L q x h => ?_⟩
    obtain ⟨v, lo, hi, rfl, hq⟩ := h
    cases v with
    | int i =>
      repeat walk_at "z"
      refine ite_b (fun hc => ?_) fun hc => ?_
      · repeat walk_at "z"
        have e : wi (.int i) lo hi = decide (i ≤ hi) := by
          show (_ && _) = _
          rw [hc, Bool.true_and]
        rw [e] at hq
        exact rt_dat hq
      · have e : wi (.int i) lo hi = false := by
          show (_ && _) = _
          rw [hc, Bool.false_and]
        rw [e] at hq
        exact rt_dat hq
    | bool b =>
      repeat walk_at "z"
      exact rt_dat hq
    | none =>
      repeat walk_at "z"
      exact rt_dat hq
    | str b =>
      repeat walk_at "z"
      exact rt_dat hq
    | list b =>
      repeat walk_at "z"
      exact rt_dat hq
    | tuple b =>
      repeat walk_at "z"
      exact rt_dat hq
    | dict b =>
      repeat walk_at "z"
      exact rt_dat hq
theorem cut1 {α : Type} (l : List α) : Z.cutD l (some 1) none = l.drop 1 := by
  unfold Z.cutD
  show (l.drop (min 1 l.length)).take (l.length - min 1 l.length) = _
  cases l with
  | nil => rfl
  | cons a r =>
    have e : min 1 (a :: r).length = 1 := by
      rw [List.length_cons]
      omega
    rw [e]
    refine List.take_of_length_le ?_
    rw [List.length_drop]
    exact Nat.le_refl _
theorem zip_ints (f : Int → Int) : ∀ as bs : List Int, zipD (dI as) (dI bs) = (as.zip bs).map fun p => PyData.tuple [.int p.1, .int p.2]
  | [], _ => by simp [zipD]
  | _ :: _, [] => by simp [zipD]
  | a :: r, b :: t => by
    have := zip_ints f r t
    unfold zipD at this ⊢
    show (_ :: List.zipWith _ (dI r) (dI t)) = _
    rw [this]
    rfl
theorem asc_zip : ∀ {ns : List Int}, ns.Pairwise (· < ·) → ∀ p ∈ ns.zip (ns.drop 1), p.1 < p.2
  | [], _, p, hp => by cases hp
  | [a], _, p, hp => by cases hp
  | a :: b :: r, h, p, hp => by
    cases h with
    | cons h1 h2 =>
      have hp : p ∈ (a, b) :: (b :: r).zip r := hp
      rcases List.mem_cons.mp hp with e | e
      · subst e
        exact h1 b List.mem_cons_self
      · exact asc_zip h2 p e
abbrev s_are_ascending : Stmt := top 8
theorem sc_are_ascending : FnScope ["values", "one", "other"] ["values"] (defScope s_are_ascending) := ⟨rfl, rfl, rfl, by decide +kernel, rfl, by decide +kernel, by decide +kernel⟩
abbrev ps_are_ascending : List Str := ["values"]
def dAsc : DSp := fun rs L k _ => ∃ ns : List Int, rs = [.dat (tI ns)] ∧ ns.length ≤ 1000 ∧ ns.Pairwise (· < ·) ∧ k (.dat (.bool true)) L
theorem ok_are_ascending {f : Addr} {fd : FuncData} (D : DefAt K mg "are_ascending" s_are_ascending ps_are_ascending f fd) (B_all : mg "all" = none) (B_zip : mg "zip" = none) : Has P w K mg base 1 "are_ascending" ps_are_ascending dAsc := by
  refine ⟨f, fd, D.g, D.F.kp, D.b, fn_z D.F sc_are_ascending (fun rs L k x h => ?_) fun cdv A outer s H E hr => ?_⟩
  · obtain ⟨ns, rfl, _⟩ := h
    rfl
  · have nd := sc_are_ascending.nd
    refine ⟨_, (pss_one (ps_ret (pe_callB (cr_all rfl) (by rfl) B_all (by decide +kernel) (pa_cons (pe_lc (own := [("one", 1), ("other", 2)]) rfl nd (pi_zp (by rfl) B_zip (pa_cons (pv 0) (pa_cons (pe_slice sl_Z (pv 0) (po_some pe_int) po_none) pa_nil))) (blkOk_by (own := [("one", 1), ("other", 2)]) (N := ["values", "one", "other"]) (sc := defScope s_are_ascending) (by decide +kernel)) (fun _ _ _ _ _ => (pg_tupK (K := K) (n := 2) (by rfl) rfl (pgs_cons (pg_name (i := 1) nd rfl (by first | exact .inl rfl | exact .inr rfl)) (pgs_cons (pg_name (i := 2) nd rfl (by first | exact .inl rfl | exact .inr rfl)) pgs_nil)))) (fun _ _ _ _ _ => pts_nil) (fun _ _ _ _ _ => (pe_cmpR op_ltZ (pv 1) (pv 2) (nomark _)))) pa_nil)))), fun rs L q x h => ?_⟩
    obtain ⟨ns, rfl, hl, hp, hq⟩ := h
    repeat walk_at "z"
    refine cp_lcM (Int × Int) ?_ gown_tup2
    refine ci_zp ?_
    repeat walk_at "z"
    have ec : Z.cutD (dI ns) (some 1) none = dI (ns.drop 1) := by
      rw [cut1]
      exact (List.map_drop).symm
    rw [ec]
    refine ⟨_, _, _, _, rfl, .tup _, .tup _, ?_, ns.zip (ns.drop 1), fun p => .tuple [.int p.1, .int p.2], fun p => some (.bool (decide (p.1 < p.2))), zip_ints id _ _, fun p hp acc a ha => ?_, ?_⟩
    · rw [zip_ints id, List.length_map, List.length_zip]
      exact sz _ (by omega)
    · refine cg_tup2 ⟨rfl, ct_yes ⟨rfl, ite_t ?_⟩⟩
      repeat walk_at "z"
      exact ⟨rfl, _, rfl, rfl⟩
    · repeat walk_at "z"
      rw [fm_bool]
      refine cd_all ?_
      have e : ((ns.zip (ns.drop 1)).map fun p : Int × Int => decide (p.1 < p.2)).all id = true := by
        rw [List.all_map, List.all_eq_true]
        exact fun p h => decide_eq_true (asc_zip hp p h)
      rw [e]
      exact rt_dat hq
abbrev s_are_lengths : Stmt := top 13
theorem sc_are_lengths : FnScope ["value", "length"] ["value"] (defScope s_are_lengths) := ⟨rfl, rfl, rfl, by decide +kernel, rfl, by decide +kernel, by decide +kernel⟩
abbrev ps_are_lengths : List Str := ["value"]
def lenB (ns : List Int) : Bool := ns.all fun x => wi (.int x) 1 1000
def dLens : DSp := fun rs L k _ => ∃ ns : List Int, rs = [.dat (tI ns)] ∧ ns.length ≤ 100000 ∧ k (.dat (.bool (decide (ns.length ≤ 300) && lenB ns))) L
theorem ok_are_lengths {f : Addr} {fd : FuncData} (D : DefAt K mg "are_lengths" s_are_lengths ps_are_lengths f fd) {t1 t2 : Tok} (B_all : mg "all" = none) (B_isinstance : mg "isinstance" = none) (B_tuple : mg "tuple" = none) (B_len : mg "len" = none) (c_MOST_WAGONS : mg "MOST_WAGONS" = some (.int 300 t1)) (c_LONGEST_WAGON : mg "LONGEST_WAGON" = some (.int 1000 t2)) (H_1 : Has P w K mg base 1 "is_within" ps_is_within dWithin) : Has P w K mg base 2 "are_lengths" ps_are_lengths dLens := by
  obtain ⟨_, _, g_is_within, kp_is_within, b_is_within, G_is_within⟩ := H_1
  refine ⟨f, fd, D.g, D.F.kp, D.b, fn_z D.F sc_are_lengths (fun rs L k x h => ?_) fun cdv A outer s H E hr => ?_⟩
  · obtain ⟨ns, rfl, _⟩ := h
    rfl
  · have nd := sc_are_lengths.nd
    refine ⟨_, (pss_cons (ps_if (PW.pt (pw_or (pt_not (pt_val (pe_callB call_isi (by rfl) B_isinstance (by decide +kernel) (pa_cons (pv 0) (pa_cons (pe_bltn (v := .ty "tuple") (by rfl) B_tuple (by decide +kernel) rfl) pa_nil))))) (pw_or1 (pt_cmpR op_gtZ (pe_callB call_lenZ (by rfl) B_len (by decide +kernel) (pa_cons (pv 0) pa_nil)) (pe_glob (v := .int 300) (by rfl) c_MOST_WAGONS ⟨_, rfl⟩) (nomark _))))) (pss_one (ps_ret pe_bl)) pss_nil)
    (pss_one (ps_ret (pe_callB (cr_all rfl) (by rfl) B_all (by decide +kernel) (pa_cons (pe_lc (own := [("length", 1)]) rfl nd (pi_sq (pv 0)) (blkOk_by (own := [("length", 1)]) (N := ["value", "length"]) (sc := defScope s_are_lengths) (by decide +kernel)) (fun _ _ _ _ _ => (pg_name (i := 1) nd rfl (by first | exact .inl rfl | exact .inr rfl))) (fun _ _ _ _ _ => pts_nil) (fun _ _ _ _ _ => (pe_call G_is_within (hr.mono (by first | decide | omega)) (by rfl) g_is_within kp_is_within b_is_within .nil pass0 (pa_cons (pv 1) (pa_cons pe_int (pa_cons (pe_glob (v := .int 1000) (by rfl) c_LONGEST_WAGON ⟨_, rfl⟩) pa_nil)))))) pa_nil))))), fun rs L q x h => ?_⟩
    obtain ⟨ns, rfl, hl, hq⟩ := h
    repeat walk_at "z"
    rw [List.length_map]
    refine ite_b (fun hc => ?_) fun hc => ?_
    · have hc := of_decide_eq_true hc
      rw [decide_eq_false (show ¬ ns.length ≤ 300 by omega), Bool.false_and] at hq
      repeat walk_at "z"
      exact rt_dat hq
    · have hc := of_decide_eq_false hc
      rw [decide_eq_true (show ns.length ≤ 300 by omega), Bool.true_and] at hq
      repeat walk_at "z"
      refine cp_lcM Int ?_ gown_name
      refine ci_sq ?_
      repeat walk_at "z"
      refine ⟨_, .tup _, by rw [List.length_map]; exact sz _ (by omega), ns, PyData.int, fun x => some (.bool (wi (.int x) 1 1000)), rfl, fun x hx acc a ha => ?_, ?_⟩
      · refine cg_name ⟨rfl, ct_yes ⟨rfl, ite_t ?_⟩⟩
        repeat walk_at "z"
        first | exact ⟨rfl, _, rfl, rfl⟩ | exact ⟨_, _, _, rfl, rfl, _, rfl, rfl⟩
      · repeat walk_at "z"
        rw [fm_bool]
        refine cd_all ?_
        rw [List.all_map]
        exact rt_dat hq
theorem lenB_ok {ns : List Int} (h : okL ns) : (decide (ns.length ≤ 300) && lenB ns) = true := by
  rw [Bool.and_eq_true]
  refine ⟨decide_eq_true h.1, List.all_eq_true.mpr fun x hx => ?_⟩
  have := h.2 x hx
  show (_ && _) = true
  rw [decide_eq_true this.1, decide_eq_true this.2]
  rfl
abbrev s_check_lengths : Stmt := top 14
theorem sc_check_lengths : FnScope ["lengths"] ["lengths"] (defScope s_check_lengths) := ⟨rfl, rfl, rfl, by decide +kernel, rfl, by decide +kernel, by decide +kernel⟩
abbrev ps_check_lengths : List Str := ["lengths"]
def dCheckL : DSp := fun rs L k _ => ∃ ns : List Int, rs = [.dat (tI ns)] ∧ okL ns ∧ k (.dat .none) L
theorem ok_check_lengths {f : Addr} {fd : FuncData} (D : DefAt K mg "check_lengths" s_check_lengths ps_check_lengths f fd) {cN : Addr} (E_NotRight : ErrAt K mg "NotRight" cN) (H_1 : Has P w K mg base 2 "are_lengths" ps_are_lengths dLens) : Has P w K mg base 3 "check_lengths" ps_check_lengths dCheckL := by
  obtain ⟨_, _, g_are_lengths, kp_are_lengths, b_are_lengths, G_are_lengths⟩ := H_1
  refine ⟨f, fd, D.g, D.F.kp, D.b, fn_z D.F sc_check_lengths (fun rs L k x h => ?_) fun cdv A outer s H E hr => ?_⟩
  · obtain ⟨ns, rfl, _⟩ := h
    rfl
  · have nd := sc_check_lengths.nd
    refine ⟨_, (pss_one (ps_if (pt_not (pt_val (pe_call G_are_lengths (hr.mono (by first | decide | omega)) (by rfl) g_are_lengths kp_are_lengths b_are_lengths .nil pass0 (pa_cons (pv 0) pa_nil)))) (pss_one (ps_raise rfl (takes0) (pmk_own PySem.F.excBase_ValueError E_NotRight.x E_NotRight.g E_NotRight.k (raises_own E_NotRight.s1 E_NotRight.s2) (by rfl)))) pss_nil)), fun rs L q x h => ?_⟩
    obtain ⟨ns, rfl, hn, hq⟩ := h
    have hb := lenB_ok hn
    have := hn.1
    repeat walk_at "z"
    refine ⟨by omega, ?_⟩
    rw [hb]
    repeat walk_at "z"
    exact rt_dat hq
abbrev s_check_siding : Stmt := top 15
theorem sc_check_siding : FnScope ["siding"] ["siding"] (defScope s_check_siding) := ⟨rfl, rfl, rfl, by decide +kernel, rfl, by decide +kernel, by decide +kernel⟩
abbrev ps_check_siding : List Str := ["siding"]
def dCheckS : DSp := fun rs L k _ => ∃ S : Int, rs = [.dat (.int S)] ∧ 1 ≤ S ∧ S ≤ 1000000 ∧ k (.dat .none) L
theorem wi_ok {i lo hi : Int} (h1 : lo ≤ i) (h2 : i ≤ hi) : wi (.int i) lo hi = true := by
  show (_ && _) = true
  rw [decide_eq_true h1, decide_eq_true h2]
  rfl
theorem ok_check_siding {f : Addr} {fd : FuncData} (D : DefAt K mg "check_siding" s_check_siding ps_check_siding f fd) {cN : Addr} {t1 : Tok} (c_LONGEST_SIDING : mg "LONGEST_SIDING" = some (.int 1000000 t1)) (E_NotRight : ErrAt K mg "NotRight" cN) (H_1 : Has P w K mg base 1 "is_within" ps_is_within dWithin) : Has P w K mg base 2 "check_siding" ps_check_siding dCheckS := by
  obtain ⟨_, _, g_is_within, kp_is_within, b_is_within, G_is_within⟩ := H_1
  refine ⟨f, fd, D.g, D.F.kp, D.b, fn_z D.F sc_check_siding (fun rs L k x h => ?_) fun cdv A outer s H E hr => ?_⟩
  · obtain ⟨ns, rfl, _⟩ := h
    rfl
  · have nd := sc_check_siding.nd
    refine ⟨_, (pss_one (ps_if (pt_not (pt_val (pe_call G_is_within (hr.mono (by first | decide | omega)) (by rfl) g_is_within kp_is_within b_is_within .nil pass0 (pa_cons (pv 0) (pa_cons pe_int (pa_cons (pe_glob (v := .int 1000000) (by rfl) c_LONGEST_SIDING ⟨_, rfl⟩) pa_nil)))))) (pss_one (ps_raise rfl (takes0) (pmk_own PySem.F.excBase_ValueError E_NotRight.x E_NotRight.g E_NotRight.k (raises_own E_NotRight.s1 E_NotRight.s2) (by rfl)))) pss_nil)), fun rs L q x h => ?_⟩
    obtain ⟨S, rfl, h1, h2, hq⟩ := h
    have hb := wi_ok h1 h2
    repeat walk_at "z"
    rw [hb]
    repeat walk_at "z"
    exact rt_dat hq

end
end W06

set_option Elab.async false
set_option linter.all false
set_option maxRecDepth 100000
set_option maxHeartbeats 4000000
namespace W06
open PySem PySem.Spec PyProof.Rows L2 Z
local macro_rules | `(tactic| walk_at "z") => `(tactic| first
  | with_reducible refine hs_seq ?_
  | with_reducible refine hs_asg ?_
  | with_reducible refine hs_ret ?_
  | with_reducible refine hs_if ?_
  | with_reducible refine hs_drop ?_
  | with_reducible refine hs_next ?_
  | ((with_reducible refine cp_var (r := ?zr) ?zh ?_); (case zh => exact rfl))
  | with_reducible refine cp_int ?_
  | with_reducible refine cp_str ?_
  | with_reducible refine cp_bl ?_
  | with_reducible refine cp_non ?_
  | with_reducible refine cp_ref ?_
  | with_reducible refine cp_ty ?_
  | with_reducible refine cp_op ?_
  | with_reducible refine cp_un ?_
  | with_reducible refine cp_cb ?_
  | with_reducible refine ca_nil ?_
  | with_reducible refine ca_cons ?_
  | with_reducible refine cp_andV ?_
  | with_reducible refine cp_orV ?_
  | with_reducible refine cp_notV ?_
  | with_reducible refine cp_if ?_
  | with_reducible refine cp_call ?_
  | with_reducible refine cp_callS ?_
  | with_reducible refine ct_test ?_
  | with_reducible refine ct_b ?_
  | with_reducible refine ct_and ?_
  | with_reducible refine ct_or ?_
  | with_reducible refine ct_not ?_
  | with_reducible refine ct_yes ?_
  | with_reducible refine cg_name ?_
  | with_reducible refine hs_par ?_
  | with_reducible refine hs_par3 ?_
  | ((with_reducible refine hs_aug (x := ?zx) ?zh ?_); (case zh => exact rfl))
  | with_reducible refine cp_chain ?_
  | with_reducible refine cp_sl ?_
  | with_reducible refine co_none ?_
  | with_reducible refine co_some ?_
  | refine sd_tup ?_
  | refine sd_lst ?_
  | refine od_ip_add ?_
  | refine od_ip_sub ?_
  | refine cd_tup_lst ?_
  | refine cd_list_tup ?_
  | refine cd_list_lst ?_
  | refine cd_max2 ?_
  | refine ⟨_, _, _, rfl, ?_⟩
  | with_reducible refine cp_lst ?_
  | with_reducible refine cp_tup ?_
  | refine cp_bm ?_
  | refine cp_bm0 ?_
  | refine ⟨(show rsTy _ (Rs.own _) _ from rfl), ?_⟩
  | refine ⟨(show rsTy _ (Rs.dat _) _ from ⟨rfl, by decide⟩), ?_⟩
  | refine od_add_int ?_
  | refine od_sub ?_
  | refine od_lt_int ?_
  | refine od_gt ?_
  | refine od_le ?_
  | refine od_ge ?_
  | refine od_eq_int ?_
  | refine od_eq_str ?_
  | refine od_eq_bool ?_
  | refine od_ne_int ?_
  | refine od_ne_str ?_
  | refine od_ne_bool ?_
  | refine od_mod (by decide) ?_
  | refine od_pow ⟨by decide, by decide, by decide⟩ ?_
  | refine od_fdiv ⟨by decide, by decide⟩ ?_
  | refine od_mulY_int (.inr ⟨by decide, by decide⟩) ?_
  | refine od_mulY_int (.inl ⟨by decide, by decide⟩) ?_
  | refine od_in_sign ?_
  | refine od_notIn_sign ?_
  | refine od_is_bool ?_
  | refine od_isNot_bool ?_
  | refine od_is_none ?_
  | refine od_isNot_none ?_
  | refine cd_len_lst ?_
  | refine cd_len_tup ?_
  | refine cd_int_int ?_
  | refine cd_int_bool ?_
  | refine cd_abs ?_
  | refine cd_neg ?_
  | refine cd_isi (by decide) ?_
  | refine ⟨_, rfl, ?_⟩
  | refine ⟨_, _, rfl, ?_⟩
  | refine ⟨[], rfl, szl _ (Nat.le_trans (Nat.le_of_eq (show _ = 0 from rfl)) (by decide)), ?_⟩
  | refine ⟨[_], rfl, szl _ (Nat.le_trans (Nat.le_of_eq (show _ = 1 from rfl)) (by decide)), ?_⟩
  | refine ⟨[_, _], rfl, szl _ (Nat.le_trans (Nat.le_of_eq (show _ = 2 from rfl)) (by decide)), ?_⟩
  | refine ⟨[_, _, _], rfl, szl _ (Nat.le_trans (Nat.le_of_eq (show _ = 3 from rfl)) (by decide)), ?_⟩
  | refine ⟨[_, _, _, _], rfl, szl _ (Nat.le_trans (Nat.le_of_eq (show _ = 4 from rfl)) (by decide)), ?_⟩
  | refine ⟨[_, _, _, _, _], rfl, szl _ (Nat.le_trans (Nat.le_of_eq (show _ = 5 from rfl)) (by decide)), ?_⟩
  | refine ⟨[_, _, _, _, _, _], rfl, szl _ (Nat.le_trans (Nat.le_of_eq (show _ = 6 from rfl)) (by decide)), ?_⟩
  | refine ⟨[_, _, _, _, _, _, _], rfl, szl _ (Nat.le_trans (Nat.le_of_eq (show _ = 7 from rfl)) (by decide)), ?_⟩
  | refine ⟨[_, _, _, _, _, _, _, _], rfl, szl _ (Nat.le_trans (Nat.le_of_eq (show _ = 8 from rfl)) (by decide)), ?_⟩
  | refine ⟨[_, _, _, _, _, _, _, _, _], rfl, szl _ (Nat.le_trans (Nat.le_of_eq (show _ = 9 from rfl)) (by decide)), ?_⟩
  | with_reducible refine ite_t ?_
  | refine ite_t ?_
  | refine ite_f ?_)
section
variable {P : Program} {w : World} {K : PySem.W.Frag} {mg : Str → Option Value} {base : Heap}
theorem asc_len {n : Nat} : ∀ {C : List Nat} {g : Nat}, Asc n g C → C.length ≤ n - g
  | [], _, _ => Nat.zero_le _
  | b :: r, g, h => by
    have := asc_len h.2.2
    have := h.1
    have := h.2.1
    rw [List.length_cons]
    omega
theorem nI_asc {C : List Nat} (h : C.Pairwise (· < ·)) : (nI C).Pairwise (· < ·) := List.pairwise_map.mpr (h.imp fun h => by omega)
theorem nI_len (C : List Nat) : (nI C).length = C.length := List.length_map _
abbrev s_is_cutting : Stmt := top 16
theorem sc_is_cutting : FnScope ["lengths", "cutting", "at"] ["lengths", "cutting"] (defScope s_is_cutting) := ⟨rfl, rfl, rfl, by decide +kernel, rfl, by decide +kernel, by decide +kernel⟩
abbrev ps_is_cutting : List Str := ["lengths", "cutting"]
def dIsCut : DSp := fun rs L k _ => ∃ (xs : List Int) (C : List Nat), rs = [.dat (tI xs), .dat (tI (nI C))] ∧ okL xs ∧ Asc xs.length 0 C ∧ k (.dat (.bool true)) L
theorem ok_is_cutting {f : Addr} {fd : FuncData} (D : DefAt K mg "is_cutting" s_is_cutting ps_is_cutting f fd) (B_all : mg "all" = none) (B_len : mg "len" = none) (H_1 : Has P w K mg base 1 "is_within" ps_is_within dWithin) (H_2 : Has P w K mg base 1 "are_ascending" ps_are_ascending dAsc) : Has P w K mg base 2 "is_cutting" ps_is_cutting dIsCut := by
  obtain ⟨_, _, g_is_within, kp_is_within, b_is_within, G_is_within⟩ := H_1
  obtain ⟨_, _, g_are_ascending, kp_are_ascending, b_are_ascending, G_are_ascending⟩ := H_2
  refine ⟨f, fd, D.g, D.F.kp, D.b, fn_z D.F sc_is_cutting (fun rs L k x h => ?_) fun cdv A outer s H E hr => ?_⟩
  · obtain ⟨ns, C, rfl, _⟩ := h
    rfl
  · have nd := sc_is_cutting.nd
    refine ⟨_, (pss_one (ps_ret (pe_and (pe_call G_are_ascending (hr.mono (by first | decide | omega)) (by rfl) g_are_ascending kp_are_ascending b_are_ascending .nil pass0 (pa_cons (pv 1) pa_nil)) (pe_one (pe_callB (cr_all rfl) (by rfl) B_all (by decide +kernel) (pa_cons (pe_lc (own := [("at", 2)]) rfl nd (pi_sq (pv 1)) (blkOk_by (own := [("at", 2)]) (N := ["lengths", "cutting", "at"]) (sc := defScope s_is_cutting) (by decide +kernel)) (fun _ _ _ _ _ => (pg_name (i := 2) nd rfl (by first | exact .inl rfl | exact .inr rfl))) (fun _ _ _ _ _ => pts_nil) (fun _ _ _ _ _ => (pe_call G_is_within (hr.mono (by first | decide | omega)) (by rfl) g_is_within kp_is_within b_is_within .nil pass0 (pa_cons (pv 2) (pa_cons pe_int (pa_cons (pe_op op_sub (pe_callB (callK (r := rLenZ) (K := K) call_lenZ (by rfl)) (by rfl) B_len (by decide +kernel) (pa_cons (pv 0) pa_nil)) pe_int) pa_nil)))))) pa_nil)))))), fun rs L q x h => ?_⟩
    obtain ⟨xs, C, rfl, hx, hC, hq⟩ := h
    have hl := asc_len hC
    have hx1 := hx.1
    repeat walk_at "z"
    refine ⟨by rw [nI_len]; omega, nI_asc (asc_pair hC), ?_⟩
    repeat walk_at "z"
    refine cp_lcM Nat ?_ gown_name
    refine ci_sq ?_
    repeat walk_at "z"
    refine ⟨_, .tup _, ?_, C, natD, fun c => some (.bool true), ?_, fun c hc acc a ha => ?_, ?_⟩
    · rw [List.length_map, nI_len]
      exact sz _ (by omega)
    · unfold dI nI
      rw [List.map_map]
      rfl
    · have hm := asc_mem hC c hc
      refine cg_name ⟨rfl, ct_yes ⟨rfl, ite_t ?_⟩⟩
      repeat walk_at "z"
      rw [List.length_map]
      have e : wi (natD c) 1 ((xs.length : Int) - 1) = true := wi_ok (by omega) (by omega)
      rw [e]
      exact ⟨rfl, _, rfl, rfl⟩
    · repeat walk_at "z"
      rw [fm_bool]
      refine cd_all ?_
      have e : (C.map fun _ : Nat => true).all id = true := by
        rw [List.all_map, List.all_eq_true]
        exact fun _ _ => rfl
      rw [e]
      exact rt_dat hq
theorem cutN {α : Type} (l : List α) (a b : Nat) (ha : a ≤ l.length) (hb : b ≤ l.length) : Z.cutD l (some (a : Int)) (some (b : Int)) = (l.drop a).take (b - a) := by
  unfold Z.cutD
  rw [HT.sIx_nat, HT.sIx_nat, Nat.min_eq_left ha, Nat.min_eq_left hb]
theorem parts_zip (xs : List Int) : ∀ (C : List Nat) (g : Nat), (((g :: C ++ [xs.length]).zip ((g :: C ++ [xs.length]).drop 1)).map fun p : Nat × Nat => seg xs p.1 p.2) = partsR xs g C
  | [], g => rfl
  | b :: r, g => by
    have := parts_zip xs r b
    unfold partsR
    rw [← this]
    rfl
theorem ends_le {xs : List Int} {C : List Nat} (hC : Asc xs.length 0 C) : ∀ c ∈ ends xs.length C, c ≤ xs.length := by
  intro c hc
  rcases List.mem_append.mp hc with h | h
  · rcases List.mem_cons.mp h with e | e
    · omega
    · exact Nat.le_of_lt (asc_mem hC c e).2
  · rw [List.mem_singleton.mp h]
    exact Nat.le_refl _
theorem zip_nats : ∀ as bs : List Nat, zipD (dI (nI as)) (dI (nI bs)) = (as.zip bs).map fun p => PyData.tuple [.int (p.1 : Int), .int (p.2 : Int)]
  | [], _ => by simp [zipD, nI]
  | _ :: _, [] => by simp [zipD, nI]
  | a :: r, b :: t => by
    have := zip_nats r t
    unfold zipD at this ⊢
    show (_ :: List.zipWith _ (dI (nI r)) (dI (nI t))) = _
    rw [this]
    rfl
theorem drop_nI (l : List Nat) : Z.cutD (dI (nI l)) (some 1) none = dI (nI (l.drop 1)) := by
  rw [cut1]
  unfold dI nI
  rw [List.map_drop, List.map_drop]
abbrev s_parts_by : Stmt := top 17
theorem sc_parts_by : FnScope ["lengths", "cutting", "ends", "here", "there"] ["lengths", "cutting"] (defScope s_parts_by) := ⟨rfl, rfl, rfl, by decide +kernel, rfl, by decide +kernel, by decide +kernel⟩
abbrev ps_parts_by : List Str := ["lengths", "cutting"]
def dParts : DSp := fun rs L k _ => ∃ (xs : List Int) (C : List Nat), rs = [.dat (tI xs), .dat (tI (nI C))] ∧ okL xs ∧ 0 < xs.length ∧ Asc xs.length 0 C ∧ k (.dat (.list (dI (parts xs C)))) L
theorem ok_parts_by {f : Addr} {fd : FuncData} (D : DefAt K mg "parts_by" s_parts_by ps_parts_by f fd) (B_len : mg "len" = none) (B_sum : mg "sum" = none) (B_zip : mg "zip" = none) : Has P w K mg base 1 "parts_by" ps_parts_by dParts := by
  refine ⟨f, fd, D.g, D.F.kp, D.b, fn_z D.F sc_parts_by (fun rs L k x h => ?_) fun cdv A outer s H E hr => ?_⟩
  · obtain ⟨ns, C, rfl, _⟩ := h
    rfl
  · have nd := sc_parts_by.nd
    refine ⟨_, (pss_cons (ps_if (pt_cmpR (op_eqZ hr.units) (pe_callB call_lenZ (by rfl) B_len (by decide +kernel) (pa_cons (pv 0) pa_nil)) pe_int (nomark _)) (pss_one (ps_ret (pe_lst pa_nil))) pss_nil)
    (pss_cons (ps_set (i := 2) nd rfl (by first | exact .inl rfl | exact .inr rfl) (pe_lst (pa_cons pe_int (StX.pa_star (pv 1) (pa_cons (pe_callB call_lenZ (by rfl) B_len (by decide +kernel) (pa_cons (pv 0) pa_nil)) pa_nil)))))
    (pss_one (ps_ret (pe_lc (own := [("here", 3), ("there", 4)]) rfl nd (pi_zp (by rfl) B_zip (pa_cons (pv 2) (pa_cons (pe_slice sl_Z (pv 2) (po_some pe_int) po_none) pa_nil))) (blkOk_by (own := [("here", 3), ("there", 4)]) (N := ["lengths", "cutting", "ends", "here", "there"]) (sc := defScope s_parts_by) (by decide +kernel)) (fun _ _ _ _ _ => (pg_tupK (K := K) (n := 2) (by rfl) rfl (pgs_cons (pg_name (i := 3) nd rfl (by first | exact .inl rfl | exact .inr rfl)) (pgs_cons (pg_name (i := 4) nd rfl (by first | exact .inl rfl | exact .inr rfl)) pgs_nil)))) (fun _ _ _ _ _ => pts_nil) (fun _ _ _ _ _ => (pe_callB (callK (r := rSumZ) (K := K) (call_sumZ rfl) (by rfl)) (by rfl) B_sum (by decide +kernel) (pa_cons (pe_slice (slK (r := rSlZ) (K := K) sl_Z (by rfl)) (pv 0) (po_some (pv 3)) (po_some (pv 4))) pa_nil)))))))), fun rs L q x h => ?_⟩
    obtain ⟨xs, C, rfl, hx, h0, hC, hq⟩ := h
    have hl := asc_len hC
    have hx1 := hx.1
    repeat walk_at "z"
    rw [List.length_map]
    refine ite_b (fun hc => ?_) fun hc => ?_
    · have := beq_iff_eq.mp hc
      omega
    · repeat walk_at "z"
      refine ca_star ?_
      repeat walk_at "z"
      refine ⟨_, .inr rfl, ?_⟩
      repeat walk_at "z"
      have ee : (Rs.dat (.int 0) :: ((dI (nI C)).map Rs.dat ++ [Rs.dat (.int ((dI xs).length : Int))])) = (dI (nI (ends xs.length C))).map Rs.dat := by
        unfold ends nI
        rw [List.length_map]
        simp
      refine ⟨dI (nI (ends xs.length C)), ee, ?_, ?_⟩
      · rw [List.length_map, nI_len]
        unfold ends
        rw [List.length_append, List.length_cons, List.length_singleton]
        exact szl _ (by omega)
      · repeat walk_at "z"
        refine cp_lcM (Nat × Nat) ?_ gown_tup2
        refine ci_zp ?_
        repeat walk_at "z"
        rw [drop_nI]
        refine ⟨_, _, _, _, rfl, .lst _, .lst _, ?_, (ends xs.length C).zip ((ends xs.length C).drop 1), fun p => .tuple [.int (p.1 : Int), .int (p.2 : Int)], fun p => some (.int (seg xs p.1 p.2)), zip_nats _ _, fun p hp acc a ha => ?_, ?_⟩
        · rw [zip_nats, List.length_map, List.length_zip]
          refine sz _ ?_
          unfold ends
          rw [List.length_append, List.length_cons, List.length_singleton]
          omega
        · have h1 := ends_le hC _ (List.of_mem_zip hp).1
          have h2 := ends_le hC _ (List.mem_of_mem_drop (List.of_mem_zip hp).2)
          refine cg_tup2 ⟨rfl, ct_yes ⟨rfl, ite_t ?_⟩⟩
          repeat walk_at "z"
          have ec : Z.cutD (dI xs) (some (p.1 : Int)) (some (p.2 : Int)) = dI ((xs.drop p.1).take (p.2 - p.1)) := by
            rw [cutN _ _ _ (by rw [List.length_map]; exact h1) (by rw [List.length_map]; exact h2)]
            unfold dI
            rw [List.map_take, List.map_drop]
          rw [ec]
          refine cd_sumZ_tup ?_
          exact ⟨rfl, _, rfl, rfl⟩
        · rw [fm_int, show ((ends xs.length C).zip ((ends xs.length C).drop 1)).map (fun p : Nat × Nat => seg xs p.1 p.2) = parts xs C from parts_zip xs C 0]
          exact rt_dat hq
abbrev s_parts_of : Stmt := top 18
theorem sc_parts_of : FnScope ["lengths", "cutting"] ["lengths", "cutting"] (defScope s_parts_of) := ⟨rfl, rfl, rfl, by decide +kernel, rfl, by decide +kernel, by decide +kernel⟩
abbrev ps_parts_of : List Str := ["lengths", "cutting"]
theorem ok_parts_of {f : Addr} {fd : FuncData} (D : DefAt K mg "parts_of" s_parts_of ps_parts_of f fd) {cN : Addr} (E_NotThere : ErrAt K mg "NotThere" cN) (H_1 : Has P w K mg base 3 "check_lengths" ps_check_lengths dCheckL) (H_2 : Has P w K mg base 2 "is_cutting" ps_is_cutting dIsCut) (H_3 : Has P w K mg base 1 "parts_by" ps_parts_by dParts) : Has P w K mg base 4 "parts_of" ps_parts_of dParts := by
  obtain ⟨_, _, g_check_lengths, kp_check_lengths, b_check_lengths, G_check_lengths⟩ := H_1
  obtain ⟨_, _, g_is_cutting, kp_is_cutting, b_is_cutting, G_is_cutting⟩ := H_2
  obtain ⟨_, _, g_parts_by, kp_parts_by, b_parts_by, G_parts_by⟩ := H_3
  refine ⟨f, fd, D.g, D.F.kp, D.b, fn_z D.F sc_parts_of (fun rs L k x h => ?_) fun cdv A outer s H E hr => ?_⟩
  · obtain ⟨ns, C, rfl, _⟩ := h
    rfl
  · have nd := sc_parts_of.nd
    refine ⟨_, (pss_cons (ps_expr (pe_call G_check_lengths (hr.mono (by first | decide | omega)) (by rfl) g_check_lengths kp_check_lengths b_check_lengths .nil pass0 (pa_cons (pv 0) pa_nil)))
    (pss_cons (ps_if (pt_not (pt_val (pe_call G_is_cutting (hr.mono (by first | decide | omega)) (by rfl) g_is_cutting kp_is_cutting b_is_cutting .nil pass0 (pa_cons (pv 0) (pa_cons (pv 1) pa_nil))))) (pss_one (ps_raise rfl (takes0) (pmk_own PySem.F.excBase_ValueError E_NotThere.x E_NotThere.g E_NotThere.k (raises_own E_NotThere.s1 E_NotThere.s2) (by rfl)))) pss_nil)
    (pss_one (ps_ret (pe_call G_parts_by (hr.mono (by first | decide | omega)) (by rfl) g_parts_by kp_parts_by b_parts_by .nil pass0 (pa_cons (pv 0) (pa_cons (pv 1) pa_nil))))))), fun rs L q x h => ?_⟩
    obtain ⟨xs, C, rfl, hx, h0, hC, hq⟩ := h
    repeat walk_at "z"
    refine ⟨hx, ?_⟩
    repeat walk_at "z"
    first | refine ⟨hx, hC, ?_⟩ | refine ⟨_, _, rfl, hx, hC, ?_⟩
    repeat walk_at "z"
    first | exact ⟨hx, h0, hC, rt_dat hq⟩ | exact ⟨_, _, rfl, hx, h0, hC, rt_dat hq⟩

end
end W06

set_option Elab.async false
set_option linter.all false
set_option maxRecDepth 100000
set_option maxHeartbeats 4000000
namespace W06
open PySem PySem.Spec PyProof.Rows L2 Z
local macro_rules | `(tactic| walk_at "z") => `(tactic| first
  | with_reducible refine hs_seq ?_
  | with_reducible refine hs_asg ?_
  | with_reducible refine hs_ret ?_
  | with_reducible refine hs_if ?_
  | with_reducible refine hs_drop ?_
  | with_reducible refine hs_next ?_
  | ((with_reducible refine cp_var (r := ?zr) ?zh ?_); (case zh => exact rfl))
  | with_reducible refine cp_int ?_
  | with_reducible refine cp_str ?_
  | with_reducible refine cp_bl ?_
  | with_reducible refine cp_non ?_
  | with_reducible refine cp_ref ?_
  | with_reducible refine cp_ty ?_
  | with_reducible refine cp_op ?_
  | with_reducible refine cp_un ?_
  | with_reducible refine cp_cb ?_
  | with_reducible refine ca_nil ?_
  | with_reducible refine ca_cons ?_
  | with_reducible refine cp_andV ?_
  | with_reducible refine cp_orV ?_
  | with_reducible refine cp_notV ?_
  | with_reducible refine cp_if ?_
  | with_reducible refine cp_call ?_
  | with_reducible refine cp_callS ?_
  | with_reducible refine ct_test ?_
  | with_reducible refine ct_b ?_
  | with_reducible refine ct_and ?_
  | with_reducible refine ct_or ?_
  | with_reducible refine ct_not ?_
  | with_reducible refine ct_yes ?_
  | with_reducible refine cg_name ?_
  | with_reducible refine hs_par ?_
  | with_reducible refine hs_par3 ?_
  | ((with_reducible refine hs_aug (x := ?zx) ?zh ?_); (case zh => exact rfl))
  | with_reducible refine cp_chain ?_
  | with_reducible refine cp_sl ?_
  | with_reducible refine co_none ?_
  | with_reducible refine co_some ?_
  | refine sd_tup ?_
  | refine sd_lst ?_
  | refine od_ip_add ?_
  | refine od_ip_sub ?_
  | refine cd_tup_lst ?_
  | refine cd_list_tup ?_
  | refine cd_list_lst ?_
  | refine cd_max2 ?_
  | refine ⟨_, _, _, rfl, ?_⟩
  | with_reducible refine cp_lst ?_
  | with_reducible refine cp_tup ?_
  | refine cp_bm ?_
  | refine cp_bm0 ?_
  | refine ⟨(show rsTy _ (Rs.own _) _ from rfl), ?_⟩
  | refine ⟨(show rsTy _ (Rs.dat _) _ from ⟨rfl, by decide⟩), ?_⟩
  | refine od_add_int ?_
  | refine od_sub ?_
  | refine od_lt_int ?_
  | refine od_gt ?_
  | refine od_le ?_
  | refine od_ge ?_
  | refine od_eq_int ?_
  | refine od_eq_str ?_
  | refine od_eq_bool ?_
  | refine od_ne_int ?_
  | refine od_ne_str ?_
  | refine od_ne_bool ?_
  | refine od_mod (by decide) ?_
  | refine od_pow ⟨by decide, by decide, by decide⟩ ?_
  | refine od_fdiv ⟨by decide, by decide⟩ ?_
  | refine od_mulY_int (.inr ⟨by decide, by decide⟩) ?_
  | refine od_mulY_int (.inl ⟨by decide, by decide⟩) ?_
  | refine od_in_sign ?_
  | refine od_notIn_sign ?_
  | refine od_is_bool ?_
  | refine od_isNot_bool ?_
  | refine od_is_none ?_
  | refine od_isNot_none ?_
  | refine cd_len_lst ?_
  | refine cd_len_tup ?_
  | refine cd_int_int ?_
  | refine cd_int_bool ?_
  | refine cd_abs ?_
  | refine cd_neg ?_
  | refine cd_isi (by decide) ?_
  | refine ⟨_, rfl, ?_⟩
  | refine ⟨_, _, rfl, ?_⟩
  | refine ⟨[], rfl, szl _ (Nat.le_trans (Nat.le_of_eq (show _ = 0 from rfl)) (by decide)), ?_⟩
  | refine ⟨[_], rfl, szl _ (Nat.le_trans (Nat.le_of_eq (show _ = 1 from rfl)) (by decide)), ?_⟩
  | refine ⟨[_, _], rfl, szl _ (Nat.le_trans (Nat.le_of_eq (show _ = 2 from rfl)) (by decide)), ?_⟩
  | refine ⟨[_, _, _], rfl, szl _ (Nat.le_trans (Nat.le_of_eq (show _ = 3 from rfl)) (by decide)), ?_⟩
  | refine ⟨[_, _, _, _], rfl, szl _ (Nat.le_trans (Nat.le_of_eq (show _ = 4 from rfl)) (by decide)), ?_⟩
  | refine ⟨[_, _, _, _, _], rfl, szl _ (Nat.le_trans (Nat.le_of_eq (show _ = 5 from rfl)) (by decide)), ?_⟩
  | refine ⟨[_, _, _, _, _, _], rfl, szl _ (Nat.le_trans (Nat.le_of_eq (show _ = 6 from rfl)) (by decide)), ?_⟩
  | refine ⟨[_, _, _, _, _, _, _], rfl, szl _ (Nat.le_trans (Nat.le_of_eq (show _ = 7 from rfl)) (by decide)), ?_⟩
  | refine ⟨[_, _, _, _, _, _, _, _], rfl, szl _ (Nat.le_trans (Nat.le_of_eq (show _ = 8 from rfl)) (by decide)), ?_⟩
  | refine ⟨[_, _, _, _, _, _, _, _, _], rfl, szl _ (Nat.le_trans (Nat.le_of_eq (show _ = 9 from rfl)) (by decide)), ?_⟩
  | with_reducible refine ite_t ?_
  | refine ite_t ?_
  | refine ite_f ?_)
section
variable {P : Program} {w : World} {K : PySem.W.Frag} {mg : Str → Option Value} {base : Heap}
abbrev s_greedy : Stmt := top 19
theorem sc_greedy : FnScope ["lengths", "siding", "found", "whole", "at", "length"] ["lengths", "siding"] (defScope s_greedy) := ⟨rfl, rfl, rfl, by decide +kernel, rfl, by decide +kernel, by decide +kernel⟩
abbrev ps_greedy : List Str := ["lengths", "siding"]
def dGreedy : DSp := fun rs L k _ => ∃ (xs : List Int) (S : Int), rs = [.dat (tI xs), .dat (.int S)] ∧ okL xs ∧ k (.dat (tI (nI (greedy xs S)))) L
theorem nI_app (C : List Nat) (c : Nat) : dI (nI C) ++ [PyData.int (c : Int)] = dI (nI (C ++ [c])) := by
  unfold dI nI
  simp
theorem enum_ints (xs : List Int) {i : Nat} {d : PyData} (h : (enumD (dI xs))[i]? = some d) : ∃ x, xs[i]? = some x ∧ d = .tuple [.int (i : Int), .int x] := by
  unfold enumD dI at h
  rw [List.getElem?_map, List.getElem?_zipIdx, List.getElem?_map] at h
  cases e : xs[i]? with
  | none =>
    rw [e] at h
    simp at h
  | some x =>
    rw [e] at h
    refine ⟨x, rfl, ?_⟩
    simpa using h.symm
theorem enum_len (xs : List Int) : (enumD (dI xs)).length = xs.length := by
  unfold enumD dI
  rw [List.length_map, List.length_zipIdx, List.length_map]
theorem ok_greedy {f : Addr} {fd : FuncData} (D : DefAt K mg "greedy" s_greedy ps_greedy f fd) (B_enumerate : mg "enumerate" = none) (B_tuple : mg "tuple" = none) : Has P w K mg base 1 "greedy" ps_greedy dGreedy := by
  refine ⟨f, fd, D.g, D.F.kp, D.b, fn_z D.F sc_greedy (fun rs L k x h => ?_) fun cdv A outer s H E hr => ?_⟩
  · obtain ⟨ns, C, rfl, _⟩ := h
    rfl
  · have nd := sc_greedy.nd
    refine ⟨_, (pss_cons (ps_set (i := 2) nd rfl (by first | exact .inl rfl | exact .inr rfl) (pe_lst pa_nil))
    (pss_cons (ps_set (i := 3) nd rfl (by first | exact .inl rfl | exact .inr rfl) pe_int)
    (pss_cons (ps_for PassesOwn.never rfl (pi_en (by rfl) B_enumerate (pa_cons (pv 0) pa_nil)) (pg_tup rfl (pgs_cons (pg_name (i := 4) nd rfl (by first | exact .inl rfl | exact .inr rfl)) (pgs_cons (pg_name (i := 5) nd rfl (by first | exact .inl rfl | exact .inr rfl)) pgs_nil)))
      (pss_cons (ps_if (PW.pt (pw_and (pt_cmpR op_gtZ (pe_op op_addZ (pv 3) (pv 5)) (pv 1) (nomark _)) (pw_and1 (pt_cmpR op_gtZ (pv 4) pe_int (nomark _))))) (pss_cons (ps_expr (pe_bm PySem.F.plainAttrs_list PySem.F.slot_list_append PySem.F.type_list_append mt_append (pv 2) (pa_cons (pv 4) pa_nil)))
        (pss_one (ps_set (i := 3) nd rfl (by first | exact .inl rfl | exact .inr rfl) pe_int))) pss_nil)
      (pss_one (ps_aug (i := 3) nd rfl (by first | exact .inl rfl | exact .inr rfl) (pv 5) ip_add))))
    (pss_one (ps_ret (pe_callTy call_tupleZ (by rfl) B_tuple (by decide +kernel) (pa_cons (pv 2) pa_nil))))))), fun rs L q x h => ?_⟩
    obtain ⟨xs, S, rfl, hx, hq⟩ := h
    have hx1 := hx.1
    refine hs_seq ?_
    refine hs_asg ?_
    refine cp_lstO ?_
    refine ca_nil ?_
    refine ⟨[], rfl, szl _ (by decide), fun p hp => ?_⟩
    refine hs_seq ?_
    refine hs_asg ?_
    refine cp_int ?_
    refine hs_seq ?_
    refine hs_for ?_
    refine ci_en ?_
    repeat walk_at "z"
    refine ⟨_, _, rfl, .tup _, fun i ε' L' => ∃ (F : List Nat) (w : Int) (x4 x5 : Option Rs), F ++ gr S i w (xs.drop i) = greedy xs S ∧ F.length ≤ i ∧ ε' = [some (.dat (tI xs)), some (.dat (.int S)), some (.own p), some (.dat (.int w)), x4, x5] ∧ L' = plus L p (dI (nI F)), ⟨[], 0, _, _, rfl, Nat.zero_le _, rfl, rfl⟩, ?_, ?_⟩
    · rintro i d ε' L' hd ⟨F, w, x4, x5, hF, hFl, rfl, rfl⟩
      obtain ⟨y, hy, rfl⟩ := enum_ints xs hd
      have hi : i < xs.length := (List.getElem?_eq_some_iff.mp hy).1
      have hdr : xs.drop i = y :: xs.drop (i + 1) := by
        rw [List.drop_eq_getElem_cons hi]
        congr 1
        have := List.getElem?_eq_getElem hi
        rw [this] at hy
        exact Option.some.inj hy
      refine cg_tup2 ?_
      refine hs_seq ?_
      refine hs_ifJ (fun ε' L' => ∃ (F : List Nat) (w : Int), F ++ gr S (i + 1) (w + y) (xs.drop (i + 1)) = greedy xs S ∧ F.length ≤ i + 1 ∧ ε' = [some (.dat (tI xs)), some (.dat (.int S)), some (.own p), some (.dat (.int w)), some (.dat (.int (i : Int))), some (.dat (.int y))] ∧ L' = plus L p (dI (nI F))) ?_ ?_
      · repeat walk_at "z"
        rw [hdr] at hF
        unfold gr at hF
        refine ite_b (fun hc => ?_) fun hc => ?_
        · have hc := of_decide_eq_true hc
          repeat walk_at "z"
          refine ite_b (fun hc2 => ?_) fun hc2 => ?_
          · have hc2 := of_decide_eq_true hc2
            rw [if_pos ⟨hc, by omega⟩] at hF
            repeat walk_at "z"
            refine md_append plus_mem (sz _ (by rw [List.length_map, nI_len]; omega)) ?_
            rw [up_plus hp, nI_app]
            repeat walk_at "z"
            refine ⟨F ++ [i], 0, ?_, by rw [List.length_append, List.length_singleton]; omega, rfl, rfl⟩
            rw [Int.zero_add, List.append_assoc]
            exact hF
          · have hc2 := of_decide_eq_false hc2
            rw [if_neg (fun z => hc2 (by omega))] at hF
            repeat walk_at "z"
            exact ⟨F, w, hF, by omega, rfl, rfl⟩
        · have hc := of_decide_eq_false hc
          rw [if_neg (fun z => hc z.1)] at hF
          repeat walk_at "z"
          exact ⟨F, w, hF, by omega, rfl, rfl⟩
      · rintro ε' L' ⟨F, w, hF, hFl, rfl, rfl⟩
        repeat walk_at "z"
        exact ⟨F, w + y, _, _, hF, hFl, rfl, rfl⟩
    · rintro ε' L' ⟨F, w, x4, x5, hF, hFl, rfl, rfl⟩
      rw [enum_len, List.drop_length] at hF
      have hF : F ++ [] = greedy xs S := hF
      rw [List.append_nil] at hF
      subst hF
      repeat walk_at "z"
      refine cd_tup_own plus_mem ?_
      exact rt_plus hq
abbrev s_fewest_parts : Stmt := top 20
theorem sc_fewest_parts : FnScope ["lengths", "siding", "length", "cutting"] ["lengths", "siding"] (defScope s_fewest_parts) := ⟨rfl, rfl, rfl, by decide +kernel, rfl, by decide +kernel, by decide +kernel⟩
abbrev ps_fewest_parts : List Str := ["lengths", "siding"]
def dFew : DSp := fun rs L k _ => ∃ (xs : List Int) (S : Int), rs = [.dat (tI xs), .dat (.int S)] ∧ okL xs ∧ 0 < xs.length ∧ maxI xs ≤ S ∧ S ≤ 1000000 ∧ k (.dat (.tuple [tI (nI (greedy xs S)), tI (nI (0 :: greedy xs S))])) L
theorem cutting_len {xs : List Int} {S : Int} (hx : okL xs) (h0 : 0 < xs.length) (hS : maxI xs ≤ S) : (greedy xs S).length ≤ 300 := by
  have := asc_len (good_asc (greedy_good (below hS) (by have := max_pos hx h0; omega)))
  have := hx.1
  omega
theorem ok_fewest_parts {f : Addr} {fd : FuncData} (D : DefAt K mg "fewest_parts" s_fewest_parts ps_fewest_parts f fd) {cA : Addr} (E_NoAnswer : ErrAt K mg "NoAnswer" cA) (B_any : mg "any" = none) (B_len : mg "len" = none) (H_1 : Has P w K mg base 3 "check_lengths" ps_check_lengths dCheckL) (H_2 : Has P w K mg base 2 "check_siding" ps_check_siding dCheckS) (H_3 : Has P w K mg base 1 "greedy" ps_greedy dGreedy) : Has P w K mg base 4 "fewest_parts" ps_fewest_parts dFew := by
  obtain ⟨_, _, g_check_lengths, kp_check_lengths, b_check_lengths, G_check_lengths⟩ := H_1
  obtain ⟨_, _, g_check_siding, kp_check_siding, b_check_siding, G_check_siding⟩ := H_2
  obtain ⟨_, _, g_greedy, kp_greedy, b_greedy, G_greedy⟩ := H_3
  refine ⟨f, fd, D.g, D.F.kp, D.b, fn_z D.F sc_fewest_parts (fun rs L k x h => ?_) fun cdv A outer s H E hr => ?_⟩
  · obtain ⟨ns, C, rfl, _⟩ := h
    rfl
  · have nd := sc_fewest_parts.nd
    refine ⟨_, (pss_cons (ps_expr (pe_call G_check_lengths (hr.mono (by first | decide | omega)) (by rfl) g_check_lengths kp_check_lengths b_check_lengths .nil pass0 (pa_cons (pv 0) pa_nil)))
    (pss_cons (ps_expr (pe_call G_check_siding (hr.mono (by first | decide | omega)) (by rfl) g_check_siding kp_check_siding b_check_siding .nil pass0 (pa_cons (pv 1) pa_nil)))
    (pss_cons (ps_if (pt_val (pe_callB (cr_any rfl) (by rfl) B_any (by decide +kernel) (pa_cons (pe_lc (own := [("length", 2)]) rfl nd (pi_sq (pv 0)) (blkOk_by (own := [("length", 2)]) (N := ["lengths", "siding", "length", "cutting"]) (sc := defScope s_fewest_parts) (by decide +kernel)) (fun _ _ _ _ _ => (pg_name (i := 2) nd rfl (by first | exact .inl rfl | exact .inr rfl))) (fun _ _ _ _ _ => pts_nil) (fun _ _ _ _ _ => (pe_cmpR op_gtZ (pv 2) (pv 1) (nomark _)))) pa_nil))) (pss_one (ps_raise rfl (takes0) (pmk_own PySem.F.excBase_ValueError E_NoAnswer.x E_NoAnswer.g E_NoAnswer.k (raises_own E_NoAnswer.s1 E_NoAnswer.s2) (by rfl)))) pss_nil)
    (pss_cons (ps_set (i := 3) nd rfl (by first | exact .inl rfl | exact .inr rfl) (pe_call G_greedy (hr.mono (by first | decide | omega)) (by rfl) g_greedy kp_greedy b_greedy .nil pass0 (pa_cons (pv 0) (pa_cons (pv 1) pa_nil))))
    (pss_one (ps_ret (pe_tup (pa_cons (pv 3) (pa_cons (pe_ifExp (pt_cmpR op_gtZ (pe_callB call_lenZ (by rfl) B_len (by decide +kernel) (pa_cons (pv 0) pa_nil)) pe_int (nomark _)) (pe_tup (pa_cons pe_int (StX.pa_star (pv 3) pa_nil))) (pe_tup pa_nil)) pa_nil))))))))), fun rs L q x h => ?_⟩
    obtain ⟨xs, S, rfl, hx, h0, h1, h2, hq⟩ := h
    have hx1 := hx.1
    have hm := max_pos hx h0
    have hcl := cutting_len hx h0 h1
    repeat walk_at "z"
    refine ⟨hx, ?_⟩
    repeat walk_at "z"
    refine ⟨by omega, h2, ?_⟩
    repeat walk_at "z"
    refine cp_lcM Int ?_ gown_name
    refine ci_sq ?_
    repeat walk_at "z"
    refine ⟨_, .tup _, by rw [List.length_map]; exact sz _ (by omega), xs, PyData.int, fun x => some (.bool false), rfl, fun x hx acc a ha => ?_, ?_⟩
    · refine cg_name ⟨rfl, ct_yes ⟨rfl, ite_t ?_⟩⟩
      repeat walk_at "z"
      have e : decide (S < x) = false := decide_eq_false (by have := below h1 x hx; omega)
      rw [e]
      exact ⟨rfl, _, rfl, rfl⟩
    · repeat walk_at "z"
      rw [fm_bool]
      refine cd_any ?_
      have e : (xs.map fun _ : Int => false).any id = false := by
        rw [List.any_map, List.any_eq_false]
        exact fun _ _ => by simp
      rw [e]
      repeat walk_at "z"
      refine ⟨hx, ?_⟩
      repeat walk_at "z"
      rw [List.length_map, decide_eq_true (show (0 : Int) < (xs.length : Int) by omega)]
      repeat walk_at "z"
      refine ca_star ?_
      repeat walk_at "z"
      refine ⟨_, .inr rfl, ?_⟩
      repeat walk_at "z"
      refine ⟨dI (nI (0 :: greedy xs S)), by rw [List.append_nil]; rfl, ?_, ?_⟩
      · rw [List.length_map, nI_len, List.length_cons]
        exact szl _ (by omega)
      · repeat walk_at "z"
        exact rt_dat hq

end
end W06

set_option Elab.async false
set_option linter.all false
set_option maxRecDepth 100000
set_option maxHeartbeats 4000000
namespace W06
open PySem PySem.Spec PyProof.Rows L2 Z
local macro_rules | `(tactic| walk_at "z") => `(tactic| first
  | with_reducible refine hs_seq ?_
  | with_reducible refine hs_asg ?_
  | with_reducible refine hs_ret ?_
  | with_reducible refine hs_if ?_
  | with_reducible refine hs_drop ?_
  | with_reducible refine hs_next ?_
  | ((with_reducible refine cp_var (r := ?zr) ?zh ?_); (case zh => exact rfl))
  | with_reducible refine cp_int ?_
  | with_reducible refine cp_str ?_
  | with_reducible refine cp_bl ?_
  | with_reducible refine cp_non ?_
  | with_reducible refine cp_ref ?_
  | with_reducible refine cp_ty ?_
  | with_reducible refine cp_op ?_
  | with_reducible refine cp_un ?_
  | with_reducible refine cp_cb ?_
  | with_reducible refine ca_nil ?_
  | with_reducible refine ca_cons ?_
  | with_reducible refine cp_andV ?_
  | with_reducible refine cp_orV ?_
  | with_reducible refine cp_notV ?_
  | with_reducible refine cp_if ?_
  | with_reducible refine cp_call ?_
  | with_reducible refine cp_callS ?_
  | with_reducible refine ct_test ?_
  | with_reducible refine ct_b ?_
  | with_reducible refine ct_and ?_
  | with_reducible refine ct_or ?_
  | with_reducible refine ct_not ?_
  | with_reducible refine ct_yes ?_
  | with_reducible refine cg_name ?_
  | with_reducible refine hs_par ?_
  | with_reducible refine hs_par3 ?_
  | ((with_reducible refine hs_aug (x := ?zx) ?zh ?_); (case zh => exact rfl))
  | with_reducible refine cp_chain ?_
  | with_reducible refine cp_sl ?_
  | with_reducible refine co_none ?_
  | with_reducible refine co_some ?_
  | refine sd_tup ?_
  | refine sd_lst ?_
  | refine od_ip_add ?_
  | refine od_ip_sub ?_
  | refine cd_tup_lst ?_
  | refine cd_list_tup ?_
  | refine cd_list_lst ?_
  | refine cd_max2 ?_
  | refine ⟨_, _, _, rfl, ?_⟩
  | with_reducible refine cp_lst ?_
  | with_reducible refine cp_tup ?_
  | refine cp_bm ?_
  | refine cp_bm0 ?_
  | refine ⟨(show rsTy _ (Rs.own _) _ from rfl), ?_⟩
  | refine ⟨(show rsTy _ (Rs.dat _) _ from ⟨rfl, by decide⟩), ?_⟩
  | refine od_add_int ?_
  | refine od_sub ?_
  | refine od_lt_int ?_
  | refine od_gt ?_
  | refine od_le ?_
  | refine od_ge ?_
  | refine od_eq_int ?_
  | refine od_eq_str ?_
  | refine od_eq_bool ?_
  | refine od_ne_int ?_
  | refine od_ne_str ?_
  | refine od_ne_bool ?_
  | refine od_mod (by decide) ?_
  | refine od_pow ⟨by decide, by decide, by decide⟩ ?_
  | refine od_fdiv ⟨by decide, by decide⟩ ?_
  | refine od_mulY_int (.inr ⟨by decide, by decide⟩) ?_
  | refine od_mulY_int (.inl ⟨by decide, by decide⟩) ?_
  | refine od_in_sign ?_
  | refine od_notIn_sign ?_
  | refine od_is_bool ?_
  | refine od_isNot_bool ?_
  | refine od_is_none ?_
  | refine od_isNot_none ?_
  | refine cd_len_lst ?_
  | refine cd_len_tup ?_
  | refine cd_int_int ?_
  | refine cd_int_bool ?_
  | refine cd_abs ?_
  | refine cd_neg ?_
  | refine cd_isi (by decide) ?_
  | refine ⟨_, rfl, ?_⟩
  | refine ⟨_, _, rfl, ?_⟩
  | refine ⟨[], rfl, szl _ (Nat.le_trans (Nat.le_of_eq (show _ = 0 from rfl)) (by decide)), ?_⟩
  | refine ⟨[_], rfl, szl _ (Nat.le_trans (Nat.le_of_eq (show _ = 1 from rfl)) (by decide)), ?_⟩
  | refine ⟨[_, _], rfl, szl _ (Nat.le_trans (Nat.le_of_eq (show _ = 2 from rfl)) (by decide)), ?_⟩
  | refine ⟨[_, _, _], rfl, szl _ (Nat.le_trans (Nat.le_of_eq (show _ = 3 from rfl)) (by decide)), ?_⟩
  | refine ⟨[_, _, _, _], rfl, szl _ (Nat.le_trans (Nat.le_of_eq (show _ = 4 from rfl)) (by decide)), ?_⟩
  | refine ⟨[_, _, _, _, _], rfl, szl _ (Nat.le_trans (Nat.le_of_eq (show _ = 5 from rfl)) (by decide)), ?_⟩
  | refine ⟨[_, _, _, _, _, _], rfl, szl _ (Nat.le_trans (Nat.le_of_eq (show _ = 6 from rfl)) (by decide)), ?_⟩
  | refine ⟨[_, _, _, _, _, _, _], rfl, szl _ (Nat.le_trans (Nat.le_of_eq (show _ = 7 from rfl)) (by decide)), ?_⟩
  | refine ⟨[_, _, _, _, _, _, _, _], rfl, szl _ (Nat.le_trans (Nat.le_of_eq (show _ = 8 from rfl)) (by decide)), ?_⟩
  | refine ⟨[_, _, _, _, _, _, _, _, _], rfl, szl _ (Nat.le_trans (Nat.le_of_eq (show _ = 9 from rfl)) (by decide)), ?_⟩
  | with_reducible refine ite_t ?_
  | refine ite_t ?_
  | refine ite_f ?_)
section
variable {P : Program} {w : World} {K : PySem.W.Frag} {mg : Str → Option Value} {base : Heap}
theorem good_mark {xs : List Int} {S : Int} : ∀ {G : List Nat} {a : Nat}, Good xs S a G → ∀ p ∈ (a :: G).zip G, p.1 < p.2 ∧ p.2 < xs.length ∧ S < pre xs (p.2 + 1) - pre xs p.1
  | [], _, _, p, hp => by cases hp
  | b :: r, a, h, p, hp => by
    have hp : p ∈ (a, b) :: (b :: r).zip r := hp
    rcases List.mem_cons.mp hp with e | e
    · subst e
      exact ⟨h.1, h.2.1, h.2.2.2.1⟩
    · exact good_mark h.2.2.2.2 p e
abbrev s_are_markers : Stmt := top 21
theorem sc_are_markers : FnScope ["lengths", "siding", "markers", "at", "one", "other"] ["lengths", "siding", "markers"] (defScope s_are_markers) := ⟨rfl, rfl, rfl, by decide +kernel, rfl, by decide +kernel, by decide +kernel⟩
abbrev ps_are_markers : List Str := ["lengths", "siding", "markers"]
def dMark : DSp := fun rs L k _ => ∃ (xs : List Int) (S : Int) (G : List Nat), rs = [.dat (tI xs), .dat (.int S), .dat (tI (nI (0 :: G)))] ∧ okL xs ∧ 0 < xs.length ∧ 1 ≤ S ∧ S ≤ 1000000 ∧ Good xs S 0 G ∧ k (.dat (.bool true)) L
theorem ok_are_markers {f : Addr} {fd : FuncData} (D : DefAt K mg "are_markers" s_are_markers ps_are_markers f fd) (B_all : mg "all" = none) (B_len : mg "len" = none) (B_sum : mg "sum" = none) (B_zip : mg "zip" = none) (H_1 : Has P w K mg base 3 "check_lengths" ps_check_lengths dCheckL) (H_2 : Has P w K mg base 2 "check_siding" ps_check_siding dCheckS) (H_3 : Has P w K mg base 1 "are_ascending" ps_are_ascending dAsc) (H_4 : Has P w K mg base 1 "is_within" ps_is_within dWithin) : Has P w K mg base 4 "are_markers" ps_are_markers dMark := by
  obtain ⟨_, _, g_check_lengths, kp_check_lengths, b_check_lengths, G_check_lengths⟩ := H_1
  obtain ⟨_, _, g_check_siding, kp_check_siding, b_check_siding, G_check_siding⟩ := H_2
  obtain ⟨_, _, g_are_ascending, kp_are_ascending, b_are_ascending, G_are_ascending⟩ := H_3
  obtain ⟨_, _, g_is_within, kp_is_within, b_is_within, G_is_within⟩ := H_4
  refine ⟨f, fd, D.g, D.F.kp, D.b, fn_z D.F sc_are_markers (fun rs L k x h => ?_) fun cdv A outer s H E hr => ?_⟩
  · obtain ⟨ns, C, G, rfl, _⟩ := h
    rfl
  · have nd := sc_are_markers.nd
    refine ⟨_, (pss_cons (ps_expr (pe_call G_check_lengths (hr.mono (by first | decide | omega)) (by rfl) g_check_lengths kp_check_lengths b_check_lengths .nil pass0 (pa_cons (pv 0) pa_nil)))
    (pss_cons (ps_expr (pe_call G_check_siding (hr.mono (by first | decide | omega)) (by rfl) g_check_siding kp_check_siding b_check_siding .nil pass0 (pa_cons (pv 1) pa_nil)))
    (pss_cons (ps_if (PW.pt (pw_or (pt_not (pt_val (pe_call G_are_ascending (hr.mono (by first | decide | omega)) (by rfl) g_are_ascending kp_are_ascending b_are_ascending .nil pass0 (pa_cons (pv 2) pa_nil)))) (pw_or1 (pt_not (pt_val (pe_callB (cr_all rfl) (by rfl) B_all (by decide +kernel) (pa_cons (pe_lc (own := [("at", 3)]) rfl nd (pi_sq (pv 2)) (blkOk_by (own := [("at", 3)]) (N := ["lengths", "siding", "markers", "at", "one", "other"]) (sc := defScope s_are_markers) (by decide +kernel)) (fun _ _ _ _ _ => (pg_name (i := 3) nd rfl (by first | exact .inl rfl | exact .inr rfl))) (fun _ _ _ _ _ => pts_nil) (fun _ _ _ _ _ => (pe_call G_is_within (hr.mono (by first | decide | omega)) (by rfl) g_is_within kp_is_within b_is_within .nil pass0 (pa_cons (pv 3) (pa_cons pe_int (pa_cons (pe_op op_sub (pe_callB (callK (r := rLenZ) (K := K) call_lenZ (by rfl)) (by rfl) B_len (by decide +kernel) (pa_cons (pv 0) pa_nil)) pe_int) pa_nil)))))) pa_nil))))))) (pss_one (ps_ret pe_bl)) pss_nil)
    (pss_one (ps_ret (pe_callB (cr_all rfl) (by rfl) B_all (by decide +kernel) (pa_cons (pe_lc (own := [("one", 4), ("other", 5)]) rfl nd (pi_zp (by rfl) B_zip (pa_cons (pv 2) (pa_cons (pe_slice sl_Z (pv 2) (po_some pe_int) po_none) pa_nil))) (blkOk_by (own := [("one", 4), ("other", 5)]) (N := ["lengths", "siding", "markers", "at", "one", "other"]) (sc := defScope s_are_markers) (by decide +kernel)) (fun _ _ _ _ _ => (pg_tupK (K := K) (n := 2) (by rfl) rfl (pgs_cons (pg_name (i := 4) nd rfl (by first | exact .inl rfl | exact .inr rfl)) (pgs_cons (pg_name (i := 5) nd rfl (by first | exact .inl rfl | exact .inr rfl)) pgs_nil)))) (fun _ _ _ _ _ => pts_nil) (fun _ _ _ _ _ => (pe_cmpR op_gtZ (pe_callB (callK (r := rSumZ) (K := K) (call_sumZ rfl) (by rfl)) (by rfl) B_sum (by decide +kernel) (pa_cons (pe_slice (slK (r := rSlZ) (K := K) sl_Z (by rfl)) (pv 0) (po_some (pv 4)) (po_some (pe_op (opK (r := rAddZ) (K := K) op_addZ (by rfl)) (pv 5) pe_int))) pa_nil)) (pv 1) (nomark _)))) pa_nil))))))), fun rs L q x h => ?_⟩
    obtain ⟨xs, S, G, rfl, hx, h0, h1, h2, hG, hq⟩ := h
    have hx1 := hx.1
    have hA := good_asc hG
    have hl := asc_len hA
    have hml : (nI (0 :: G)).length ≤ 1000 := by
      rw [nI_len, List.length_cons]
      omega
    have hmp : (nI (0 :: G)).Pairwise (· < ·) := nI_asc (.cons (fun c hc => (asc_mem hA c hc).1) (asc_pair hA))
    repeat walk_at "z"
    refine ⟨hx, ?_⟩
    repeat walk_at "z"
    refine ⟨h1, h2, ?_⟩
    repeat walk_at "z"
    refine ⟨hml, hmp, ?_⟩
    repeat walk_at "z"
    refine cp_lcM Nat ?_ gown_name
    refine ci_sq ?_
    repeat walk_at "z"
    refine ⟨_, .tup _, by rw [List.length_map]; exact sz _ (by omega), 0 :: G, natD, fun c => some (.bool true), ?_, fun c hc acc a ha => ?_, ?_⟩
    · unfold dI nI
      rw [List.map_map]
      rfl
    · have hm : c < xs.length := by
        rcases List.mem_cons.mp hc with e | e
        · omega
        · exact (asc_mem hA c e).2
      refine cg_name ⟨rfl, ct_yes ⟨rfl, ite_t ?_⟩⟩
      repeat walk_at "z"
      rw [List.length_map]
      have e : wi (natD c) 0 ((xs.length : Int) - 1) = true := wi_ok (by omega) (by omega)
      rw [e]
      exact ⟨rfl, _, rfl, rfl⟩
    · repeat walk_at "z"
      rw [fm_bool]
      refine cd_all ?_
      have e : ((0 :: G).map fun _ : Nat => true).all id = true := by
        rw [List.all_map, List.all_eq_true]
        exact fun _ _ => rfl
      rw [e]
      repeat walk_at "z"
      refine cp_lcM (Nat × Nat) ?_ gown_tup2
      refine ci_zp ?_
      repeat walk_at "z"
      rw [drop_nI]
      refine ⟨_, _, _, _, rfl, .tup _, .tup _, ?_, (0 :: G).zip ((0 :: G).drop 1), fun p => .tuple [.int (p.1 : Int), .int (p.2 : Int)], fun p => some (.bool true), zip_nats _ _, fun p hp acc a ha => ?_, ?_⟩
      · rw [zip_nats, List.length_map, List.length_zip, List.length_cons]
        exact sz _ (by omega)
      · obtain ⟨b1, b2, b3⟩ := good_mark hG p hp
        refine cg_tup2 ⟨rfl, ct_yes ⟨rfl, ite_t ?_⟩⟩
        repeat walk_at "z"
        have ec : Z.cutD (dI xs) (some (p.1 : Int)) (some ((p.2 : Int) + 1)) = dI ((xs.drop p.1).take (p.2 + 1 - p.1)) := by
          have := cutN (dI xs) p.1 (p.2 + 1) (by rw [List.length_map]; omega) (by rw [List.length_map]; omega)
          rw [show ((p.2 + 1 : Nat) : Int) = (p.2 : Int) + 1 from rfl] at this
          rw [this]
          unfold dI
          rw [List.map_take, List.map_drop]
        rw [ec]
        refine cd_sumZ_tup ?_
        repeat walk_at "z"
        have e : decide (S < ((xs.drop p.1).take (p.2 + 1 - p.1)).sum) = true := decide_eq_true (by
          have := seg_pre (xs := xs) (a := p.1) (b := p.2 + 1) (by omega)
          unfold seg at this
          omega)
        rw [e]
        exact ⟨rfl, _, rfl, rfl⟩
      · repeat walk_at "z"
        rw [fm_bool]
        refine cd_all ?_
        have e : (((0 :: G).zip ((0 :: G).drop 1)).map fun _ : Nat × Nat => true).all id = true := by
          rw [List.all_map, List.all_eq_true]
          exact fun _ _ => rfl
        rw [e]
        exact rt_dat hq
abbrev s_check_parts : Stmt := top 22
theorem sc_check_parts : FnScope ["lengths", "k"] ["lengths", "k"] (defScope s_check_parts) := ⟨rfl, rfl, rfl, by decide +kernel, rfl, by decide +kernel, by decide +kernel⟩
abbrev ps_check_parts : List Str := ["lengths", "k"]
def dCheckP : DSp := fun rs L k _ => ∃ (xs : List Int) (n : Nat), rs = [.dat (tI xs), .dat (.int (n : Int))] ∧ okL xs ∧ 0 < n ∧ n ≤ xs.length ∧ k (.dat .none) L
theorem ok_check_parts {f : Addr} {fd : FuncData} (D : DefAt K mg "check_parts" s_check_parts ps_check_parts f fd) {cN : Addr} (E_NotRight : ErrAt K mg "NotRight" cN) (B_len : mg "len" = none) (H_1 : Has P w K mg base 1 "is_within" ps_is_within dWithin) : Has P w K mg base 2 "check_parts" ps_check_parts dCheckP := by
  obtain ⟨_, _, g_is_within, kp_is_within, b_is_within, G_is_within⟩ := H_1
  refine ⟨f, fd, D.g, D.F.kp, D.b, fn_z D.F sc_check_parts (fun rs L k x h => ?_) fun cdv A outer s H E hr => ?_⟩
  · obtain ⟨ns, C, rfl, _⟩ := h
    rfl
  · have nd := sc_check_parts.nd
    refine ⟨_, (pss_one (ps_if (pt_not (pt_val (pe_call G_is_within (hr.mono (by first | decide | omega)) (by rfl) g_is_within kp_is_within b_is_within .nil pass0 (pa_cons (pv 1) (pa_cons pe_int (pa_cons (pe_callB call_lenZ (by rfl) B_len (by decide +kernel) (pa_cons (pv 0) pa_nil)) pa_nil)))))) (pss_one (ps_raise rfl (takes0) (pmk_own PySem.F.excBase_ValueError E_NotRight.x E_NotRight.g E_NotRight.k (raises_own E_NotRight.s1 E_NotRight.s2) (by rfl)))) pss_nil)), fun rs L q x h => ?_⟩
    obtain ⟨xs, n, rfl, hx, h1, h2, hq⟩ := h
    have hb : wi (.int (n : Int)) 1 (xs.length : Int) = true := wi_ok (by omega) (by omega)
    repeat walk_at "z"
    rw [List.length_map, hb]
    repeat walk_at "z"
    exact rt_dat hq
abbrev s_least_siding : Stmt := top 23
theorem sc_least_siding : FnScope ["lengths", "k", "low", "high", "middle"] ["lengths", "k"] (defScope s_least_siding) := ⟨rfl, rfl, rfl, by decide +kernel, rfl, by decide +kernel, by decide +kernel⟩
abbrev ps_least_siding : List Str := ["lengths", "k"]
def dLeast : DSp := fun rs L k _ => ∃ (xs : List Int) (n : Nat), rs = [.dat (tI xs), .dat (.int (n : Int))] ∧ okL xs ∧ 0 < xs.length ∧ 0 < n ∧ k (.dat (.int (least xs n))) L
theorem ok_least_siding {f : Addr} {fd : FuncData} (D : DefAt K mg "least_siding" s_least_siding ps_least_siding f fd) (B_len : mg "len" = none) (B_max : mg "max" = none) (B_sum : mg "sum" = none) (H_1 : Has P w K mg base 1 "greedy" ps_greedy dGreedy) : Has P w K mg base 2 "least_siding" ps_least_siding dLeast := by
  obtain ⟨_, _, g_greedy, kp_greedy, b_greedy, G_greedy⟩ := H_1
  refine ⟨f, fd, D.g, D.F.kp, D.b, fn_z D.F sc_least_siding (fun rs L k x h => ?_) fun cdv A outer s H E hr => ?_⟩
  · obtain ⟨ns, C, rfl, _⟩ := h
    rfl
  · have nd := sc_least_siding.nd
    refine ⟨_, (pss_cons (ps_par (i := 2) (j := 3) (by rfl) nd rfl rfl (by decide) rfl rfl (pa_cons (pe_callB (call_maxZ rfl) (by rfl) B_max (by decide +kernel) (pa_cons (pv 0) pa_nil)) (pa_cons (pe_callB (call_sumZ rfl) (by rfl) B_sum (by decide +kernel) (pa_cons (pv 0) pa_nil)) pa_nil)) (by rfl))
    (pss_cons (ps_while PassesOwn.never (pt_cmpR op_ltZ (pv 2) (pv 3) (nomark _)) (pss_cons (ps_set (i := 4) nd rfl (by first | exact .inl rfl | exact .inr rfl) (pe_op op_fdivW (pe_op op_addZ (pv 2) (pv 3)) pe_int))
      (pss_one (ps_if (pt_cmpR op_ltZ (pe_callB call_lenZ (by rfl) B_len (by decide +kernel) (pa_cons (pe_call G_greedy (hr.mono (by first | decide | omega)) (by rfl) g_greedy kp_greedy b_greedy .nil pass0 (pa_cons (pv 0) (pa_cons (pv 4) pa_nil))) pa_nil)) (pv 1) (nomark _)) (pss_one (ps_set (i := 3) nd rfl (by first | exact .inl rfl | exact .inr rfl) (pv 4))) (pss_one (ps_set (i := 2) nd rfl (by first | exact .inl rfl | exact .inr rfl) (pe_op op_addZ (pv 4) pe_int)))))))
    (pss_one (ps_ret (pv 2))))), fun rs L q x h => ?_⟩
    obtain ⟨xs, n, rfl, hx, h0, hn, hq⟩ := h
    have hms := max_sum hx h0
    repeat walk_at "z"
    refine cd_max_tup h0 ?_
    repeat walk_at "z"
    refine cd_sumZ_tup ?_
    repeat walk_at "z"
    refine hs_while (fun ε' L' => ∃ (l h : Int) (x4 : Option Rs), l ≤ h ∧ bsR (cG xs) n (h - l).toNat l h = least xs n ∧ ε' = [some (.dat (tI xs)), some (.dat (.int (n : Int))), some (.dat (.int l)), some (.dat (.int h)), x4] ∧ L' = L) (fun ε' L' => match ε' with
      | [_, _, some (.dat (.int l)), some (.dat (.int h)), _] => (h - l).toNat
      | _ => 0) ⟨_, _, _, hms, rfl, rfl, rfl⟩ ?_
    rintro ε' L' ⟨l, h, x4, hlh, hb, rfl, rfl⟩
    repeat walk_at "z"
    refine ite_b (fun hc => ?_) fun hc => ?_
    · have hc := of_decide_eq_true hc
      have e1 : (h - l).toNat = (h - l).toNat - 1 + 1 := by omega
      rw [e1] at hb
      unfold bsR at hb
      rw [if_pos hc] at hb
      repeat walk_at "z"
      refine ⟨hx, ?_⟩
      repeat walk_at "z"
      rw [List.length_map, nI_len]
      refine ite_b (fun hd => ?_) fun hd => ?_
      · have hd := of_decide_eq_true hd
        have hd : cG xs ((l + h) / 2) < n := by
          unfold cG
          omega
        rw [if_pos hd, bsR_fuel _ _ _ ((l + h) / 2 - l).toNat _ _ (by omega) (by omega)] at hb
        repeat walk_at "z"
        refine ⟨⟨l, (l + h) / 2, _, by omega, hb, rfl, rfl⟩, ?_⟩
        show ((l + h) / 2 - l).toNat < (h - l).toNat
        omega
      · have hd := of_decide_eq_false hd
        have hd : ¬ cG xs ((l + h) / 2) < n := by
          unfold cG
          omega
        rw [if_neg hd, bsR_fuel _ _ _ (h - ((l + h) / 2 + 1)).toNat _ _ (by omega) (by omega)] at hb
        repeat walk_at "z"
        refine ⟨⟨(l + h) / 2 + 1, h, _, by omega, hb, rfl, rfl⟩, ?_⟩
        show (h - ((l + h) / 2 + 1)).toNat < (h - l).toNat
        omega
    · have hc := of_decide_eq_false hc
      have e1 : h - l = 0 := by omega
      rw [e1] at hb
      have hb : l = least xs n := hb
      rw [← hb] at hq
      repeat walk_at "z"
      exact rt_dat hq
abbrev s_best_length : Stmt := top 24
theorem sc_best_length : FnScope ["lengths", "k"] ["lengths", "k"] (defScope s_best_length) := ⟨rfl, rfl, rfl, by decide +kernel, rfl, by decide +kernel, by decide +kernel⟩
abbrev ps_best_length : List Str := ["lengths", "k"]
theorem ok_best_length {f : Addr} {fd : FuncData} (D : DefAt K mg "best_length" s_best_length ps_best_length f fd) (H_1 : Has P w K mg base 3 "check_lengths" ps_check_lengths dCheckL) (H_2 : Has P w K mg base 2 "check_parts" ps_check_parts dCheckP) (H_3 : Has P w K mg base 2 "least_siding" ps_least_siding dLeast) : Has P w K mg base 4 "best_length" ps_best_length (fun rs L k _ => ∃ (xs : List Int) (n : Nat), rs = [.dat (tI xs), .dat (.int (n : Int))] ∧ okL xs ∧ 0 < xs.length ∧ 0 < n ∧ n ≤ xs.length ∧ k (.dat (.int (least xs n))) L) := by
  obtain ⟨_, _, g_check_lengths, kp_check_lengths, b_check_lengths, G_check_lengths⟩ := H_1
  obtain ⟨_, _, g_check_parts, kp_check_parts, b_check_parts, G_check_parts⟩ := H_2
  obtain ⟨_, _, g_least_siding, kp_least_siding, b_least_siding, G_least_siding⟩ := H_3
  refine ⟨f, fd, D.g, D.F.kp, D.b, fn_z D.F sc_best_length (fun rs L k x h => ?_) fun cdv A outer s H E hr => ?_⟩
  · obtain ⟨ns, C, rfl, _⟩ := h
    rfl
  · have nd := sc_best_length.nd
    refine ⟨_, (pss_cons (ps_expr (pe_call G_check_lengths (hr.mono (by first | decide | omega)) (by rfl) g_check_lengths kp_check_lengths b_check_lengths .nil pass0 (pa_cons (pv 0) pa_nil)))
    (pss_cons (ps_expr (pe_call G_check_parts (hr.mono (by first | decide | omega)) (by rfl) g_check_parts kp_check_parts b_check_parts .nil pass0 (pa_cons (pv 0) (pa_cons (pv 1) pa_nil))))
    (pss_one (ps_ret (pe_call G_least_siding (hr.mono (by first | decide | omega)) (by rfl) g_least_siding kp_least_siding b_least_siding .nil pass0 (pa_cons (pv 0) (pa_cons (pv 1) pa_nil))))))), fun rs L q x h => ?_⟩
    obtain ⟨xs, n, rfl, hx, h0, h1, h2, hq⟩ := h
    repeat walk_at "z"
    refine ⟨hx, ?_⟩
    repeat walk_at "z"
    first | refine ⟨hx, h1, h2, ?_⟩ | refine ⟨_, n, rfl, hx, h1, h2, ?_⟩
    repeat walk_at "z"
    first | exact ⟨hx, h0, h1, rt_dat hq⟩ | exact ⟨_, n, rfl, hx, h0, h1, rt_dat hq⟩
abbrev s_best_cutting : Stmt := top 25
theorem sc_best_cutting : FnScope ["lengths", "k", "cutting", "more", "at"] ["lengths", "k"] (defScope s_best_cutting) := ⟨rfl, rfl, rfl, by decide +kernel, rfl, by decide +kernel, by decide +kernel⟩
abbrev ps_best_cutting : List Str := ["lengths", "k"]
def dBest : DSp := fun rs L k _ => ∃ (xs : List Int) (n : Nat), rs = [.dat (tI xs), .dat (.int (n : Int))] ∧ okL xs ∧ 0 < xs.length ∧ 0 < n ∧ n ≤ xs.length ∧ k (.dat (tI (nI (bestL xs.length n (greedy xs (least xs n)))))) L
theorem mem_nI (C : List Nat) (c : Nat) : decide ((c : Int) ∈ nI C) = decide (c ∈ C) := by
  have : ((c : Int) ∈ nI C) ↔ c ∈ C := by
    unfold nI
    rw [List.mem_map]
    exact ⟨fun ⟨a, h, e⟩ => by rw [← Int.ofNat.inj e]; exact h, fun h => ⟨c, h, rfl⟩⟩
  by_cases h : c ∈ C
  · rw [decide_eq_true h, decide_eq_true (this.mpr h)]
  · rw [decide_eq_false h, decide_eq_false fun z => h (this.mp z)]
theorem rng_nats (a m : Nat) : rng (a : Int) m = (List.range' a m).map natD := by
  unfold rng
  rw [List.range'_eq_map_range, List.map_map]
  refine List.map_congr_left fun i _ => ?_
  show PyData.int ((a : Int) + (i : Int)) = PyData.int ((a + i : Nat) : Int)
  rw [Int.natCast_add]
theorem ok_best_cutting {f : Addr} {fd : FuncData} (D : DefAt K mg "best_cutting" s_best_cutting ps_best_cutting f fd) (B_len : mg "len" = none) (B_range : mg "range" = none) (B_sorted : mg "sorted" = none) (B_tuple : mg "tuple" = none) (H_1 : Has P w K mg base 3 "check_lengths" ps_check_lengths dCheckL) (H_2 : Has P w K mg base 2 "check_parts" ps_check_parts dCheckP) (H_3 : Has P w K mg base 2 "least_siding" ps_least_siding dLeast) (H_4 : Has P w K mg base 1 "greedy" ps_greedy dGreedy) : Has P w K mg base 4 "best_cutting" ps_best_cutting dBest := by
  obtain ⟨_, _, g_check_lengths, kp_check_lengths, b_check_lengths, G_check_lengths⟩ := H_1
  obtain ⟨_, _, g_check_parts, kp_check_parts, b_check_parts, G_check_parts⟩ := H_2
  obtain ⟨_, _, g_least_siding, kp_least_siding, b_least_siding, G_least_siding⟩ := H_3
  obtain ⟨_, _, g_greedy, kp_greedy, b_greedy, G_greedy⟩ := H_4
  refine ⟨f, fd, D.g, D.F.kp, D.b, fn_z D.F sc_best_cutting (fun rs L k x h => ?_) fun cdv A outer s H E hr => ?_⟩
  · obtain ⟨ns, C, rfl, _⟩ := h
    rfl
  · have nd := sc_best_cutting.nd
    refine ⟨_, (pss_cons (ps_expr (pe_call G_check_lengths (hr.mono (by first | decide | omega)) (by rfl) g_check_lengths kp_check_lengths b_check_lengths .nil pass0 (pa_cons (pv 0) pa_nil)))
    (pss_cons (ps_expr (pe_call G_check_parts (hr.mono (by first | decide | omega)) (by rfl) g_check_parts kp_check_parts b_check_parts .nil pass0 (pa_cons (pv 0) (pa_cons (pv 1) pa_nil))))
    (pss_cons (ps_set (i := 2) nd rfl (by first | exact .inl rfl | exact .inr rfl) (pe_call G_greedy (hr.mono (by first | decide | omega)) (by rfl) g_greedy kp_greedy b_greedy .nil pass0 (pa_cons (pv 0) (pa_cons (pe_call G_least_siding (hr.mono (by first | decide | omega)) (by rfl) g_least_siding kp_least_siding b_least_siding .nil pass0 (pa_cons (pv 0) (pa_cons (pv 1) pa_nil))) pa_nil))))
    (pss_cons (ps_setLc (i := 3) (own := [("at", 4)]) rfl nd rfl rfl (sw_true rfl rfl rfl (by decide +kernel)) (pi_range2 (by rfl) B_range (pa_cons pe_int (pa_cons (pe_callB call_lenZ (by rfl) B_len (by decide +kernel) (pa_cons (pv 0) pa_nil)) pa_nil))) (blkOk_by (own := [("at", 4)]) (N := ["lengths", "k", "cutting", "more", "at"]) (sc := defScope s_best_cutting) (by decide +kernel)) (fun _ _ _ _ _ => (pg_name (i := 4) nd rfl (by first | exact .inl rfl | exact .inr rfl))) (fun _ _ _ _ _ => (pts_one (pt_cmpR (opK (r := rNotInZ) (K := K) op_notInZ (by rfl)) (pv 4) (pv 2) (by rfl)))) (fun _ _ _ _ _ => (pv 4)))
    (pss_one (ps_ret (pe_callTy call_tupleZ (by rfl) B_tuple (by decide +kernel) (pa_cons (pe_callB cr_sortedI (by rfl) B_sorted (by decide +kernel) (pa_cons (pe_lst (StX.pa_star (pv 2) (StX.pa_star (pe_slice sl_Z (pv 3) po_none (po_some (pe_op op_sub (pe_op op_sub (pv 1) pe_int) (pe_callB call_lenZ (by rfl) B_len (by decide +kernel) (pa_cons (pv 2) pa_nil))))) pa_nil))) pa_nil)) pa_nil)))))))), fun rs L q x h => ?_⟩
    obtain ⟨xs, n, rfl, hx, h0, h1, h2, hq⟩ := h
    have hx1 := hx.1
    obtain ⟨l1, l2, l3, l4⟩ := least_ok hx h0 h1
    have hmp := max_pos hx h0
    have hcl := cutting_len hx h0 l1
    have hA := good_asc (greedy_good (below l1) (by omega))
    have hBL := bestL_ok hA l4 h2
    generalize hGe : greedy xs (least xs n) = G at hcl hA hBL hq
    have l4 : G.length < n := by
      rw [← hGe]
      exact l4
    repeat walk_at "z"
    refine ⟨hx, ?_⟩
    repeat walk_at "z"
    first | refine ⟨hx, h1, h2, ?_⟩ | refine ⟨_, n, rfl, hx, h1, h2, ?_⟩
    repeat walk_at "z"
    first | refine ⟨hx, h0, h1, ?_⟩ | refine ⟨_, n, rfl, hx, h0, h1, ?_⟩
    repeat walk_at "z"
    refine ⟨hx, ?_⟩
    rw [hGe]
    repeat walk_at "z"
    refine cp_lcM Nat ?_ gown_name
    refine ci_range2 ?_
    repeat walk_at "z"
    rw [List.length_map]
    have hrm : ((xs.length : Int) - 1).toNat = xs.length - 1 := by omega
    have er : rng 1 ((xs.length : Int) - 1).toNat = (List.range' 1 (xs.length - 1)).map natD := by
      rw [hrm]
      exact rng_nats 1 _
    refine ⟨by omega, ?_, List.range' 1 (xs.length - 1), natD, fun c => if (!decide (c ∈ G)) = true then some (natD c) else none, er, fun c hc acc a ha => ?_, ?_⟩
    · rw [rng_len, hrm]
      exact sz _ (by omega)
    · refine cg_name ⟨rfl, ?_⟩
      repeat walk_at "z"
      refine od_notIn_tup (i := (c : Int)) (ns := nI G) ?_
      rw [mem_nI]
      refine ⟨_, rfl, rfl, ite_b (fun hc => ?_) fun hc => ?_⟩
      · repeat walk_at "z"
        exact ⟨rfl, _, rfl, if_pos hc⟩
      · exact if_neg (by rw [hc]; decide)
    · rw [fm_if]
      have em : (((List.range' 1 (xs.length - 1)).filter fun c => !decide (c ∈ G)).map natD) = dI (nI (more xs.length G)) := by
        unfold dI nI more
        rw [List.map_map]
        rfl
      rw [em]
      repeat walk_at "z"
      refine ca_star ?_
      repeat walk_at "z"
      refine ⟨_, .inr rfl, ?_⟩
      refine ca_star ?_
      repeat walk_at "z"
      rw [List.length_map, nI_len]
      have ec : Z.cutD (dI (nI (more xs.length G))) none (some ((n : Int) - 1 - (G.length : Int))) = dI (nI ((more xs.length G).take (n - 1 - G.length))) := by
        have e : (n : Int) - 1 - (G.length : Int) = ((n - 1 - G.length : Nat) : Int) := by omega
        rw [e]
        unfold Z.cutD
        rw [HT.sIx_none, HT.sIx_nat, List.drop_zero, Nat.sub_zero]
        unfold dI nI
        rw [List.length_map, List.length_map, ← List.map_take, ← List.map_take]
        congr 2
        by_cases hle : n - 1 - G.length ≤ (more xs.length G).length
        · rw [Nat.min_eq_left hle]
        · rw [Nat.min_eq_right (by omega), List.take_length, List.take_of_length_le (by omega)]
      rw [ec]
      refine ⟨_, .inl rfl, ?_⟩
      repeat walk_at "z"
      have ml : (more xs.length G).length ≤ 300 := by
        unfold more
        have := List.length_filter_le (fun c => !decide (c ∈ G)) (List.range' 1 (xs.length - 1))
        rw [List.length_range'] at this
        omega
      have ea : dI (nI (G ++ (more xs.length G).take (n - 1 - G.length))) = dI (nI G) ++ dI (nI ((more xs.length G).take (n - 1 - G.length))) := by
        unfold dI nI
        rw [List.map_append, List.map_append]
      refine ⟨dI (nI (G ++ (more xs.length G).take (n - 1 - G.length))), ?_, ?_, ?_⟩
      · rw [ea, List.append_nil, List.map_append]
      · rw [List.length_map, nI_len, List.length_append, List.length_take]
        exact szl _ (by omega)
      · repeat walk_at "z"
        refine cd_sortedI (ms := nI (bestL xs.length n G)) (List.Perm.map _ hBL.1) (List.pairwise_map.mpr ((asc_pair hBL.2.1).imp fun h => by omega)) ?_
        repeat walk_at "z"
        exact rt_dat hq

end
end W06

set_option Elab.async false
set_option linter.all false
set_option maxRecDepth 100000
set_option maxHeartbeats 4000000
namespace W06
open PySem PySem.Spec PyProof.Rows L2 Z
local macro_rules | `(tactic| walk_at "z") => `(tactic| first
  | with_reducible refine hs_seq ?_
  | with_reducible refine hs_asg ?_
  | with_reducible refine hs_ret ?_
  | with_reducible refine hs_if ?_
  | with_reducible refine hs_drop ?_
  | with_reducible refine hs_next ?_
  | ((with_reducible refine cp_var (r := ?zr) ?zh ?_); (case zh => exact rfl))
  | with_reducible refine cp_int ?_
  | with_reducible refine cp_str ?_
  | with_reducible refine cp_bl ?_
  | with_reducible refine cp_non ?_
  | with_reducible refine cp_ref ?_
  | with_reducible refine cp_ty ?_
  | with_reducible refine cp_op ?_
  | with_reducible refine cp_un ?_
  | with_reducible refine cp_cb ?_
  | with_reducible refine ca_nil ?_
  | with_reducible refine ca_cons ?_
  | with_reducible refine cp_andV ?_
  | with_reducible refine cp_orV ?_
  | with_reducible refine cp_notV ?_
  | with_reducible refine cp_if ?_
  | with_reducible refine cp_call ?_
  | with_reducible refine cp_callS ?_
  | with_reducible refine ct_test ?_
  | with_reducible refine ct_b ?_
  | with_reducible refine ct_and ?_
  | with_reducible refine ct_or ?_
  | with_reducible refine ct_not ?_
  | with_reducible refine ct_yes ?_
  | with_reducible refine cg_name ?_
  | with_reducible refine hs_par ?_
  | with_reducible refine hs_par3 ?_
  | ((with_reducible refine hs_aug (x := ?zx) ?zh ?_); (case zh => exact rfl))
  | with_reducible refine cp_chain ?_
  | with_reducible refine cp_sl ?_
  | with_reducible refine co_none ?_
  | with_reducible refine co_some ?_
  | refine sd_tup ?_
  | refine sd_lst ?_
  | refine od_ip_add ?_
  | refine od_ip_sub ?_
  | refine cd_tup_lst ?_
  | refine cd_list_tup ?_
  | refine cd_list_lst ?_
  | refine cd_max2 ?_
  | refine ⟨_, _, _, rfl, ?_⟩
  | with_reducible refine cp_lst ?_
  | with_reducible refine cp_tup ?_
  | refine cp_bm ?_
  | refine cp_bm0 ?_
  | refine ⟨(show rsTy _ (Rs.own _) _ from rfl), ?_⟩
  | refine ⟨(show rsTy _ (Rs.dat _) _ from ⟨rfl, by decide⟩), ?_⟩
  | refine od_add_int ?_
  | refine od_sub ?_
  | refine od_lt_int ?_
  | refine od_gt ?_
  | refine od_le ?_
  | refine od_ge ?_
  | refine od_eq_int ?_
  | refine od_eq_str ?_
  | refine od_eq_bool ?_
  | refine od_ne_int ?_
  | refine od_ne_str ?_
  | refine od_ne_bool ?_
  | refine od_mod (by decide) ?_
  | refine od_pow ⟨by decide, by decide, by decide⟩ ?_
  | refine od_fdiv ⟨by decide, by decide⟩ ?_
  | refine od_mulY_int (.inr ⟨by decide, by decide⟩) ?_
  | refine od_mulY_int (.inl ⟨by decide, by decide⟩) ?_
  | refine od_in_sign ?_
  | refine od_notIn_sign ?_
  | refine od_is_bool ?_
  | refine od_isNot_bool ?_
  | refine od_is_none ?_
  | refine od_isNot_none ?_
  | refine cd_len_lst ?_
  | refine cd_len_tup ?_
  | refine cd_int_int ?_
  | refine cd_int_bool ?_
  | refine cd_abs ?_
  | refine cd_neg ?_
  | refine cd_isi (by decide) ?_
  | refine ⟨_, rfl, ?_⟩
  | refine ⟨_, _, rfl, ?_⟩
  | refine ⟨[], rfl, szl _ (Nat.le_trans (Nat.le_of_eq (show _ = 0 from rfl)) (by decide)), ?_⟩
  | refine ⟨[_], rfl, szl _ (Nat.le_trans (Nat.le_of_eq (show _ = 1 from rfl)) (by decide)), ?_⟩
  | refine ⟨[_, _], rfl, szl _ (Nat.le_trans (Nat.le_of_eq (show _ = 2 from rfl)) (by decide)), ?_⟩
  | refine ⟨[_, _, _], rfl, szl _ (Nat.le_trans (Nat.le_of_eq (show _ = 3 from rfl)) (by decide)), ?_⟩
  | refine ⟨[_, _, _, _], rfl, szl _ (Nat.le_trans (Nat.le_of_eq (show _ = 4 from rfl)) (by decide)), ?_⟩
  | refine ⟨[_, _, _, _, _], rfl, szl _ (Nat.le_trans (Nat.le_of_eq (show _ = 5 from rfl)) (by decide)), ?_⟩
  | refine ⟨[_, _, _, _, _, _], rfl, szl _ (Nat.le_trans (Nat.le_of_eq (show _ = 6 from rfl)) (by decide)), ?_⟩
  | refine ⟨[_, _, _, _, _, _, _], rfl, szl _ (Nat.le_trans (Nat.le_of_eq (show _ = 7 from rfl)) (by decide)), ?_⟩
  | refine ⟨[_, _, _, _, _, _, _, _], rfl, szl _ (Nat.le_trans (Nat.le_of_eq (show _ = 8 from rfl)) (by decide)), ?_⟩
  | refine ⟨[_, _, _, _, _, _, _, _, _], rfl, szl _ (Nat.le_trans (Nat.le_of_eq (show _ = 9 from rfl)) (by decide)), ?_⟩
  | with_reducible refine ite_t ?_
  | refine ite_t ?_
  | refine ite_f ?_)
section
variable {P : Program} {w : World} {K : PySem.W.Frag} {mg : Str → Option Value} {base : Heap}
def Aw (xs : List Int) (S : Int) (i j : Nat) : Int := if pre xs j - pre xs i ≤ S then 1 else 0
theorem Aw_zero {xs : List Int} (hx : okL xs) {S : Int} {i j a b : Nat} (h : S < pre xs b - pre xs a) (h1 : i ≤ a) (h2 : b ≤ j) : Aw xs S i j = 0 := by
  have q1 := pre_mono hx h1
  have q2 := pre_mono hx h2
  exact if_neg (by omega)
theorem gd_app {cs : List Int} {f : Int} {j : Nat} (h : j < cs.length) : (cs ++ [f]).getD j 0 = cs.getD j 0 := by
  rw [List.getD_eq_getElem?_getD, List.getD_eq_getElem?_getD, List.getElem?_append_left h]
theorem gd_new {cs : List Int} {f : Int} : (cs ++ [f]).getD cs.length 0 = f := by
  rw [List.getD_eq_getElem?_getD, List.getElem?_append_right (Nat.le_refl _), Nat.sub_self]
  rfl
theorem gd_at {cs : List Int} {j : Nat} (h : j < cs.length) : (dI cs)[j]? = some (.int (cs.getD j 0)) := by
  unfold dI
  rw [List.getElem?_map, List.getD_eq_getElem?_getD, List.getElem?_eq_getElem h]
  rfl
theorem dI_app (cs : List Int) (f : Int) : dI cs ++ [PyData.int f] = dI (cs ++ [f]) := by
  unfold dI
  rw [List.map_append]
  rfl
abbrev s_count_cuttings : Stmt := top 26
theorem sc_count_cuttings : FnScope ["lengths", "siding", "counts", "end", "found", "whole", "start"] ["lengths", "siding"] (defScope s_count_cuttings) := ⟨rfl, rfl, rfl, by decide +kernel, rfl, by decide +kernel, by decide +kernel⟩
abbrev ps_count_cuttings : List Str := ["lengths", "siding"]
def dCount : DSp := fun rs L k _ => ∃ (xs : List Int) (S : Int), rs = [.dat (tI xs), .dat (.int S)] ∧ okL xs ∧ 1 ≤ S ∧ S ≤ 1000000 ∧
  ∀ F : Nat → Int, F 0 = 1 → (∀ j, 0 < j → j ≤ xs.length → F j = sumN j fun i => F i * Aw xs S i j) → k (.dat (.int (F xs.length))) L
theorem ok_count_cuttings {f : Addr} {fd : FuncData} (D : DefAt K mg "count_cuttings" s_count_cuttings ps_count_cuttings f fd) (B_len : mg "len" = none) (B_range : mg "range" = none) (H_1 : Has P w K mg base 3 "check_lengths" ps_check_lengths dCheckL) (H_2 : Has P w K mg base 2 "check_siding" ps_check_siding dCheckS) : Has P w K mg base 4 "count_cuttings" ps_count_cuttings dCount := by
  obtain ⟨_, _, g_check_lengths, kp_check_lengths, b_check_lengths, G_check_lengths⟩ := H_1
  obtain ⟨_, _, g_check_siding, kp_check_siding, b_check_siding, G_check_siding⟩ := H_2
  refine ⟨f, fd, D.g, D.F.kp, D.b, fn_z D.F sc_count_cuttings (fun rs L k x h => ?_) fun cdv A outer s H E hr => ?_⟩
  · obtain ⟨ns, C, rfl, _⟩ := h
    rfl
  · have nd := sc_count_cuttings.nd
    refine ⟨_, (pss_cons (ps_expr (pe_call G_check_lengths (hr.mono (by first | decide | omega)) (by rfl) g_check_lengths kp_check_lengths b_check_lengths .nil pass0 (pa_cons (pv 0) pa_nil)))
    (pss_cons (ps_expr (pe_call G_check_siding (hr.mono (by first | decide | omega)) (by rfl) g_check_siding kp_check_siding b_check_siding .nil pass0 (pa_cons (pv 1) pa_nil)))
    (pss_cons (ps_set (i := 2) nd rfl (by first | exact .inl rfl | exact .inr rfl) (pe_lst (pa_cons pe_int pa_nil)))
    (pss_cons (ps_for PassesOwn.never rfl (pi_range2 (by rfl) B_range (pa_cons pe_int (pa_cons (pe_op op_addZ (pe_callB call_lenZ (by rfl) B_len (by decide +kernel) (pa_cons (pv 0) pa_nil)) pe_int) pa_nil))) (pg_name (i := 3) nd rfl (by first | exact .inl rfl | exact .inr rfl))
      (pss_cons (ps_par3 (i := 4) (j := 5) (l := 6) (by rfl) nd rfl rfl rfl (by decide) (by decide) (by decide) rfl rfl rfl (pa_cons pe_int (pa_cons pe_int (pa_cons (pv 3) pa_nil))) (by rfl))
      (pss_cons (ps_while PassesOwn.never (PW.pt (pw_and (pt_cmpR op_gtZ (pv 6) pe_int (nomark _)) (pw_and1 (pt_cmpR op_leZ (pe_op op_addZ (pv 5) (pe_ix ix_seq (pv 0) (pe_op op_sub (pv 6) pe_int) (fun _ _ => rfl))) (pv 1) (nomark _))))) (pss_cons (ps_aug (i := 6) nd rfl (by first | exact .inl rfl | exact .inr rfl) pe_int ip_sub)
        (pss_cons (ps_aug (i := 5) nd rfl (by first | exact .inl rfl | exact .inr rfl) (pe_ix ix_seq (pv 0) (pv 6) (fun _ _ => rfl)) ip_add)
        (pss_one (ps_aug (i := 4) nd rfl (by first | exact .inl rfl | exact .inr rfl) (pe_ix ix_seq (pv 2) (pv 6) (fun _ _ => rfl)) ip_add)))))
      (pss_one (ps_expr (pe_bm PySem.F.plainAttrs_list PySem.F.slot_list_append PySem.F.type_list_append mt_append (pv 2) (pa_cons (pv 4) pa_nil)))))))
    (pss_one (ps_ret (pe_ix ix_seq (pv 2) (pe_un un_neg pe_int) (fun _ _ => rfl)))))))), fun rs L q x h => ?_⟩
    obtain ⟨xs, S, rfl, hx, h1, h2, hq⟩ := h
    have hx1 := hx.1
    repeat walk_at "z"
    refine ⟨hx, ?_⟩
    repeat walk_at "z"
    refine ⟨h1, h2, ?_⟩
    refine hs_seq ?_
    refine hs_asg ?_
    refine cp_lstO ?_
    repeat walk_at "z"
    intro p hp
    refine hs_seq ?_
    refine hs_for ?_
    refine ci_range2 ?_
    repeat walk_at "z"
    rw [List.length_map]
    refine ⟨by omega, fun i ε' L' => ∃ (cs : List Int) (x3 x4 x5 x6 : Option Rs), cs.length = i + 1 ∧ cs.getD 0 0 = 1 ∧ (∀ j, 0 < j → j ≤ i → cs.getD j 0 = sumN j fun t => cs.getD t 0 * Aw xs S t j) ∧ ε' = [some (.dat (tI xs)), some (.dat (.int S)), some (.own p), x3, x4, x5, x6] ∧ L' = plus L p (dI cs), ⟨[1], _, _, _, _, rfl, rfl, fun j h1 h2 => by omega, rfl, rfl⟩, ?_, ?_⟩
    · rintro i d ε' L' hd ⟨cs, x3, x4, x5, x6, hcl, hc0, hcj, rfl, rfl⟩
      obtain ⟨rfl, hi⟩ := rng_get hd
      have hi : i < xs.length := by omega
      have ee : (1 : Int) + (i : Int) = ((i + 1 : Nat) : Int) := by omega
      rw [ee]
      refine cg_name ?_
      repeat walk_at "z"
      refine hs_whileJ (fun ε' L' => ∃ (x5 x6 : Option Rs), ε' = [some (.dat (tI xs)), some (.dat (.int S)), some (.own p), some (.dat (.int ((i + 1 : Nat) : Int))), some (.dat (.int (sumN (i + 1) fun t => cs.getD t 0 * Aw xs S t (i + 1)))), x5, x6] ∧ L' = plus L p (dI cs))
        (fun ε' L' => ∃ (f : Int) (s : Nat), s ≤ i + 1 ∧ f + sumN s (fun t => cs.getD t 0 * Aw xs S t (i + 1)) = sumN (i + 1) (fun t => cs.getD t 0 * Aw xs S t (i + 1)) ∧ ε' = [some (.dat (tI xs)), some (.dat (.int S)), some (.own p), some (.dat (.int ((i + 1 : Nat) : Int))), some (.dat (.int f)), some (.dat (.int (pre xs (i + 1) - pre xs s))), some (.dat (.int (s : Int)))] ∧ L' = plus L p (dI cs))
        (fun ε' L' => match ε' with
          | [_, _, _, _, _, _, some (.dat (.int s))] => s.toNat
          | _ => 0) ⟨0, i + 1, Nat.le_refl _, by omega, by rw [Int.sub_self]; rfl, rfl⟩ ?_ ?_
      · rintro ε' L' ⟨f, s, hs, hf, rfl, rfl⟩
        repeat walk_at "z"
        refine ite_b (fun hc => ?_) fun hc => ?_
        · have hc := of_decide_eq_true hc
          have hs0 : 0 < s := by omega
          have es : (s : Int) - 1 = ((s - 1 : Nat) : Int) := by omega
          have hsl : s - 1 < xs.length := by omega
          have ey : xs[s - 1]? = some xs[s - 1] := List.getElem?_eq_getElem hsl
          generalize xs[s - 1] = y at ey
          have ey2 : (dI xs)[s - 1]? = some (.int y) := by
            unfold dI
            rw [List.getElem?_map, ey]
            rfl
          have hp2 := pre_succ ey
          rw [show s - 1 + 1 = s by omega] at hp2
          have e3 : (sumN s fun t => cs.getD t 0 * Aw xs S t (i + 1)) = (sumN (s - 1) fun t => cs.getD t 0 * Aw xs S t (i + 1)) + cs.getD (s - 1) 0 * Aw xs S (s - 1) (i + 1) := by
            have : s = s - 1 + 1 := by omega
            rw [this]
            rfl
          repeat walk_at "z"
          refine od_ix_tup (d := .int y) (by rw [es]; exact atI_nat ey2) ?_
          repeat walk_at "z"
          refine ite_b (fun hd => ?_) fun hd => ?_
          · have hd := of_decide_eq_true hd
            have e4 : Aw xs S (s - 1) (i + 1) = 1 := if_pos (by omega)
            rw [e4, Int.mul_one] at e3
            repeat walk_at "z"
            refine od_ix_tup (d := .int y) (by rw [es]; exact atI_nat ey2) ?_
            repeat walk_at "z"
            refine od_ix_own (d := .int (cs.getD (s - 1) 0)) plus_mem (by rw [es]; exact atI_nat (gd_at (by omega))) ?_
            repeat walk_at "z"
            refine ⟨⟨f + cs.getD (s - 1) 0, s - 1, by omega, by omega, ?_, rfl⟩, ?_⟩
            · rw [show pre xs (i + 1) - pre xs (s - 1) = pre xs (i + 1) - pre xs s + y by omega, ← es]
              rfl
            · show ((s : Int) - 1).toNat < (s : Int).toNat
              omega
          · have hd := of_decide_eq_false hd
            have e5 : (sumN s fun t => cs.getD t 0 * Aw xs S t (i + 1)) = 0 := sumN_zero fun t ht => by
              rw [Aw_zero hx (a := s - 1) (b := i + 1) (by omega) (by omega) (Nat.le_refl _), Int.mul_zero]
            rw [e5, Int.add_zero] at hf
            rw [← hf]
            repeat walk_at "z"
            first | exact rfl | exact ⟨_, _, rfl, rfl⟩
        · have hc := of_decide_eq_false hc
          have hs0 : s = 0 := by omega
          subst hs0
          have hf : f + 0 = _ := hf
          rw [Int.add_zero] at hf
          rw [← hf]
          repeat walk_at "z"
          first | exact rfl | exact ⟨_, _, rfl, rfl⟩
      · rintro ε' L' ⟨x5, x6, rfl, rfl⟩
        repeat walk_at "z"
        refine md_append plus_mem (sz _ (by rw [List.length_map]; omega)) ?_
        rw [up_plus hp, dI_app]
        repeat walk_at "z"
        refine ⟨_, _, _, _, _, by rw [List.length_append, hcl]; rfl, by rw [gd_app (by omega)]; exact hc0, fun j j1 j2 => ?_, rfl, rfl⟩
        have key : ∀ m, m ≤ i + 1 → (sumN m fun t => (cs ++ [sumN (i + 1) fun t => cs.getD t 0 * Aw xs S t (i + 1)]).getD t 0 * Aw xs S t j) = sumN m fun t => cs.getD t 0 * Aw xs S t j := fun m hm => sumN_congr fun t ht => by rw [gd_app (by omega)]
        by_cases hj : j ≤ i
        · rw [gd_app (by omega), hcj j j1 hj, key j (by omega)]
        · have ej : j = i + 1 := by omega
          subst ej
          rw [key (i + 1) (Nat.le_refl _), ← hcl, gd_new]
    · rintro ε' L' ⟨cs, x3, x4, x5, x6, hcl, hc0, hcj, rfl, rfl⟩
      have er : (rng 1 ((xs.length : Int) + 1 - 1).toNat).length = xs.length := by
        rw [rng_len]
        omega
      rw [er] at hcl hcj
      have hqq := hq (fun j => cs.getD j 0) hc0 hcj
      repeat walk_at "z"
      refine od_ix_own (d := .int (cs.getD xs.length 0)) plus_mem (at_last ?_) ?_
      · rw [List.length_map, hcl]
        exact gd_at (by omega)
      · exact rt_plus hqq

end
end W06

set_option Elab.async false
set_option linter.all false
set_option maxRecDepth 100000
set_option maxHeartbeats 4000000
namespace W06
open PySem PySem.Spec PyProof.Rows L2 Z
local macro_rules | `(tactic| walk_at "z") => `(tactic| first
  | with_reducible refine hs_seq ?_
  | with_reducible refine hs_asg ?_
  | refine hs_asgT2 ?_
  | with_reducible refine hs_ret ?_
  | with_reducible refine hs_if ?_
  | with_reducible refine hs_drop ?_
  | with_reducible refine hs_next ?_
  | ((with_reducible refine cp_var (r := ?zr) ?zh ?_); (case zh => exact rfl))
  | with_reducible refine cp_int ?_
  | with_reducible refine cp_str ?_
  | with_reducible refine cp_bl ?_
  | with_reducible refine cp_non ?_
  | with_reducible refine cp_ref ?_
  | with_reducible refine cp_ty ?_
  | with_reducible refine cp_op ?_
  | with_reducible refine cp_un ?_
  | with_reducible refine cp_cb ?_
  | with_reducible refine ca_nil ?_
  | with_reducible refine ca_cons ?_
  | with_reducible refine cp_andV ?_
  | with_reducible refine cp_orV ?_
  | with_reducible refine cp_notV ?_
  | with_reducible refine cp_if ?_
  | with_reducible refine cp_call ?_
  | with_reducible refine cp_callS ?_
  | with_reducible refine ct_test ?_
  | with_reducible refine ct_b ?_
  | with_reducible refine ct_and ?_
  | with_reducible refine ct_or ?_
  | with_reducible refine ct_not ?_
  | with_reducible refine ct_yes ?_
  | with_reducible refine cg_name ?_
  | refine cg_tup2 ?_
  | with_reducible refine hs_par ?_
  | with_reducible refine hs_par3 ?_
  | ((with_reducible refine hs_aug (x := ?zx) ?zh ?_); (case zh => exact rfl))
  | with_reducible refine cp_chain ?_
  | with_reducible refine cp_sl ?_
  | with_reducible refine co_none ?_
  | with_reducible refine co_some ?_
  | refine sd_tup ?_
  | refine sd_lst ?_
  | refine od_ip_add ?_
  | refine od_ip_sub ?_
  | refine cd_tup_lst ?_
  | refine cd_list_tup ?_
  | refine cd_list_lst ?_
  | refine cd_max2 ?_
  | refine ⟨_, _, _, rfl, ?_⟩
  | with_reducible refine cp_lst ?_
  | with_reducible refine cp_tup ?_
  | refine cp_bm ?_
  | refine cp_bm0 ?_
  | refine ⟨(show rsTy _ (Rs.own _) _ from rfl), ?_⟩
  | refine ⟨(show rsTy _ (Rs.dat _) _ from ⟨rfl, by decide⟩), ?_⟩
  | refine od_add_int ?_
  | refine od_sub ?_
  | refine od_lt_int ?_
  | refine od_gt ?_
  | refine od_le ?_
  | refine od_ge ?_
  | refine od_eq_int ?_
  | refine od_eq_str ?_
  | refine od_eq_bool ?_
  | refine od_ne_int ?_
  | refine od_ne_str ?_
  | refine od_ne_bool ?_
  | refine od_mod (by decide) ?_
  | refine od_pow ⟨by decide, by decide, by decide⟩ ?_
  | refine od_fdiv ⟨by decide, by decide⟩ ?_
  | refine od_mulY_int (.inr ⟨by decide, by decide⟩) ?_
  | refine od_mulY_int (.inl ⟨by decide, by decide⟩) ?_
  | refine od_in_sign ?_
  | refine od_notIn_sign ?_
  | refine od_is_bool ?_
  | refine od_isNot_bool ?_
  | refine od_is_none ?_
  | refine od_isNot_none ?_
  | refine cd_len_lst ?_
  | refine cd_len_tup ?_
  | refine cd_int_int ?_
  | refine cd_int_bool ?_
  | refine cd_abs ?_
  | refine cd_neg ?_
  | refine cd_isi (by decide) ?_
  | refine ⟨_, rfl, ?_⟩
  | refine ⟨_, _, rfl, ?_⟩
  | refine ⟨[], rfl, szl _ (Nat.le_trans (Nat.le_of_eq (show _ = 0 from rfl)) (by decide)), ?_⟩
  | refine ⟨[_], rfl, szl _ (Nat.le_trans (Nat.le_of_eq (show _ = 1 from rfl)) (by decide)), ?_⟩
  | refine ⟨[_, _], rfl, szl _ (Nat.le_trans (Nat.le_of_eq (show _ = 2 from rfl)) (by decide)), ?_⟩
  | refine ⟨[_, _, _], rfl, szl _ (Nat.le_trans (Nat.le_of_eq (show _ = 3 from rfl)) (by decide)), ?_⟩
  | refine ⟨[_, _, _, _], rfl, szl _ (Nat.le_trans (Nat.le_of_eq (show _ = 4 from rfl)) (by decide)), ?_⟩
  | refine ⟨[_, _, _, _, _], rfl, szl _ (Nat.le_trans (Nat.le_of_eq (show _ = 5 from rfl)) (by decide)), ?_⟩
  | refine ⟨[_, _, _, _, _, _], rfl, szl _ (Nat.le_trans (Nat.le_of_eq (show _ = 6 from rfl)) (by decide)), ?_⟩
  | refine ⟨[_, _, _, _, _, _, _], rfl, szl _ (Nat.le_trans (Nat.le_of_eq (show _ = 7 from rfl)) (by decide)), ?_⟩
  | refine ⟨[_, _, _, _, _, _, _, _], rfl, szl _ (Nat.le_trans (Nat.le_of_eq (show _ = 8 from rfl)) (by decide)), ?_⟩
  | refine ⟨[_, _, _, _, _, _, _, _, _], rfl, szl _ (Nat.le_trans (Nat.le_of_eq (show _ = 9 from rfl)) (by decide)), ?_⟩
  | with_reducible refine ite_t ?_
  | refine ite_t ?_
  | refine ite_f ?_)
section
variable {P : Program} {w : World} {K : PySem.W.Frag} {mg : Str → Option Value} {base : Heap}
abbrev s__law_is_cutting : Stmt := top 33
theorem sc__law_is_cutting : FnScope ["lengths", "cutting", "at", "k"] ["lengths", "cutting"] (defScope s__law_is_cutting) := ⟨rfl, rfl, rfl, by decide +kernel, rfl, by decide +kernel, by decide +kernel⟩
abbrev ps__law_is_cutting : List Str := ["lengths", "cutting"]
theorem ok__law_is_cutting {f : Addr} {fd : FuncData} (D : DefAt K mg "_law_is_cutting" s__law_is_cutting ps__law_is_cutting f fd) (B_isinstance : mg "isinstance" = none) (B_tuple : mg "tuple" = none) (B_bool : mg "bool" = none) (B_int : mg "int" = none) (B_len : mg "len" = none) (B_range : mg "range" = none) : Has P w K mg base 1 "_law_is_cutting" ps__law_is_cutting dIsCut := by
  refine ⟨f, fd, D.g, D.F.kp, D.b, fn_z D.F sc__law_is_cutting (fun rs L k x h => ?_) fun cdv A outer s H E hr => ?_⟩
  · obtain ⟨ns, C, rfl, _⟩ := h
    rfl
  · have nd := sc__law_is_cutting.nd
    refine ⟨_, (pss_cons (ps_if (PW.pt (pw_or (pt_not (pt_val (pe_callB call_isi (by rfl) B_isinstance (by decide +kernel) (pa_cons (pv 1) (pa_cons (pe_bltn (v := .ty "tuple") (by rfl) B_tuple (by decide +kernel) rfl) pa_nil))))) (pw_or1 (pt_cmpR (op_neZ hr.units) (pe_lc (own := [("at", 2)]) rfl nd (pi_sq (pv 1)) (blkOk_by (own := [("at", 2)]) (N := ["lengths", "cutting", "at", "k"]) (sc := defScope s__law_is_cutting) (by decide +kernel)) (fun _ _ _ _ _ => (pg_name (i := 2) nd rfl (by first | exact .inl rfl | exact .inr rfl))) (fun _ _ _ _ _ => (pts_one (PW.pt (pw_or (pt_val (pe_callB (callK (r := rIsi) (K := K) call_isi (by rfl)) (by rfl) B_isinstance (by decide +kernel) (pa_cons (pv 2) (pa_cons (pe_bltn (v := .ty "bool") (by rfl) B_bool (by decide +kernel) rfl) pa_nil)))) (pw_or (pt_not (pt_val (pe_callB (callK (r := rIsi) (K := K) call_isi (by rfl)) (by rfl) B_isinstance (by decide +kernel) (pa_cons (pv 2) (pa_cons (pe_bltn (v := .ty "int") (by rfl) B_int (by decide +kernel) rfl) pa_nil))))) (pw_or1 (pt_not (pt_chain op_leZ op_ltZ pe_int (pv 2) (pe_callB (callK (r := rLenZ) (K := K) call_lenZ (by rfl)) (by rfl) B_len (by decide +kernel) (pa_cons (pv 0) pa_nil)))))))))) (fun _ _ _ _ _ => (pv 2))) (pe_lst pa_nil) (nomark _))))) (pss_one (ps_ret pe_bl)) pss_nil)
    (pss_one (ps_ret (pe_cmpR (op_eqZ hr.units) (pe_lc (own := [("k", 3)]) rfl nd (pi_range1 (by rfl) B_range (pa_cons (pe_op op_sub (pe_callB call_lenZ (by rfl) B_len (by decide +kernel) (pa_cons (pv 1) pa_nil)) pe_int) pa_nil)) (blkOk_by (own := [("k", 3)]) (N := ["lengths", "cutting", "at", "k"]) (sc := defScope s__law_is_cutting) (by decide +kernel)) (fun _ _ _ _ _ => (pg_name (i := 3) nd rfl (by first | exact .inl rfl | exact .inr rfl))) (fun _ _ _ _ _ => (pts_one (pt_not (pt_cmpR op_ltZ (pe_ix (ixK (r := rIx) (K := K) ix_seq (by rfl)) (pv 1) (pv 3) (fun _ _ => rfl)) (pe_ix (ixK (r := rIx) (K := K) ix_seq (by rfl)) (pv 1) (pe_op (opK (r := rAddZ) (K := K) op_addZ (by rfl)) (pv 3) pe_int) (fun _ _ => rfl)) (nomark _))))) (fun _ _ _ _ _ => (pv 3))) (pe_lst pa_nil) (nomark _))))), fun rs L q x h => ?_⟩
    obtain ⟨xs, C, rfl, hx, hC, hq⟩ := h
    have hl := asc_len hC
    have hx1 := hx.1
    have hpw := asc_pair hC
    repeat walk_at "z"
    refine cp_lcM Nat ?_ gown_name
    refine ci_sq ?_
    repeat walk_at "z"
    refine ⟨_, .tup _, ?_, C, natD, fun c => none, ?_, fun c hc acc a ha => ?_, ?_⟩
    · rw [List.length_map, nI_len]
      exact sz _ (by omega)
    · unfold dI nI
      rw [List.map_map]
      rfl
    · have hm := asc_mem hC c hc
      refine cg_name ⟨rfl, ?_⟩
      repeat walk_at "z"
      have e1 : decide ((1 : Int) ≤ (c : Int)) = true := decide_eq_true (by omega)
      rw [e1]
      repeat walk_at "z"
      rw [List.length_map]
      have e2 : decide ((c : Int) < (xs.length : Int)) = true := decide_eq_true (by omega)
      rw [e2]
      repeat walk_at "z"
      exact ⟨rfl, rfl⟩
    · have en : C.filterMap (fun _ => (none : Option PyData)) = [] := List.filterMap_eq_nil_iff.mpr fun _ _ => rfl
      rw [en]
      repeat walk_at "z"
      refine od_ne_deep ⟨rfl, rfl, rfl, rfl⟩ ?_
      repeat walk_at "z"
      refine cp_lcM Nat ?_ gown_name
      refine ci_range1 ?_
      repeat walk_at "z"
      rw [List.length_map, nI_len]
      have hrm : ((C.length : Int) - 1).toNat = C.length - 1 := by omega
      refine ⟨by omega, by rw [rng_len]; exact sz _ (by omega), List.range' 0 (C.length - 1), natD, fun c => none, by rw [hrm]; exact rng_nats 0 _, fun c hc acc a ha => ?_, ?_⟩
      · have hc := List.mem_range'_1.mp hc
        have c1 : c < C.length := by omega
        have c2 : c + 1 < C.length := by omega
        have a1 : (dI (nI C))[c]? = some (.int ((C[c] : Nat) : Int)) := by
          unfold dI nI
          rw [List.getElem?_map, List.getElem?_map, List.getElem?_eq_getElem c1]
          rfl
        have a2 : (dI (nI C))[c + 1]? = some (.int ((C[c + 1] : Nat) : Int)) := by
          unfold dI nI
          rw [List.getElem?_map, List.getElem?_map, List.getElem?_eq_getElem c2]
          rfl
        have hlt : C[c] < C[c + 1] := List.pairwise_iff_getElem.mp hpw c (c + 1) c1 c2 (Nat.lt_succ_self c)
        refine cg_name ⟨rfl, ?_⟩
        repeat walk_at "z"
        refine od_ix_tup (atI_nat a1) ?_
        repeat walk_at "z"
        refine od_ix_tup (d := .int ((C[c + 1] : Nat) : Int)) (by exact atI_nat (j := c + 1) a2) ?_
        repeat walk_at "z"
        have e1 : decide (((C[c] : Nat) : Int) < ((C[c + 1] : Nat) : Int)) = true := decide_eq_true (by omega)
        rw [e1]
        exact ⟨rfl, rfl⟩
      · have en : (List.range' 0 (C.length - 1)).filterMap (fun _ => (none : Option PyData)) = [] := List.filterMap_eq_nil_iff.mpr fun _ _ => rfl
        rw [en]
        repeat walk_at "z"
        refine od_eq_deep ⟨rfl, rfl, rfl, rfl⟩ ?_
        exact rt_dat hq
abbrev s__law_parts : Stmt := top 34
theorem sc__law_parts : FnScope ["lengths", "cutting", "ends", "k"] ["lengths", "cutting"] (defScope s__law_parts) := ⟨rfl, rfl, rfl, by decide +kernel, rfl, by decide +kernel, by decide +kernel⟩
abbrev ps__law_parts : List Str := ["lengths", "cutting"]
theorem parts_rng (xs : List Int) (C : List Nat) : ((List.range' 0 (C.length + 1)).map fun i => seg xs ((ends xs.length C).getD i 0) ((ends xs.length C).getD (i + 1) 0)) = parts xs C := by
  have h := parts_zip xs C 0
  unfold parts
  rw [← h]
  have key : ∀ E : List Nat, (List.range' 0 (E.length - 1)).map (fun i => seg xs (E.getD i 0) (E.getD (i + 1) 0)) = (E.zip (E.drop 1)).map fun p : Nat × Nat => seg xs p.1 p.2 := by
    intro E
    apply List.ext_getElem?
    intro i
    rw [List.getElem?_map, List.getElem?_map]
    by_cases hi : i < E.length - 1
    · have h1 : i < E.length := by omega
      have h2 : i + 1 < E.length := by omega
      have hz : (E.zip (E.drop 1))[i]? = some (E[i], E[i + 1]) := List.getElem?_zip_eq_some.mpr ⟨List.getElem?_eq_getElem h1, by rw [List.getElem?_drop, Nat.add_comm]; exact List.getElem?_eq_getElem h2⟩
      rw [List.getElem?_range' hi, hz]
      show some (seg xs (E.getD (0 + 1 * i) 0) (E.getD (0 + 1 * i + 1) 0)) = some (seg xs E[i] E[i + 1])
      rw [show 0 + 1 * i = i by omega, List.getD_eq_getElem?_getD, List.getD_eq_getElem?_getD, List.getElem?_eq_getElem h1, List.getElem?_eq_getElem h2]
      rfl
    · rw [List.getElem?_eq_none (by rw [List.length_range']; omega), List.getElem?_eq_none (by rw [List.length_zip, List.length_drop]; omega)]
      rfl
  have := key (ends xs.length C)
  rw [show (ends xs.length C).length - 1 = C.length + 1 by unfold ends; rw [List.length_append, List.length_cons, List.length_singleton]; omega] at this
  exact this
theorem ok__law_parts {f : Addr} {fd : FuncData} (D : DefAt K mg "_law_parts" s__law_parts ps__law_parts f fd) (B_list : mg "list" = none) (B_len : mg "len" = none) (B_range : mg "range" = none) (B_sum : mg "sum" = none) : Has P w K mg base 1 "_law_parts" ps__law_parts dParts := by
  refine ⟨f, fd, D.g, D.F.kp, D.b, fn_z D.F sc__law_parts (fun rs L k x h => ?_) fun cdv A outer s H E hr => ?_⟩
  · obtain ⟨ns, C, rfl, _⟩ := h
    rfl
  · have nd := sc__law_parts.nd
    refine ⟨_, (pss_cons (ps_set (i := 2) nd rfl (by first | exact .inl rfl | exact .inr rfl) (pe_op op_addZ (pe_op op_addZ (pe_lst (pa_cons pe_int pa_nil)) (pe_callTy call_listZ (by rfl) B_list (by decide +kernel) (pa_cons (pv 1) pa_nil))) (pe_lst (pa_cons (pe_callB call_lenZ (by rfl) B_len (by decide +kernel) (pa_cons (pv 0) pa_nil)) pa_nil))))
    (pss_one (ps_ret (pe_lc (own := [("k", 3)]) rfl nd (pi_range1 (by rfl) B_range (pa_cons (pe_op op_sub (pe_callB call_lenZ (by rfl) B_len (by decide +kernel) (pa_cons (pv 2) pa_nil)) pe_int) pa_nil)) (blkOk_by (own := [("k", 3)]) (N := ["lengths", "cutting", "ends", "k"]) (sc := defScope s__law_parts) (by decide +kernel)) (fun _ _ _ _ _ => (pg_name (i := 3) nd rfl (by first | exact .inl rfl | exact .inr rfl))) (fun _ _ _ _ _ => pts_nil) (fun _ _ _ _ _ => (pe_callB (callK (r := rSumZ) (K := K) (call_sumZ rfl) (by rfl)) (by rfl) B_sum (by decide +kernel) (pa_cons (pe_slice (slK (r := rSlZ) (K := K) sl_Z (by rfl)) (pv 0) (po_some (pe_ix (ixK (r := rIx) (K := K) ix_seq (by rfl)) (pv 2) (pv 3) (fun _ _ => rfl))) (po_some (pe_ix (ixK (r := rIx) (K := K) ix_seq (by rfl)) (pv 2) (pe_op (opK (r := rAddZ) (K := K) op_addZ (by rfl)) (pv 3) pe_int) (fun _ _ => rfl)))) pa_nil))))))), fun rs L q x h => ?_⟩
    obtain ⟨xs, C, rfl, hx, h0, hC, hq⟩ := h
    have hl := asc_len hC
    have hx1 := hx.1
    repeat walk_at "z"
    refine od_add_lst (szl _ (by rw [List.length_map, nI_len, List.length_singleton]; omega)) ?_
    repeat walk_at "z"
    refine od_add_lst (szl _ (by rw [List.length_append, List.length_map, nI_len, List.length_singleton, List.length_singleton]; omega)) ?_
    rw [List.length_map]
    have ee : [PyData.int 0] ++ dI (nI C) ++ [PyData.int (xs.length : Int)] = dI (nI (ends xs.length C)) := by
      unfold ends dI nI
      simp
    rw [ee]
    repeat walk_at "z"
    have eE : (ends xs.length C).length = C.length + 2 := by
      unfold ends
      rw [List.length_append, List.length_cons, List.length_singleton]
    refine cp_lcM Nat ?_ gown_name
    refine ci_range1 ?_
    repeat walk_at "z"
    rw [List.length_map, nI_len, eE]
    have hrm : (((C.length + 2 : Nat) : Int) - 1).toNat = C.length + 1 := by omega
    refine ⟨by omega, by rw [rng_len]; exact sz _ (by omega), List.range' 0 (C.length + 1), natD, fun i => some (.int (seg xs ((ends xs.length C).getD i 0) ((ends xs.length C).getD (i + 1) 0))), by rw [hrm]; exact rng_nats 0 _, fun c hc acc a ha => ?_, ?_⟩
    · have hc := List.mem_range'_1.mp hc
      have gE : ∀ j, j < C.length + 2 → (dI (nI (ends xs.length C)))[j]? = some (.int (((ends xs.length C).getD j 0 : Nat) : Int)) ∧ (ends xs.length C).getD j 0 ≤ xs.length := fun j hj => by
        have hj2 : j < (ends xs.length C).length := by omega
        refine ⟨?_, ?_⟩
        · unfold dI nI
          rw [List.getElem?_map, List.getElem?_map, List.getD_eq_getElem?_getD, List.getElem?_eq_getElem hj2]
          rfl
        · rw [List.getD_eq_getElem?_getD, List.getElem?_eq_getElem hj2]
          exact ends_le hC _ (List.getElem_mem hj2)
      obtain ⟨g1, g2⟩ := gE c (by omega)
      obtain ⟨g3, g4⟩ := gE (c + 1) (by omega)
      generalize h1e : (ends xs.length C).getD c 0 = ea at g1 g2
      generalize h2e : (ends xs.length C).getD (c + 1) 0 = eb at g3 g4
      refine cg_name ⟨rfl, ct_yes ⟨rfl, ite_t ?_⟩⟩
      repeat walk_at "z"
      refine od_ix_lst (atI_nat g1) ?_
      repeat walk_at "z"
      refine od_ix_lst (d := .int (eb : Int)) (by exact atI_nat (j := c + 1) g3) ?_
      repeat walk_at "z"
      have ec : Z.cutD (dI xs) (some (ea : Int)) (some (eb : Int)) = dI ((xs.drop ea).take (eb - ea)) := by
        rw [cutN _ _ _ (by rw [List.length_map]; exact g2) (by rw [List.length_map]; exact g4)]
        unfold dI
        rw [List.map_take, List.map_drop]
      rw [ec]
      refine cd_sumZ_tup ?_
      refine ⟨rfl, _, rfl, ?_⟩
      show some (PyData.int (seg xs ((ends xs.length C).getD c 0) ((ends xs.length C).getD (c + 1) 0))) = _
      rw [h1e, h2e]
      rfl
    · rw [fm_int, parts_rng]
      exact rt_dat hq
abbrev s__law_fewest : Stmt := top 35
theorem sc__law_fewest : FnScope ["lengths", "siding", "parts", "whole", "length"] ["lengths", "siding"] (defScope s__law_fewest) := ⟨rfl, rfl, rfl, by decide +kernel, rfl, by decide +kernel, by decide +kernel⟩
abbrev ps__law_fewest : List Str := ["lengths", "siding"]
def dLFew : DSp := fun rs L k _ => ∃ (xs : List Int) (S : Int), rs = [.dat (tI xs), .dat (.int S)] ∧ k (.dat (.int (fewest xs S))) L
theorem ok__law_fewest {f : Addr} {fd : FuncData} (D : DefAt K mg "_law_fewest" s__law_fewest ps__law_fewest f fd) : Has P w K mg base 1 "_law_fewest" ps__law_fewest dLFew := by
  refine ⟨f, fd, D.g, D.F.kp, D.b, fn_z D.F sc__law_fewest (fun rs L k x h => ?_) fun cdv A outer s H E hr => ?_⟩
  · obtain ⟨ns, C, rfl, _⟩ := h
    rfl
  · have nd := sc__law_fewest.nd
    refine ⟨_, (pss_cons (ps_asg (pe_tup (pa_cons pe_int (pa_cons pe_int pa_nil))) (pg_tup (n := 2) rfl (pgs_cons (pg_name (i := 2) nd rfl (by first | exact .inl rfl | exact .inr rfl)) (pgs_cons (pg_name (i := 3) nd rfl (by first | exact .inl rfl | exact .inr rfl)) pgs_nil))))
    (pss_cons (ps_for PassesOwn.never rfl (pi_sq (pv 0)) (pg_name (i := 4) nd rfl (by first | exact .inl rfl | exact .inr rfl))
      (pss_cons (ps_if (pt_cmpR op_gtZ (pe_op op_addZ (pv 3) (pv 4)) (pv 1) (nomark _)) (pss_one (ps_par (i := 2) (j := 3) (by rfl) nd rfl rfl (by decide) rfl rfl (pa_cons (pe_op op_addZ (pv 2) pe_int) (pa_cons pe_int pa_nil)) (by rfl))) pss_nil)
      (pss_one (ps_set (i := 3) nd rfl (by first | exact .inl rfl | exact .inr rfl) (pe_op op_addZ (pv 3) (pv 4))))))
    (pss_one (ps_ret (pv 2))))), fun rs L q x h => ?_⟩
    obtain ⟨xs, S, rfl, hq⟩ := h
    repeat walk_at "z"
    refine hs_for ?_
    refine ci_sq ?_
    repeat walk_at "z"
    refine ⟨_, .tup _, fun i ε' L' => ∃ (p w : Int) (x4 : Option Rs), fwf S p w (xs.drop i) = fewest xs S ∧ ε' = [some (.dat (tI xs)), some (.dat (.int S)), some (.dat (.int p)), some (.dat (.int w)), x4] ∧ L' = L, ⟨1, 0, _, rfl, rfl, rfl⟩, ?_, ?_⟩
    · rintro i d ε' L' hd ⟨p, w, x4, hf, rfl, rfl⟩
      obtain ⟨y, hy, rfl⟩ := map_get hd
      have hi : i < xs.length := (List.getElem?_eq_some_iff.mp hy).1
      have hdr : xs.drop i = y :: xs.drop (i + 1) := by
        rw [List.drop_eq_getElem_cons hi]
        congr 1
        have := List.getElem?_eq_getElem hi
        rw [this] at hy
        exact Option.some.inj hy
      rw [hdr] at hf
      unfold fwf at hf
      refine cg_name ?_
      refine hs_seq ?_
      refine hs_ifJ (fun ε' L2 => ∃ (p w : Int), fwf S p (w + y) (xs.drop (i + 1)) = fewest xs S ∧ ε' = [some (.dat (tI xs)), some (.dat (.int S)), some (.dat (.int p)), some (.dat (.int w)), some (.dat (.int y))] ∧ L2 = L') ?_ ?_
      · repeat walk_at "z"
        refine ite_b (fun hc => ?_) fun hc => ?_
        · rw [if_pos (of_decide_eq_true hc)] at hf
          repeat walk_at "z"
          refine ⟨p + 1, 0, ?_, rfl, rfl⟩
          rw [Int.zero_add]
          exact hf
        · rw [if_neg (of_decide_eq_false hc)] at hf
          repeat walk_at "z"
          exact ⟨p, w, hf, rfl, rfl⟩
      · rintro ε' L2 ⟨p, w, hf, rfl, rfl⟩
        repeat walk_at "z"
        exact ⟨p, w + y, _, hf, rfl, rfl⟩
    · rintro ε' L' ⟨p, w, x4, hf, rfl, rfl⟩
      rw [List.length_map, List.drop_length] at hf
      have hf : p = fewest xs S := hf
      subst hf
      repeat walk_at "z"
      exact rt_dat hq

end
end W06

set_option Elab.async false
set_option linter.all false
set_option maxRecDepth 100000
set_option maxHeartbeats 4000000
namespace W06
open PySem PySem.Spec PyProof.Rows L2 Z
local macro_rules | `(tactic| walk_at "z") => `(tactic| first
  | with_reducible refine hs_seq ?_
  | with_reducible refine hs_asg ?_
  | refine hs_asgT2 ?_
  | with_reducible refine hs_ret ?_
  | with_reducible refine hs_if ?_
  | with_reducible refine hs_drop ?_
  | with_reducible refine hs_next ?_
  | ((with_reducible refine cp_var (r := ?zr) ?zh ?_); (case zh => exact rfl))
  | with_reducible refine cp_int ?_
  | with_reducible refine cp_str ?_
  | with_reducible refine cp_bl ?_
  | with_reducible refine cp_non ?_
  | with_reducible refine cp_ref ?_
  | with_reducible refine cp_ty ?_
  | with_reducible refine cp_op ?_
  | with_reducible refine cp_un ?_
  | with_reducible refine cp_cb ?_
  | with_reducible refine ca_nil ?_
  | with_reducible refine ca_cons ?_
  | with_reducible refine cp_andV ?_
  | with_reducible refine cp_orV ?_
  | with_reducible refine cp_notV ?_
  | with_reducible refine cp_if ?_
  | with_reducible refine cp_call ?_
  | with_reducible refine cp_callS ?_
  | with_reducible refine ct_test ?_
  | with_reducible refine ct_b ?_
  | with_reducible refine ct_and ?_
  | with_reducible refine ct_or ?_
  | with_reducible refine ct_not ?_
  | with_reducible refine ct_yes ?_
  | with_reducible refine cg_name ?_
  | refine cg_tup2 ?_
  | with_reducible refine hs_par ?_
  | with_reducible refine hs_par3 ?_
  | ((with_reducible refine hs_aug (x := ?zx) ?zh ?_); (case zh => exact rfl))
  | with_reducible refine cp_chain ?_
  | with_reducible refine cp_sl ?_
  | with_reducible refine co_none ?_
  | with_reducible refine co_some ?_
  | refine sd_tup ?_
  | refine sd_lst ?_
  | refine od_ip_add ?_
  | refine od_ip_sub ?_
  | refine cd_tup_lst ?_
  | refine cd_list_tup ?_
  | refine cd_list_lst ?_
  | refine cd_max2 ?_
  | refine ⟨_, _, _, rfl, ?_⟩
  | with_reducible refine cp_lst ?_
  | with_reducible refine cp_tup ?_
  | refine cp_bm ?_
  | refine cp_bm0 ?_
  | refine ⟨(show rsTy _ (Rs.own _) _ from rfl), ?_⟩
  | refine ⟨(show rsTy _ (Rs.dat _) _ from ⟨rfl, by decide⟩), ?_⟩
  | refine od_add_int ?_
  | refine od_sub ?_
  | refine od_lt_int ?_
  | refine od_gt ?_
  | refine od_le ?_
  | refine od_ge ?_
  | refine od_eq_int ?_
  | refine od_eq_str ?_
  | refine od_eq_bool ?_
  | refine od_ne_int ?_
  | refine od_ne_str ?_
  | refine od_ne_bool ?_
  | refine od_mod (by decide) ?_
  | refine od_pow ⟨by decide, by decide, by decide⟩ ?_
  | refine od_fdiv ⟨by decide, by decide⟩ ?_
  | refine od_mulY_int (.inr ⟨by decide, by decide⟩) ?_
  | refine od_mulY_int (.inl ⟨by decide, by decide⟩) ?_
  | refine od_in_sign ?_
  | refine od_notIn_sign ?_
  | refine od_is_bool ?_
  | refine od_isNot_bool ?_
  | refine od_is_none ?_
  | refine od_isNot_none ?_
  | refine cd_len_lst ?_
  | refine cd_len_tup ?_
  | refine cd_int_int ?_
  | refine cd_int_bool ?_
  | refine cd_abs ?_
  | refine cd_neg ?_
  | refine cd_isi (by decide) ?_
  | refine ⟨_, rfl, ?_⟩
  | refine ⟨_, _, rfl, ?_⟩
  | refine ⟨[], rfl, szl _ (Nat.le_trans (Nat.le_of_eq (show _ = 0 from rfl)) (by decide)), ?_⟩
  | refine ⟨[_], rfl, szl _ (Nat.le_trans (Nat.le_of_eq (show _ = 1 from rfl)) (by decide)), ?_⟩
  | refine ⟨[_, _], rfl, szl _ (Nat.le_trans (Nat.le_of_eq (show _ = 2 from rfl)) (by decide)), ?_⟩
  | refine ⟨[_, _, _], rfl, szl _ (Nat.le_trans (Nat.le_of_eq (show _ = 3 from rfl)) (by decide)), ?_⟩
  | refine ⟨[_, _, _, _], rfl, szl _ (Nat.le_trans (Nat.le_of_eq (show _ = 4 from rfl)) (by decide)), ?_⟩
  | refine ⟨[_, _, _, _, _], rfl, szl _ (Nat.le_trans (Nat.le_of_eq (show _ = 5 from rfl)) (by decide)), ?_⟩
  | refine ⟨[_, _, _, _, _, _], rfl, szl _ (Nat.le_trans (Nat.le_of_eq (show _ = 6 from rfl)) (by decide)), ?_⟩
  | refine ⟨[_, _, _, _, _, _, _], rfl, szl _ (Nat.le_trans (Nat.le_of_eq (show _ = 7 from rfl)) (by decide)), ?_⟩
  | refine ⟨[_, _, _, _, _, _, _, _], rfl, szl _ (Nat.le_trans (Nat.le_of_eq (show _ = 8 from rfl)) (by decide)), ?_⟩
  | refine ⟨[_, _, _, _, _, _, _, _, _], rfl, szl _ (Nat.le_trans (Nat.le_of_eq (show _ = 9 from rfl)) (by decide)), ?_⟩
  | with_reducible refine ite_t ?_
  | refine ite_t ?_
  | refine ite_f ?_)
section
variable {P : Program} {w : World} {K : PySem.W.Frag} {mg : Str → Option Value} {base : Heap}
theorem gd_set_eq {cs : List Int} {s : Nat} {v : Int} (h : s < cs.length) : (cs.set s v).getD s 0 = v := by
  rw [List.getD_eq_getElem?_getD, List.getElem?_set_self h]
  rfl
theorem gd_set_ne {cs : List Int} {s t : Nat} {v : Int} (h : s ≠ t) : (cs.set s v).getD t 0 = cs.getD t 0 := by
  rw [List.getD_eq_getElem?_getD, List.getD_eq_getElem?_getD, List.getElem?_set_ne h]
theorem dI_set (cs : List Int) (s : Nat) (v : Int) : (dI cs).set s (.int v) = dI (cs.set s v) := by
  unfold dI
  rw [List.map_set]
theorem sumF_zero {F : Nat → Int} : ∀ {c a : Nat}, (∀ t, a ≤ t → t < a + c → F t = 0) → sumF a c F = 0
  | 0, _, _ => rfl
  | c + 1, a, h => by
    unfold sumF
    rw [h a (Nat.le_refl a) (by omega), sumF_zero fun t h1 h2 => h t (by omega) (by omega)]
    rfl
theorem sumF_congr {F G : Nat → Int} : ∀ {c a : Nat}, (∀ t, a ≤ t → t < a + c → F t = G t) → sumF a c F = sumF a c G
  | 0, _, _ => rfl
  | c + 1, a, h => by
    unfold sumF
    rw [h a (Nat.le_refl a) (by omega), sumF_congr fun t h1 h2 => h t (by omega) (by omega)]
theorem ixN_of {n j : Nat} (hj : j < n) : ixN n (j : Int) = some j := by
  have h : (j : Int) < (n : Int) := by omega
  simp [ixN, h]
abbrev s__law_count : Stmt := top 36
theorem sc__law_count : FnScope ["lengths", "siding", "n", "counts", "start", "whole", "end"] ["lengths", "siding"] (defScope s__law_count) := ⟨rfl, rfl, rfl, by decide +kernel, rfl, by decide +kernel, by decide +kernel⟩
abbrev ps__law_count : List Str := ["lengths", "siding"]
def dLCount : DSp := fun rs L k _ => ∃ (xs : List Int) (S : Int), rs = [.dat (tI xs), .dat (.int S)] ∧ okL xs ∧
  ∀ B : Nat → Int, B xs.length = 1 → (∀ i, i < xs.length → B i = sumF (i + 1) (xs.length - i) fun j => Aw xs S i j * B j) → k (.dat (.int (B 0))) L
theorem ok__law_count {f : Addr} {fd : FuncData} (D : DefAt K mg "_law_count" s__law_count ps__law_count f fd) (B_len : mg "len" = none) (B_range : mg "range" = none) : Has P w K mg base 1 "_law_count" ps__law_count dLCount := by
  refine ⟨f, fd, D.g, D.F.kp, D.b, fn_z D.F sc__law_count (fun rs L k x h => ?_) fun cdv A outer s H E hr => ?_⟩
  · obtain ⟨ns, C, rfl, _⟩ := h
    rfl
  · have nd := sc__law_count.nd
    refine ⟨_, (pss_cons (ps_set (i := 2) nd rfl (by first | exact .inl rfl | exact .inr rfl) (pe_callB call_lenZ (by rfl) B_len (by decide +kernel) (pa_cons (pv 0) pa_nil)))
    (pss_cons (ps_set (i := 3) nd rfl (by first | exact .inl rfl | exact .inr rfl) (pe_op op_addZ (pe_op op_mulY (pe_lst (pa_cons pe_int pa_nil)) (pv 2)) (pe_lst (pa_cons pe_int pa_nil))))
    (pss_cons (ps_for PassesOwn.never rfl (pi_range3 (by rfl) B_range (pa_cons (pe_op op_sub (pv 2) pe_int) (pa_cons (pe_un un_neg pe_int) (pa_cons (pe_un un_neg pe_int) pa_nil)))) (pg_name (i := 4) nd rfl (by first | exact .inl rfl | exact .inr rfl))
      (pss_cons (ps_set (i := 5) nd rfl (by first | exact .inl rfl | exact .inr rfl) pe_int)
      (pss_one (ps_for PassesOwn.never rfl (pi_range2 (by rfl) B_range (pa_cons (pe_op op_addZ (pv 4) pe_int) (pa_cons (pe_op op_addZ (pv 2) pe_int) pa_nil))) (pg_name (i := 6) nd rfl (by first | exact .inl rfl | exact .inr rfl))
        (pss_cons (ps_set (i := 5) nd rfl (by first | exact .inl rfl | exact .inr rfl) (pe_op op_addZ (pv 5) (pe_ix ix_seq (pv 0) (pe_op op_sub (pv 6) pe_int) (fun _ _ => rfl))))
        (pss_cons (ps_if (pt_cmpR op_gtZ (pv 5) (pv 1) (nomark _)) (pss_one ps_break) pss_nil)
        (pss_one (ps_asg (pe_op op_addZ (pe_ix ix_seq (pv 3) (pv 4) (fun _ _ => rfl)) (pe_ix ix_seq (pv 3) (pv 6) (fun _ _ => rfl))) (pg_sub (pv 3) (pv 4) set_list)))))))))
    (pss_one (ps_ret (pe_ix ix_seq (pv 3) pe_int (fun _ _ => rfl))))))), fun rs L q x h => ?_⟩
    obtain ⟨xs, S, rfl, hx, hq⟩ := h
    have hx1 := hx.1
    refine hs_seq ?_
    refine hs_asg ?_
    repeat walk_at "z"
    rw [List.length_map]
    refine od_mulY_lst ⟨by omega, by omega, szl _ (by rw [List.length_singleton]; omega)⟩ ?_
    refine cp_lst ?_
    repeat walk_at "z"
    have e0 : (List.replicate (xs.length : Int).toNat [PyData.int 0]).flatten = dI (List.replicate xs.length 0) := by
      rw [Int.toNat_natCast]
      unfold dI
      rw [List.map_replicate]
      induction xs.length with
      | zero => rfl
      | succ n ih =>
        rw [List.replicate_succ, List.replicate_succ, List.flatten_cons, ih]
        rfl
    rw [e0]
    refine od_add_own (szl _ (by rw [List.length_map, List.length_replicate, List.length_singleton]; omega)) fun p hp => ?_
    have e1 : dI (List.replicate xs.length 0) ++ [PyData.int 1] = dI (List.replicate xs.length 0 ++ [1]) := dI_app _ _
    rw [e1]
    refine hs_seq ?_
    refine hs_for ?_
    refine ci_rangeD ?_
    repeat walk_at "z"
    refine ⟨by omega, fun i ε' L' => ∃ (cs : List Int) (x4 x5 x6 : Option Rs), cs.length = xs.length + 1 ∧ cs.getD xs.length 0 = 1 ∧ (∀ s, s < xs.length - i → cs.getD s 0 = 0) ∧ (∀ s, xs.length - i ≤ s → s < xs.length → cs.getD s 0 = sumF (s + 1) (xs.length - s) fun j => Aw xs S s j * cs.getD j 0) ∧
      ε' = [some (.dat (tI xs)), some (.dat (.int S)), some (.dat (.int (xs.length : Int))), some (.own p), x4, x5, x6] ∧ L' = plus L p (dI cs), ⟨_, _, _, _, by rw [List.length_append, List.length_replicate]; rfl, ?_, fun s hs => ?_, fun s h1 h2 => by omega, rfl, rfl⟩, ?_, ?_⟩
    · have := gd_new (cs := List.replicate xs.length 0) (f := 1)
      rw [List.length_replicate] at this
      exact this
    · rw [gd_app (by rw [List.length_replicate]; omega), List.getD_eq_getElem?_getD, List.getElem?_replicate]
      split <;> rfl
    · rintro i d ε' L' hd ⟨cs, x4, x5, x6, hcl, hc1, hc0, hcs, rfl, rfl⟩
      obtain ⟨i', hi', rfl⟩ := map_get hd
      have hi : i < xs.length := by
        have := (List.getElem?_eq_some_iff.mp hi').1
        rw [List.length_range] at this
        omega
      have ei : i' = i := by
        rw [List.getElem?_range (by omega)] at hi'
        exact (Option.some.inj hi').symm
      subst ei
      have es : (xs.length : Int) - 1 + (i' : Int) * (-1) = ((xs.length - 1 - i' : Nat) : Int) := by omega
      rw [es]
      have hs1 : xs.length - 1 - i' < xs.length := by omega
      have hs2 : xs.length - (i' + 1) = xs.length - 1 - i' := by omega
      generalize hse : xs.length - 1 - i' = s at hs1 hs2
      have hcz := hc0 s (by omega)
      refine cg_name ?_
      repeat walk_at "z"
      refine hs_forJ (fun ε' L' => ∃ (x5 x6 : Option Rs), ε' = [some (.dat (tI xs)), some (.dat (.int S)), some (.dat (.int (xs.length : Int))), some (.own p), some (.dat (.int (s : Int))), x5, x6] ∧ L' = plus L p (dI (cs.set s (sumF (s + 1) (xs.length - s) fun j => Aw xs S s j * cs.getD j 0)))) ?_ ?_
      · refine hs_for ?_
        refine ci_range2 ?_
        repeat walk_at "z"
        refine ⟨by omega, fun j ε' L' => ∃ (a : Int) (x6 : Option Rs), s + j ≤ xs.length ∧ a + sumF (s + 1 + j) (xs.length - s - j) (fun j => Aw xs S s j * cs.getD j 0) = sumF (s + 1) (xs.length - s) (fun j => Aw xs S s j * cs.getD j 0) ∧
          ε' = [some (.dat (tI xs)), some (.dat (.int S)), some (.dat (.int (xs.length : Int))), some (.own p), some (.dat (.int (s : Int))), some (.dat (.int (pre xs (s + j) - pre xs s))), x6] ∧ L' = plus L p (dI (cs.set s a)), ⟨0, _, by omega, by rw [Int.zero_add]; rfl, by rw [Nat.add_zero, Int.sub_self]; rfl, ?_⟩, ?_, ?_⟩
        · have e : cs.set s 0 = cs := by
            apply List.ext_getElem?
            intro t
            by_cases ht : s = t
            · subst ht
              rw [List.getElem?_set_self (by omega)]
              rw [List.getD_eq_getElem?_getD, List.getElem?_eq_getElem (show s < cs.length by omega)] at hcz
              rw [List.getElem?_eq_getElem (show s < cs.length by omega)]
              exact congrArg some hcz.symm
            · rw [List.getElem?_set_ne ht]
          rw [e]
        · rintro j d ε' L' hd ⟨a, x6, hj1, ha, rfl, rfl⟩
          obtain ⟨rfl, hj⟩ := rng_get hd
          have hjl : s + j < xs.length := by omega
          have ee : (s : Int) + 1 + (j : Int) = ((s + j + 1 : Nat) : Int) := by omega
          rw [ee]
          have ee2 : ((s + j + 1 : Nat) : Int) - 1 = ((s + j : Nat) : Int) := by omega
          have ey : xs[s + j]? = some xs[s + j] := List.getElem?_eq_getElem hjl
          generalize xs[s + j] = y at ey
          have ey2 : (dI xs)[s + j]? = some (.int y) := by
            unfold dI
            rw [List.getElem?_map, ey]
            rfl
          have hp2 := pre_succ ey
          have ew : pre xs (s + j) - pre xs s + y = pre xs (s + (j + 1)) - pre xs s := by
            rw [show s + (j + 1) = s + j + 1 by omega]
            omega
          have e4 : xs.length - s - j = (xs.length - s - (j + 1)) + 1 := by omega
          rw [e4] at ha
          have ha : a + (Aw xs S s (s + 1 + j) * cs.getD (s + 1 + j) 0 + sumF (s + 1 + (j + 1)) (xs.length - s - (j + 1)) (fun j => Aw xs S s j * cs.getD j 0)) = _ := ha
          refine cg_name ?_
          repeat walk_at "z"
          refine od_ix_tup (d := .int y) (by rw [ee2]; exact atI_nat ey2) ?_
          repeat walk_at "z"
          rw [ew]
          refine ite_b (fun hc => ?_) fun hc => ?_
          · have hc := of_decide_eq_true hc
            have z1 : Aw xs S s (s + 1 + j) = 0 := Aw_zero hx (a := s) (b := s + (j + 1)) hc (Nat.le_refl _) (by omega)
            have z2 : sumF (s + 1 + (j + 1)) (xs.length - s - (j + 1)) (fun j => Aw xs S s j * cs.getD j 0) = 0 := sumF_zero fun t h1 h2 => by
              rw [Aw_zero hx (a := s) (b := s + (j + 1)) hc (Nat.le_refl _) (by omega), Int.zero_mul]
            rw [z1, z2, Int.zero_mul, Int.add_zero, Int.add_zero] at ha
            rw [← ha]
            refine hs_brk ?_
            exact ⟨_, _, rfl, rfl⟩
          · have hc := of_decide_eq_false hc
            have z1 : Aw xs S s (s + 1 + j) = 1 := if_pos (by rw [show s + 1 + j = s + (j + 1) by omega]; omega)
            rw [z1, Int.one_mul] at ha
            repeat walk_at "z"
            refine hs_setL ?_
            repeat walk_at "z"
            refine od_ix_own (d := .int a) plus_mem (atI_nat (j := s) ?_) ?_
            · rw [gd_at (by rw [List.length_set]; omega), gd_set_eq (by omega)]
            · repeat walk_at "z"
              refine od_ix_own (d := .int (cs.getD (s + 1 + j) 0)) plus_mem (atI_nat (j := s + j + 1) ?_) ?_
              · rw [gd_at (by rw [List.length_set]; omega), gd_set_ne (by omega), show s + j + 1 = s + 1 + j by omega]
              · repeat walk_at "z"
                refine ⟨_, (s : Int), s, rfl, plus_mem, ixN_of (by rw [List.length_map, List.length_set]; omega), ?_⟩
                rw [up_plus hp, dI_set, List.set_set]
                exact ⟨a + cs.getD (s + 1 + j) 0, _, by omega, by omega, rfl, rfl⟩
        · rintro ε' L' ⟨a, x6, hj1, ha, rfl, rfl⟩
          have er : (rng ((s : Int) + 1) ((xs.length : Int) + 1 - ((s : Int) + 1)).toNat).length = xs.length - s := by
            rw [rng_len]
            omega
          rw [er, Nat.sub_self] at ha
          have ha : a + 0 = _ := ha
          rw [Int.add_zero] at ha
          rw [← ha]
          exact ⟨_, _, rfl, rfl⟩
      · rintro ε' L' ⟨x5, x6, rfl, rfl⟩
        have key : ∀ s', s ≤ s' → ∀ j, s' + 1 ≤ j → (cs.set s (sumF (s + 1) (xs.length - s) fun j => Aw xs S s j * cs.getD j 0)).getD j 0 = cs.getD j 0 := fun s' h1 j h2 => gd_set_ne (by omega)
        refine ⟨_, _, _, _, by rw [List.length_set]; exact hcl, by rw [gd_set_ne (by omega)]; exact hc1, fun t ht => by rw [gd_set_ne (by omega)]; exact hc0 t (by omega), fun t h1 h2 => ?_, rfl, rfl⟩
        by_cases ht : s = t
        · subst ht
          rw [gd_set_eq (by omega)]
          exact sumF_congr fun j j1 j2 => by rw [key s (Nat.le_refl _) j j1]
        · rw [gd_set_ne ht, hcs t (by omega) h2]
          exact sumF_congr fun j j1 j2 => by rw [key t (by omega) j j1]
    · rintro ε' L' ⟨cs, x4, x5, x6, hcl, hc1, hc0, hcs, rfl, rfl⟩
      have er : ((List.range ((xs.length : Int) - 1 - -1).toNat).map fun i : Nat => PyData.int ((xs.length : Int) - 1 + (i : Int) * (-1))).length = xs.length := by
        rw [List.length_map, List.length_range]
        omega
      rw [er, Nat.sub_self] at hcs
      have hqq := hq (fun j => cs.getD j 0) hc1 fun i hi => hcs i (Nat.zero_le _) hi
      repeat walk_at "z"
      refine od_ix_own (d := .int (cs.getD 0 0)) plus_mem (atI_nat (j := 0) (gd_at (by omega))) ?_
      exact rt_plus hqq

end
end W06

set_option Elab.async false
set_option linter.all false
set_option maxRecDepth 100000
set_option maxHeartbeats 4000000
namespace W06
open PySem PySem.Spec PyProof.Rows L2 Z
local macro_rules | `(tactic| walk_at "z") => `(tactic| first
  | with_reducible refine hs_seq ?_
  | with_reducible refine hs_asg ?_
  | refine hs_asgT2 ?_
  | with_reducible refine hs_ret ?_
  | with_reducible refine hs_if ?_
  | with_reducible refine hs_drop ?_
  | with_reducible refine hs_next ?_
  | ((with_reducible refine cp_var (r := ?zr) ?zh ?_); (case zh => exact rfl))
  | with_reducible refine cp_int ?_
  | with_reducible refine cp_str ?_
  | with_reducible refine cp_bl ?_
  | with_reducible refine cp_non ?_
  | with_reducible refine cp_ref ?_
  | with_reducible refine cp_ty ?_
  | with_reducible refine cp_op ?_
  | with_reducible refine cp_un ?_
  | with_reducible refine cp_cb ?_
  | with_reducible refine ca_nil ?_
  | with_reducible refine ca_cons ?_
  | with_reducible refine cp_andV ?_
  | with_reducible refine cp_orV ?_
  | with_reducible refine cp_notV ?_
  | with_reducible refine cp_if ?_
  | with_reducible refine cp_call ?_
  | with_reducible refine cp_callS ?_
  | with_reducible refine ct_test ?_
  | with_reducible refine ct_b ?_
  | with_reducible refine ct_and ?_
  | with_reducible refine ct_or ?_
  | with_reducible refine ct_not ?_
  | with_reducible refine ct_yes ?_
  | with_reducible refine cg_name ?_
  | refine cg_tup2 ?_
  | with_reducible refine hs_par ?_
  | with_reducible refine hs_par3 ?_
  | ((with_reducible refine hs_aug (x := ?zx) ?zh ?_); (case zh => exact rfl))
  | with_reducible refine cp_chain ?_
  | with_reducible refine cp_sl ?_
  | with_reducible refine co_none ?_
  | with_reducible refine co_some ?_
  | refine sd_tup ?_
  | refine sd_lst ?_
  | refine od_ip_add ?_
  | refine od_ip_sub ?_
  | refine cd_tup_lst ?_
  | refine cd_list_tup ?_
  | refine cd_list_lst ?_
  | refine cd_max2 ?_
  | refine ⟨_, _, _, rfl, ?_⟩
  | with_reducible refine cp_lst ?_
  | with_reducible refine cp_tup ?_
  | refine cp_bm ?_
  | refine cp_bm0 ?_
  | refine ⟨(show rsTy _ (Rs.own _) _ from rfl), ?_⟩
  | refine ⟨(show rsTy _ (Rs.dat _) _ from ⟨rfl, by decide⟩), ?_⟩
  | refine od_add_int ?_
  | refine od_sub ?_
  | refine od_lt_int ?_
  | refine od_gt ?_
  | refine od_le ?_
  | refine od_ge ?_
  | refine od_eq_int ?_
  | refine od_eq_str ?_
  | refine od_eq_bool ?_
  | refine od_ne_int ?_
  | refine od_ne_str ?_
  | refine od_ne_bool ?_
  | refine od_mod (by decide) ?_
  | refine od_pow ⟨by decide, by decide, by decide⟩ ?_
  | refine od_fdiv ⟨by decide, by decide⟩ ?_
  | refine od_mulY_int (.inr ⟨by decide, by decide⟩) ?_
  | refine od_mulY_int (.inl ⟨by decide, by decide⟩) ?_
  | refine od_in_sign ?_
  | refine od_notIn_sign ?_
  | refine od_is_bool ?_
  | refine od_isNot_bool ?_
  | refine od_is_none ?_
  | refine od_isNot_none ?_
  | refine cd_len_lst ?_
  | refine cd_len_tup ?_
  | refine cd_int_int ?_
  | refine cd_int_bool ?_
  | refine cd_abs ?_
  | refine cd_neg ?_
  | refine cd_isi (by decide) ?_
  | refine ⟨_, rfl, ?_⟩
  | refine ⟨_, _, rfl, ?_⟩
  | refine ⟨[], rfl, szl _ (Nat.le_trans (Nat.le_of_eq (show _ = 0 from rfl)) (by decide)), ?_⟩
  | refine ⟨[_], rfl, szl _ (Nat.le_trans (Nat.le_of_eq (show _ = 1 from rfl)) (by decide)), ?_⟩
  | refine ⟨[_, _], rfl, szl _ (Nat.le_trans (Nat.le_of_eq (show _ = 2 from rfl)) (by decide)), ?_⟩
  | refine ⟨[_, _, _], rfl, szl _ (Nat.le_trans (Nat.le_of_eq (show _ = 3 from rfl)) (by decide)), ?_⟩
  | refine ⟨[_, _, _, _], rfl, szl _ (Nat.le_trans (Nat.le_of_eq (show _ = 4 from rfl)) (by decide)), ?_⟩
  | refine ⟨[_, _, _, _, _], rfl, szl _ (Nat.le_trans (Nat.le_of_eq (show _ = 5 from rfl)) (by decide)), ?_⟩
  | refine ⟨[_, _, _, _, _, _], rfl, szl _ (Nat.le_trans (Nat.le_of_eq (show _ = 6 from rfl)) (by decide)), ?_⟩
  | refine ⟨[_, _, _, _, _, _, _], rfl, szl _ (Nat.le_trans (Nat.le_of_eq (show _ = 7 from rfl)) (by decide)), ?_⟩
  | refine ⟨[_, _, _, _, _, _, _, _], rfl, szl _ (Nat.le_trans (Nat.le_of_eq (show _ = 8 from rfl)) (by decide)), ?_⟩
  | refine ⟨[_, _, _, _, _, _, _, _, _], rfl, szl _ (Nat.le_trans (Nat.le_of_eq (show _ = 9 from rfl)) (by decide)), ?_⟩
  | with_reducible refine ite_t ?_
  | refine ite_t ?_
  | refine ite_f ?_)
section
variable {P : Program} {w : World} {K : PySem.W.Frag} {mg : Str → Option Value} {base : Heap}
theorem rep_dI (n : Nat) (v : Int) : (List.replicate n [PyData.int v]).flatten = dI (List.replicate n v) := by
  unfold dI
  rw [List.map_replicate]
  induction n with
  | zero => rfl
  | succ n ih =>
    rw [List.replicate_succ, List.replicate_succ, List.flatten_cons, ih]
    rfl
theorem cut_dI (xs : List Int) (lo hi : Option Int) : Z.cutD (dI xs) lo hi = dI (Z.cutD xs lo hi) := by
  unfold Z.cutD dI
  rw [List.length_map, List.map_take, List.map_drop]
theorem cut_len {α : Type} (xs : List α) (lo hi : Option Int) : (Z.cutD xs lo hi).length ≤ xs.length := by
  unfold Z.cutD
  rw [List.length_take, List.length_drop]
  omega
theorem lenB_bad (l : List Int) : lenB (l ++ [1001]) = false := by
  unfold lenB
  rw [List.all_append, show ([1001] : List Int).all (fun x => wi (.int x) 1 1000) = false by decide, Bool.and_false]
theorem okD_ints (ns : List Int) (h : ns.length ≤ 1000000) : okD 1 (.list (dI ns)) := by
  refine ⟨by rw [List.length_map]; exact h, fun d hd => ?_⟩
  obtain ⟨x, _, rfl⟩ := List.mem_map.mp hd
  exact okD_int 0 _
theorem sum_le {M : Int} : ∀ {l : List Int}, (∀ x ∈ l, x ≤ M) → l.sum ≤ (l.length : Int) * M
  | [], _ => by simp
  | a :: r, h => by
    have h1 := h a List.mem_cons_self
    have h2 := sum_le fun x hx => h x (List.mem_cons_of_mem _ hx)
    rw [List.sum_cons, List.length_cons, Int.natCast_add, Int.add_mul]
    omega
abbrev s_law : Stmt := top 37
theorem sc_law : FnScope ["script", "draws", "n", "most", "lengths", "k", "siding", "told", "parts", "best", "cutting"] ["script"] (defScope s_law) := ⟨rfl, rfl, rfl, by decide +kernel, rfl, by decide +kernel, by decide +kernel⟩
abbrev ps_law : List Str := ["script"]
def dLaw : DSp := fun rs L k _ => ∃ ns : List Int, rs = [.scr ns] ∧ ns.length ≤ 63 ∧ L = [] ∧ k (.dat (.bool true)) L
theorem ok_law {f : Addr} {fd : FuncData} (D : DefAt K mg "law" s_law ps_law f fd) (B_len : mg "len" = none) (B_range : mg "range" = none) (B_max : mg "max" = none) (B_sum : mg "sum" = none) (B_tuple : mg "tuple" = none) (B_isinstance : mg "isinstance" = none) (B_int : mg "int" = none) (B_bool : mg "bool" = none)
    (H_1 : Has P w K mg base 1 "_law_draws" ps__law_draws dDraws) (H_2 : Has P w K mg base 2 "_law_pick" ps__law_pick dPick) (H_3 : Has P w K mg base 1 "_law_take" ps__law_take dTake) (H_4 : Has P w K mg base 2 "are_lengths" ps_are_lengths dLens) (H_5 : Has P w K mg base 4 "fewest_parts" ps_fewest_parts dFew) (H_6 : Has P w K mg base 1 "_law_is_cutting" ps__law_is_cutting dIsCut) (H_7 : Has P w K mg base 1 "_law_parts" ps__law_parts dParts) (H_8 : Has P w K mg base 1 "_law_fewest" ps__law_fewest dLFew) (H_9 : Has P w K mg base 4 "parts_of" ps_parts_of dParts)
    (H_10 : Has P w K mg base 4 "are_markers" ps_are_markers dMark) (H_11 : Has P w K mg base 4 "count_cuttings" ps_count_cuttings dCount) (H_12 : Has P w K mg base 1 "_law_count" ps__law_count dLCount) (H_13 : Has P w K mg base 4 "best_length" ps_best_length (fun rs L k _ => ∃ (xs : List Int) (n : Nat), rs = [.dat (tI xs), .dat (.int (n : Int))] ∧ okL xs ∧ 0 < xs.length ∧ 0 < n ∧ n ≤ xs.length ∧ k (.dat (.int (least xs n))) L)) (H_14 : Has P w K mg base 4 "best_cutting" ps_best_cutting dBest)
    (H_same : Has P w K mg base 2 "_law_same" ps__law_same (dSame 2)) : FnOk P w K mg base CX0 6 f fd ps_law (lift K dLaw) := by
  obtain ⟨_, _, g__law_draws, kp__law_draws, b__law_draws, G__law_draws⟩ := H_1
  obtain ⟨_, _, g__law_pick, kp__law_pick, b__law_pick, G__law_pick⟩ := H_2
  obtain ⟨_, _, g__law_take, kp__law_take, b__law_take, G__law_take⟩ := H_3
  obtain ⟨_, _, g_are_lengths, kp_are_lengths, b_are_lengths, G_are_lengths⟩ := H_4
  obtain ⟨_, _, g_fewest_parts, kp_fewest_parts, b_fewest_parts, G_fewest_parts⟩ := H_5
  obtain ⟨_, _, g__law_is_cutting, kp__law_is_cutting, b__law_is_cutting, G__law_is_cutting⟩ := H_6
  obtain ⟨_, _, g__law_parts, kp__law_parts, b__law_parts, G__law_parts⟩ := H_7
  obtain ⟨_, _, g__law_fewest, kp__law_fewest, b__law_fewest, G__law_fewest⟩ := H_8
  obtain ⟨_, _, g_parts_of, kp_parts_of, b_parts_of, G_parts_of⟩ := H_9
  obtain ⟨_, _, g_are_markers, kp_are_markers, b_are_markers, G_are_markers⟩ := H_10
  obtain ⟨_, _, g_count_cuttings, kp_count_cuttings, b_count_cuttings, G_count_cuttings⟩ := H_11
  obtain ⟨_, _, g__law_count, kp__law_count, b__law_count, G__law_count⟩ := H_12
  obtain ⟨_, _, g_best_length, kp_best_length, b_best_length, G_best_length⟩ := H_13
  obtain ⟨_, _, g_best_cutting, kp_best_cutting, b_best_cutting, G_best_cutting⟩ := H_14
  obtain ⟨_, _, g__law_same, kp__law_same, b__law_same, G__law_same⟩ := H_same
  refine fn_z D.F sc_law (fun rs L k x h => ?_) fun cdv A outer s H E hr => ?_
  · obtain ⟨b, rfl, _⟩ := h
    rfl
  · have nd := sc_law.nd
    refine ⟨_, (pss_cons (ps_set (i := 1) nd rfl (by first | exact .inl rfl | exact .inr rfl) (pe_call G__law_draws (hr.mono (by first | decide | omega)) (by rfl) g__law_draws kp__law_draws b__law_draws .nil pass0 (pa_cons (pv 0) pa_nil)))
    (pss_cons (ps_set (i := 2) nd rfl (by first | exact .inl rfl | exact .inr rfl) (pe_call G__law_pick (hr.mono (by first | decide | omega)) (by rfl) g__law_pick kp__law_pick b__law_pick .nil pass0 (pa_cons (pv 1) (pa_cons (pe_lst (pa_cons pe_int (pa_cons pe_int (pa_cons pe_int (pa_cons pe_int pa_nil))))) pa_nil))))
    (pss_cons (ps_set (i := 3) nd rfl (by first | exact .inl rfl | exact .inr rfl) (pe_call G__law_pick (hr.mono (by first | decide | omega)) (by rfl) g__law_pick kp__law_pick b__law_pick .nil pass0 (pa_cons (pv 1) (pa_cons (pe_lst (pa_cons pe_int (pa_cons pe_int (pa_cons pe_int pa_nil)))) pa_nil))))
    (pss_cons (ps_set (i := 4) nd rfl (by first | exact .inl rfl | exact .inr rfl) (pe_callTy call_tupleZ (by rfl) B_tuple (by decide +kernel) (pa_cons (pe_lc (own := [("k", 5)]) rfl nd (pi_range1 (by rfl) B_range (pa_cons (pv 2) pa_nil)) (blkOk_by (own := [("k", 5)]) (N := ["script", "draws", "n", "most", "lengths", "k", "siding", "told", "parts", "best", "cutting"]) (sc := defScope s_law) (by decide +kernel)) (fun _ _ _ _ _ => (pg_name (i := 5) nd rfl (by first | exact .inl rfl | exact .inr rfl))) (fun _ _ _ _ _ => pts_nil) (fun _ _ _ _ _ => (pe_op (opK (r := rAddZ) (K := K) op_addZ (by rfl)) pe_int (pe_call G__law_take (hr.mono (by first | decide | omega)) (by rfl) g__law_take kp__law_take b__law_take .nil pass0 (pa_cons (pv 1) (pa_cons (pv 3) pa_nil)))))) pa_nil)))
    (pss_cons (ps_if (PW.pt (pw_or (pt_cmpR op_isNotZ (pe_call G_are_lengths (hr.mono (by first | decide | omega)) (by rfl) g_are_lengths kp_are_lengths b_are_lengths .nil pass0 (pa_cons (pv 4) pa_nil)) pe_bl (nomark _)) (pw_or (pt_cmpR op_isNotZ (pe_call G_are_lengths (hr.mono (by first | decide | omega)) (by rfl) g_are_lengths kp_are_lengths b_are_lengths .nil pass0 (pa_cons (pe_op op_mulY (pe_tup (pa_cons pe_int pa_nil)) pe_int) pa_nil)) pe_bl (nomark _)) (pw_or1 (pt_cmpR op_isNotZ (pe_call G_are_lengths (hr.mono (by first | decide | omega)) (by rfl) g_are_lengths kp_are_lengths b_are_lengths .nil pass0 (pa_cons (pe_op op_addZ (pe_slice sl_Z (pv 4) po_none (po_some (pe_un un_neg pe_int))) (pe_tup (pa_cons pe_int pa_nil))) pa_nil)) pe_bl (nomark _)))))) (pss_one (ps_ret pe_bl)) pss_nil)
    (pss_cons (ps_for PassesOwn.never rfl (pi_sq (pe_lst (pa_cons (pe_callB (call_maxZ rfl) (by rfl) B_max (by decide +kernel) (pa_cons (pv 4) pa_nil)) (pa_cons (pe_op op_addZ (pe_callB (call_maxZ rfl) (by rfl) B_max (by decide +kernel) (pa_cons (pv 4) pa_nil)) (pe_call G__law_take (hr.mono (by first | decide | omega)) (by rfl) g__law_take kp__law_take b__law_take .nil pass0 (pa_cons (pv 1) (pa_cons (pe_op op_mulY pe_int (pv 3)) pa_nil)))) (pa_cons (pe_op op_sub (pe_op op_sub (pe_callB (call_sumZ rfl) (by rfl) B_sum (by decide +kernel) (pa_cons (pv 4) pa_nil)) pe_int) (pe_call G__law_take (hr.mono (by first | decide | omega)) (by rfl) g__law_take kp__law_take b__law_take .nil pass0 (pa_cons (pv 1) (pa_cons pe_int pa_nil)))) (pa_cons pe_int pa_nil)))))) (pg_name (i := 6) nd rfl (by first | exact .inl rfl | exact .inr rfl))
      (pss_cons (ps_set (i := 7) nd rfl (by first | exact .inl rfl | exact .inr rfl) (pe_call G_fewest_parts (hr.mono (by first | decide | omega)) (by rfl) g_fewest_parts kp_fewest_parts b_fewest_parts .nil pass0 (pa_cons (pv 4) (pa_cons (pe_callB (call_maxZ rfl) (by rfl) B_max (by decide +kernel) (pa_cons (pv 6) (pa_cons (pe_callB (call_maxZ rfl) (by rfl) B_max (by decide +kernel) (pa_cons (pv 4) pa_nil)) pa_nil))) pa_nil))))
      (pss_cons (ps_set (i := 6) nd rfl (by first | exact .inl rfl | exact .inr rfl) (pe_callB (call_maxZ rfl) (by rfl) B_max (by decide +kernel) (pa_cons (pv 6) (pa_cons (pe_callB (call_maxZ rfl) (by rfl) B_max (by decide +kernel) (pa_cons (pv 4) pa_nil)) pa_nil))))
      (pss_cons (ps_if (PW.pt (pw_or (pt_not (pt_val (pe_callB call_isi (by rfl) B_isinstance (by decide +kernel) (pa_cons (pv 7) (pa_cons (pe_bltn (v := .ty "tuple") (by rfl) B_tuple (by decide +kernel) rfl) pa_nil))))) (pw_or (pt_cmpR (op_neZ hr.units) (pe_callB call_lenZ (by rfl) B_len (by decide +kernel) (pa_cons (pv 7) pa_nil)) pe_int (nomark _)) (pw_or1 (pt_not (pt_val (pe_call G__law_is_cutting (hr.mono (by first | decide | omega)) (by rfl) g__law_is_cutting kp__law_is_cutting b__law_is_cutting .nil pass0 (pa_cons (pv 4) (pa_cons (pe_ix ix_seq (pv 7) pe_int (fun _ _ => rfl)) pa_nil))))))))) (pss_one (ps_ret pe_bl)) pss_nil)
      (pss_cons (ps_set (i := 8) nd rfl (by first | exact .inl rfl | exact .inr rfl) (pe_call G__law_parts (hr.mono (by first | decide | omega)) (by rfl) g__law_parts kp__law_parts b__law_parts .nil pass0 (pa_cons (pv 4) (pa_cons (pe_ix ix_seq (pv 7) pe_int (fun _ _ => rfl)) pa_nil))))
      (pss_cons (ps_if (PW.pt (pw_or (pt_cmpR op_gtZ (pe_callB (call_maxZ rfl) (by rfl) B_max (by decide +kernel) (pa_cons (pv 8) pa_nil)) (pv 6) (nomark _)) (pw_or (pt_cmpR (op_neZ hr.units) (pe_callB call_lenZ (by rfl) B_len (by decide +kernel) (pa_cons (pv 8) pa_nil)) (pe_call G__law_fewest (hr.mono (by first | decide | omega)) (by rfl) g__law_fewest kp__law_fewest b__law_fewest .nil pass0 (pa_cons (pv 4) (pa_cons (pv 6) pa_nil))) (nomark _)) (pw_or1 (pt_not (pt_val (pe_call G__law_same (hr.mono (by first | decide | omega)) (by rfl) g__law_same kp__law_same b__law_same .nil pass0 (pa_cons (pe_call G_parts_of (hr.mono (by first | decide | omega)) (by rfl) g_parts_of kp_parts_of b_parts_of .nil pass0 (pa_cons (pv 4) (pa_cons (pe_ix ix_seq (pv 7) pe_int (fun _ _ => rfl)) pa_nil))) (pa_cons (pv 8) pa_nil))))))))) (pss_one (ps_ret pe_bl)) pss_nil)
      (pss_cons (ps_if (PW.pt (pw_or (pt_cmpR (op_neZ hr.units) (pe_callB call_lenZ (by rfl) B_len (by decide +kernel) (pa_cons (pe_ix ix_seq (pv 7) pe_int (fun _ _ => rfl)) pa_nil)) (pe_callB call_lenZ (by rfl) B_len (by decide +kernel) (pa_cons (pv 8) pa_nil)) (nomark _)) (pw_or1 (pt_not (pt_val (pe_call G__law_same (hr.mono (by first | decide | omega)) (by rfl) g__law_same kp__law_same b__law_same .nil pass0 (pa_cons (pe_call G_are_markers (hr.mono (by first | decide | omega)) (by rfl) g_are_markers kp_are_markers b_are_markers .nil pass0 (pa_cons (pv 4) (pa_cons (pv 6) (pa_cons (pe_ix ix_seq (pv 7) pe_int (fun _ _ => rfl)) pa_nil)))) (pa_cons pe_bl pa_nil)))))))) (pss_one (ps_ret pe_bl)) pss_nil)
      (pss_one (ps_if (pt_cmpR (op_neZ hr.units) (pe_lc (own := [("k", 5)]) rfl nd (pi_range1 (by rfl) B_range (pa_cons (pe_op op_sub (pe_callB call_lenZ (by rfl) B_len (by decide +kernel) (pa_cons (pv 8) pa_nil)) pe_int) pa_nil)) (blkOk_by (own := [("k", 5)]) (N := ["script", "draws", "n", "most", "lengths", "k", "siding", "told", "parts", "best", "cutting"]) (sc := defScope s_law) (by decide +kernel)) (fun _ _ _ _ _ => (pg_name (i := 5) nd rfl (by first | exact .inl rfl | exact .inr rfl))) (fun _ _ _ _ _ => (pts_one (pt_cmpR op_leZ (pe_callB (callK (r := rSumZ) (K := K) (call_sumZ rfl) (by rfl)) (by rfl) B_sum (by decide +kernel) (pa_cons (pe_slice (slK (r := rSlZ) (K := K) sl_Z (by rfl)) (pv 4) (po_some (pe_ix (ixK (r := rIx) (K := K) ix_seq (by rfl)) (pe_ix (ixK (r := rIx) (K := K) ix_seq (by rfl)) (pv 7) pe_int (fun _ _ => rfl)) (pv 5) (fun _ _ => rfl))) (po_some (pe_op (opK (r := rAddZ) (K := K) op_addZ (by rfl)) (pe_ix (ixK (r := rIx) (K := K) ix_seq (by rfl)) (pe_ix (ixK (r := rIx) (K := K) ix_seq (by rfl)) (pv 7) pe_int (fun _ _ => rfl)) (pe_op (opK (r := rAddZ) (K := K) op_addZ (by rfl)) (pv 5) pe_int) (fun _ _ => rfl)) pe_int))) pa_nil)) (pv 6) (nomark _)))) (fun _ _ _ _ _ => (pv 5))) (pe_lst pa_nil) (nomark _)) (pss_one (ps_ret pe_bl)) pss_nil)))))))))
    (pss_cons (ps_set (i := 6) nd rfl (by first | exact .inl rfl | exact .inr rfl) (pe_op op_addZ (pe_callB (call_maxZ rfl) (by rfl) B_max (by decide +kernel) (pa_cons (pv 4) pa_nil)) (pe_call G__law_take (hr.mono (by first | decide | omega)) (by rfl) g__law_take kp__law_take b__law_take .nil pass0 (pa_cons (pv 1) (pa_cons (pe_op op_mulY pe_int (pv 3)) pa_nil)))))
    (pss_cons (ps_if (pt_not (pt_val (pe_call G__law_same (hr.mono (by first | decide | omega)) (by rfl) g__law_same kp__law_same b__law_same .nil pass0 (pa_cons (pe_call G_count_cuttings (hr.mono (by first | decide | omega)) (by rfl) g_count_cuttings kp_count_cuttings b_count_cuttings .nil pass0 (pa_cons (pv 4) (pa_cons (pv 6) pa_nil))) (pa_cons (pe_call G__law_count (hr.mono (by first | decide | omega)) (by rfl) g__law_count kp__law_count b__law_count .nil pass0 (pa_cons (pv 4) (pa_cons (pv 6) pa_nil))) pa_nil))))) (pss_one (ps_ret pe_bl)) pss_nil)
    (pss_cons (ps_for PassesOwn.never rfl (pi_sq (pe_lst (pa_cons pe_int (pa_cons (pv 2) (pa_cons (pe_op op_addZ pe_int (pe_call G__law_take (hr.mono (by first | decide | omega)) (by rfl) g__law_take kp__law_take b__law_take .nil pass0 (pa_cons (pv 1) (pa_cons (pv 2) pa_nil)))) pa_nil))))) (pg_name (i := 5) nd rfl (by first | exact .inl rfl | exact .inr rfl))
      (pss_cons (ps_set (i := 9) nd rfl (by first | exact .inl rfl | exact .inr rfl) (pe_call G_best_length (hr.mono (by first | decide | omega)) (by rfl) g_best_length kp_best_length b_best_length .nil pass0 (pa_cons (pv 4) (pa_cons (pv 5) pa_nil))))
      (pss_cons (ps_set (i := 10) nd rfl (by first | exact .inl rfl | exact .inr rfl) (pe_call G_best_cutting (hr.mono (by first | decide | omega)) (by rfl) g_best_cutting kp_best_cutting b_best_cutting .nil pass0 (pa_cons (pv 4) (pa_cons (pv 5) pa_nil))))
      (pss_cons (ps_if (PW.pt (pw_or (pt_not (pt_val (pe_callB call_isi (by rfl) B_isinstance (by decide +kernel) (pa_cons (pv 9) (pa_cons (pe_bltn (v := .ty "int") (by rfl) B_int (by decide +kernel) rfl) pa_nil))))) (pw_or (pt_val (pe_callB call_isi (by rfl) B_isinstance (by decide +kernel) (pa_cons (pv 9) (pa_cons (pe_bltn (v := .ty "bool") (by rfl) B_bool (by decide +kernel) rfl) pa_nil)))) (pw_or (pt_not (pt_val (pe_call G__law_is_cutting (hr.mono (by first | decide | omega)) (by rfl) g__law_is_cutting kp__law_is_cutting b__law_is_cutting .nil pass0 (pa_cons (pv 4) (pa_cons (pv 10) pa_nil))))) (pw_or (pt_cmpR (op_neZ hr.units) (pe_callB call_lenZ (by rfl) B_len (by decide +kernel) (pa_cons (pv 10) pa_nil)) (pe_op op_sub (pv 5) pe_int) (nomark _)) (pw_or1 (pt_cmpR (op_neZ hr.units) (pe_callB (call_maxZ rfl) (by rfl) B_max (by decide +kernel) (pa_cons (pe_call G__law_parts (hr.mono (by first | decide | omega)) (by rfl) g__law_parts kp__law_parts b__law_parts .nil pass0 (pa_cons (pv 4) (pa_cons (pv 10) pa_nil))) pa_nil)) (pv 9) (nomark _)))))))) (pss_one (ps_ret pe_bl)) pss_nil)
      (pss_one (ps_if (PW.pt (pw_and (pt_cmpR (op_neZ hr.units) (pv 9) (pe_callB (call_maxZ rfl) (by rfl) B_max (by decide +kernel) (pa_cons (pv 4) pa_nil)) (nomark _)) (pw_and1 (pt_cmpR op_leZ (pe_call G__law_fewest (hr.mono (by first | decide | omega)) (by rfl) g__law_fewest kp__law_fewest b__law_fewest .nil pass0 (pa_cons (pv 4) (pa_cons (pe_op op_sub (pv 9) pe_int) pa_nil))) (pv 5) (nomark _))))) (pss_one (ps_ret pe_bl)) pss_nil))))))
    (pss_one (ps_ret pe_bl))))))))))), fun rs L q x h => ?_⟩
    obtain ⟨ns, rfl, hn, rfl, hq⟩ := h
    repeat walk_at "z"
    refine ⟨hn, fun p hp => ?_⟩
    have mp : (p, Mo.drw) ∈ ([] ++ [(p, Mo.drw)] : Led) := List.mem_append_right _ List.mem_cons_self
    generalize ([] ++ [(p, Mo.drw)] : Led) = L0 at mp ⊢
    repeat walk_at "z"
    refine ⟨p, mp, .inr ⟨_, rfl, by simp, fun d hd => ?_⟩⟩
    obtain ⟨n, rfl, hn1, hn2⟩ : ∃ n : Nat, d = .int (n : Int) ∧ 20 ≤ n ∧ n ≤ 300 := by
      simp only [List.mem_cons, List.not_mem_nil, or_false] at hd
      rcases hd with rfl | rfl | rfl | rfl
      · exact ⟨20, rfl, by decide, by decide⟩
      · exact ⟨60, rfl, by decide, by decide⟩
      · exact ⟨150, rfl, by decide, by decide⟩
      · exact ⟨300, rfl, by decide, by decide⟩
    repeat walk_at "z"
    refine ⟨p, mp, .inr ⟨_, rfl, by simp, fun d2 hd2 => ?_⟩⟩
    obtain ⟨m, rfl, hm1, hm2⟩ : ∃ m : Int, d2 = .int m ∧ 3 ≤ m ∧ m ≤ 1000 := by
      simp only [List.mem_cons, List.not_mem_nil, or_false] at hd2
      rcases hd2 with rfl | rfl | rfl
      · exact ⟨3, rfl, by decide, by decide⟩
      · exact ⟨50, rfl, by decide, by decide⟩
      · exact ⟨1000, rfl, by decide, by decide⟩
    repeat walk_at "z"
    refine cp_lc ?_ gown_name
    refine ci_range1 ?_
    repeat walk_at "z"
    refine ⟨by omega, by rw [rng_len]; exact sz _ (by omega), fun i acc => ∃ ys : List Int, acc = dI ys ∧ ys.length = i ∧ ∀ y ∈ ys, 1 ≤ y ∧ y ≤ 1000, ⟨[], rfl, rfl, fun _ h => nomatch h⟩, ?_, ?_⟩
    · rintro i d acc a hd ⟨ys, rfl, hyl, hy⟩ ha
      refine cg_name ⟨rfl, ct_yes ⟨rfl, ite_t ?_⟩⟩
      repeat walk_at "z"
      refine ⟨plus_old mp, by omega, fun v v0 v1 => ?_⟩
      repeat walk_at "z"
      refine ⟨rfl, _, rfl, ys ++ [1 + v], dI_app _ _, by rw [List.length_append, hyl]; rfl, fun z hz => ?_⟩
      rcases List.mem_append.mp hz with h | h
      · exact hy z h
      · rw [List.mem_singleton.mp h]
        omega
    · rintro acc ⟨xs, rfl, hxl, hxy⟩
      rw [rng_len, Int.toNat_natCast] at hxl
      have hx : okL xs := ⟨by omega, hxy⟩
      have h0 : 0 < xs.length := by omega
      have hmx := max_pos hx h0
      have hmx2 : maxI xs ≤ 1000 := (hx.2 _ (maxI_mem h0)).2
      have hsm : xs.sum ≤ 300000 := by
        have := sum_le (M := 1000) (l := xs) fun x hx2 => (hx.2 x hx2).2
        omega
      repeat walk_at "z"
      refine ⟨by omega, ?_⟩
      rw [lenB_ok hx]
      repeat walk_at "z"
      refine od_mul_tup ⟨by simp, by decide, by decide, by simp⟩ ?_
      repeat walk_at "z"
      refine ⟨List.replicate 301 1, congrArg (fun z => [Rs.dat (PyData.tuple z)]) (rep_dI 301 1), by rw [List.length_replicate]; decide, ?_⟩
      rw [List.length_replicate, show decide (301 ≤ 300) = false by decide, Bool.false_and]
      repeat walk_at "z"
      refine od_add_tup (szl _ ?_) ?_
      · rw [cut_dI, List.length_map, List.length_singleton]
        have := cut_len xs none (some (-1))
        omega
      repeat walk_at "z"
      refine ⟨Z.cutD xs none (some (-1)) ++ [1001], ?_, ?_, ?_⟩
      · rw [cut_dI]
        exact congrArg (fun z => [Rs.dat (PyData.tuple z)]) (dI_app _ _)
      · rw [List.length_append, List.length_singleton]
        have := cut_len xs none (some (-1))
        omega
      rw [lenB_bad, Bool.and_false]
      repeat walk_at "z"
      refine hs_for ?_
      refine ci_sq ?_
      repeat walk_at "z"
      refine cd_max_tup h0 ?_
      repeat walk_at "z"
      refine cd_max_tup h0 ?_
      repeat walk_at "z"
      refine ⟨mp, by omega, fun v v0 v1 => ?_⟩
      repeat walk_at "z"
      refine cd_sumZ_tup ?_
      repeat walk_at "z"
      refine ⟨mp, by omega, fun u u0 u1 => ?_⟩
      repeat walk_at "z"
      refine ⟨_, .lst _, fun _ ε' L' => ∃ (x6 x7 x8 : Option Rs), ε' = [some (.scr ns), some (.own p), some (.dat (.int (n : Int))), some (.dat (.int m)), some (.dat (tI xs)), none, x6, x7, x8, none, none] ∧ L' = L0, ⟨_, _, _, rfl, rfl⟩, ?_, ?_⟩
      · rintro i d ε' L' hd ⟨x6, x7, x8, rfl, rfl⟩
        obtain ⟨S0, rfl, hS0⟩ : ∃ S0 : Int, d = .int S0 ∧ S0 ≤ 1000000 := by
          have hm := List.mem_of_getElem? hd
          simp only [List.mem_cons, List.not_mem_nil, or_false] at hm
          rcases hm with rfl | rfl | rfl | rfl
          · exact ⟨_, rfl, by omega⟩
          · exact ⟨_, rfl, by omega⟩
          · exact ⟨_, rfl, by omega⟩
          · exact ⟨_, rfl, by omega⟩
        refine cg_name ?_
        repeat walk_at "z"
        refine cd_max_tup h0 ?_
        repeat walk_at "z"
        obtain ⟨S, hSe, hS1, hS2⟩ : ∃ S : Int, (if maxI xs > S0 then maxI xs else S0) = S ∧ maxI xs ≤ S ∧ S ≤ 1000000 := by
          refine ⟨_, rfl, ?_, ?_⟩
          · split <;> omega
          · split <;> omega
        rw [hSe]
        refine ⟨hx, h0, hS1, hS2, ?_⟩
        repeat walk_at "z"
        refine cd_max_tup h0 ?_
        repeat walk_at "z"
        rw [hSe]
        have hG := greedy_good (xs := xs) (S := S) (below hS1) (by omega)
        have hcl := cutting_len hx h0 hS1
        have hfew := fewest_eq (xs := xs) (S := S) (below hS1)
        generalize greedy xs S = G at hG hcl hfew ⊢
        have hA := good_asc hG
        repeat walk_at "z"
        refine od_ix_tup (d := tI (nI G)) rfl ?_
        repeat walk_at "z"
        first | refine ⟨hx, hA, ?_⟩ | refine ⟨_, _, rfl, hx, hA, ?_⟩
        repeat walk_at "z"
        refine od_ix_tup (d := tI (nI G)) rfl ?_
        repeat walk_at "z"
        first | refine ⟨hx, h0, hA, ?_⟩ | refine ⟨_, _, rfl, hx, h0, hA, ?_⟩
        have hpl : (parts xs G).length = G.length + 1 := parts_len xs G 0
        repeat walk_at "z"
        refine cd_max_lst (by omega) ?_
        repeat walk_at "z"
        have e1 : decide (S < maxI (parts xs G)) = false := decide_eq_false (by
          have := good_le (Nat.zero_le _) hG _ (maxI_mem (ns := parts xs G) (by omega))
          omega)
        rw [e1]
        repeat walk_at "z"
        have e2 : (!(((dI (parts xs G)).length : Int) == fewest xs S)) = false := by
          rw [List.length_map, hpl, hfew, show (((G.length + 1 : Nat) : Int) == (G.length : Int) + 1) = true from beq_iff_eq.mpr (by omega)]
          rfl
        rw [e2]
        repeat walk_at "z"
        refine od_ix_tup (d := tI (nI G)) rfl ?_
        repeat walk_at "z"
        first | refine ⟨hx, h0, hA, ?_⟩ | refine ⟨_, _, rfl, hx, h0, hA, ?_⟩
        repeat walk_at "z"
        refine ⟨okD_ints _ (by omega), ?_⟩
        repeat walk_at "z"
        refine od_ix_tup (d := tI (nI (0 :: G))) rfl ?_
        repeat walk_at "z"
        have e3 : (!(((dI (nI (0 :: G))).length : Int) == ((dI (parts xs G)).length : Int))) = false := by
          rw [List.length_map, List.length_map, nI_len, hpl, List.length_cons, beq_self_eq_true]
          rfl
        rw [e3]
        repeat walk_at "z"
        refine od_ix_tup (d := tI (nI (0 :: G))) rfl ?_
        repeat walk_at "z"
        first | refine ⟨hx, h0, by omega, hS2, hG, ?_⟩ | refine ⟨_, _, G, rfl, hx, h0, by omega, hS2, hG, ?_⟩
        repeat walk_at "z"
        refine ⟨okD_bool 1 true, ?_⟩
        repeat walk_at "z"
        refine cp_lcM Nat ?_ gown_name
        refine ci_range1 ?_
        repeat walk_at "z"
        rw [List.length_map, hpl]
        have hrm : (((G.length + 1 : Nat) : Int) - 1).toNat = G.length := by omega
        refine ⟨by omega, by rw [rng_len]; exact sz _ (by omega), List.range' 0 G.length, natD, fun c => none, by rw [hrm]; exact rng_nats 0 _, fun c hc acc b hb => ?_, ?_⟩
        · have hc := List.mem_range'_1.mp hc
          have c1 : c < (0 :: G).length := by
            rw [List.length_cons]
            omega
          have c2 : c + 1 < (0 :: G).length := by
            rw [List.length_cons]
            omega
          have a1 : (dI (nI (0 :: G)))[c]? = some (.int (((0 :: G)[c] : Nat) : Int)) := by
            unfold dI nI
            rw [List.getElem?_map, List.getElem?_map, List.getElem?_eq_getElem c1]
            rfl
          have a2 : (dI (nI (0 :: G)))[c + 1]? = some (.int (((0 :: G)[c + 1] : Nat) : Int)) := by
            unfold dI nI
            rw [List.getElem?_map, List.getElem?_map, List.getElem?_eq_getElem c2]
            rfl
          have hz : ((0 :: G)[c], (0 :: G)[c + 1]) ∈ (0 :: G).zip G := by
            refine List.mem_of_getElem? (i := c) (List.getElem?_zip_eq_some.mpr ⟨List.getElem?_eq_getElem c1, ?_⟩)
            have := List.getElem?_eq_getElem c2
            rw [List.getElem?_cons_succ] at this
            exact this
          obtain ⟨b1, b2, b3⟩ := good_mark hG _ hz
          generalize (0 :: G)[c] = ea at a1 b1 b3
          generalize (0 :: G)[c + 1] = eb at a2 b1 b2 b3
          refine cg_name ⟨rfl, ?_⟩
          repeat walk_at "z"
          refine od_ix_tup (d := tI (nI (0 :: G))) rfl ?_
          repeat walk_at "z"
          refine od_ix_tup (d := .int (ea : Int)) (atI_nat a1) ?_
          repeat walk_at "z"
          refine od_ix_tup (d := tI (nI (0 :: G))) rfl ?_
          repeat walk_at "z"
          refine od_ix_tup (d := .int (eb : Int)) (by exact atI_nat (j := c + 1) a2) ?_
          repeat walk_at "z"
          have ec : Z.cutD (dI xs) (some (ea : Int)) (some ((eb : Int) + 1)) = dI ((xs.drop ea).take (eb + 1 - ea)) := by
            have := cutN (dI xs) ea (eb + 1) (by rw [List.length_map]; omega) (by rw [List.length_map]; omega)
            rw [show ((eb + 1 : Nat) : Int) = (eb : Int) + 1 from rfl] at this
            rw [this]
            unfold dI
            rw [List.map_take, List.map_drop]
          rw [ec]
          refine cd_sumZ_tup ?_
          repeat walk_at "z"
          have e : decide (((xs.drop ea).take (eb + 1 - ea)).sum ≤ S) = false := decide_eq_false (by
            have := seg_pre (xs := xs) (a := ea) (b := eb + 1) (by omega)
            unfold seg at this
            have b3 : S < pre xs (eb + 1) - pre xs ea := b3
            omega)
          rw [e]
          exact ⟨rfl, rfl⟩
        · have en : (List.range' 0 G.length).filterMap (fun _ => (none : Option PyData)) = [] := List.filterMap_eq_nil_iff.mpr fun _ _ => rfl
          rw [en]
          repeat walk_at "z"
          refine od_ne_deep ⟨rfl, rfl, rfl, rfl⟩ ?_
          repeat walk_at "z"
          first | exact rfl | exact ⟨_, _, _, rfl, rfl⟩
      · rintro ε' L' ⟨x6, x7, x8, rfl, rfl⟩
        repeat walk_at "z"
        refine cd_max_tup h0 ?_
        repeat walk_at "z"
        refine ⟨mp, by omega, fun t t0 t1 => ?_⟩
        repeat walk_at "z"
        refine ⟨hx, by omega, by omega, fun F hF0 hF => ?_⟩
        repeat walk_at "z"
        refine ⟨hx, fun B hB1 hB => ?_⟩
        rw [← ways hF0 hF hB1 hB h0]
        repeat walk_at "z"
        refine ⟨okD_int 1 _, ?_⟩
        repeat walk_at "z"
        refine hs_for ?_
        refine ci_sq ?_
        repeat walk_at "z"
        refine ⟨mp, by omega, fun y y0 y1 => ?_⟩
        repeat walk_at "z"
        refine ⟨_, .lst _, fun _ ε' L2 => ∃ (x5 x6 x7 x8 x9 x10 : Option Rs), ε' = [some (.scr ns), some (.own p), some (.dat (.int (n : Int))), some (.dat (.int m)), some (.dat (tI xs)), x5, x6, x7, x8, x9, x10] ∧ L2 = L', ⟨_, _, _, _, _, _, rfl, rfl⟩, ?_, ?_⟩
        · rintro i d ε' L2 hd ⟨x5, x6, x7, x8, x9, x10, rfl, rfl⟩
          obtain ⟨k0, rfl, hk1, hk2⟩ : ∃ k0 : Nat, d = .int (k0 : Int) ∧ 0 < k0 ∧ k0 ≤ xs.length := by
            have hm := List.mem_of_getElem? hd
            simp only [List.mem_cons, List.not_mem_nil, or_false] at hm
            rcases hm with rfl | rfl | rfl
            · exact ⟨1, rfl, by decide, by omega⟩
            · exact ⟨n, rfl, by omega, by omega⟩
            · exact ⟨(1 + y).toNat, by rw [Int.toNat_of_nonneg (by omega)], by omega, by omega⟩
          obtain ⟨l1, l2, l3, l4⟩ := least_ok hx h0 hk1
          have hA := good_asc (greedy_good (below l1) (by omega))
          obtain ⟨b1, b2, b3, b4⟩ := bestL_ok hA l4 hk2
          have hbm := best_max hx h0 hk1 b2 b3 b4
          refine cg_name ?_
          repeat walk_at "z"
          first | refine ⟨hx, h0, hk1, hk2, ?_⟩ | refine ⟨_, k0, rfl, hx, h0, hk1, hk2, ?_⟩
          repeat walk_at "z"
          first | refine ⟨hx, h0, hk1, hk2, ?_⟩ | refine ⟨_, k0, rfl, hx, h0, hk1, hk2, ?_⟩
          generalize bestL xs.length k0 (greedy xs (least xs k0)) = C at b2 b3 hbm ⊢
          repeat walk_at "z"
          first | refine ⟨hx, b2, ?_⟩ | refine ⟨_, C, rfl, hx, b2, ?_⟩
          repeat walk_at "z"
          have e1 : (!(((dI (nI C)).length : Int) == (k0 : Int) - 1)) = false := by
            rw [List.length_map, nI_len, show ((C.length : Int) == (k0 : Int) - 1) = true from beq_iff_eq.mpr (by omega)]
            rfl
          rw [e1]
          repeat walk_at "z"
          first | refine ⟨hx, h0, b2, ?_⟩ | refine ⟨_, C, rfl, hx, h0, b2, ?_⟩
          have hpl : (parts xs C).length = C.length + 1 := parts_len xs C 0
          repeat walk_at "z"
          refine cd_max_lst (by omega) ?_
          repeat walk_at "z"
          rw [hbm, beq_self_eq_true]
          repeat walk_at "z"
          refine cd_max_tup h0 ?_
          repeat walk_at "z"
          refine ct_join (fun b L1 => b = false ∧ L1 = L2) (ite_b (fun hc => ?_) fun _ => ⟨rfl, rfl⟩) ?_
          · have hne : least xs k0 ≠ maxI xs := by simpa using hc
            have hb : maxI xs ≤ least xs k0 - 1 := by omega
            have hf := fewest_eq (xs := xs) (S := least xs k0 - 1) (below hb)
            have hg := l3.resolve_left hne
            unfold cG at hg
            repeat walk_at "z"
            exact ⟨decide_eq_false (by omega), rfl⟩
          · rintro b L1 ⟨rfl, rfl⟩
            repeat walk_at "z"
            first | exact rfl | exact ⟨_, _, _, _, _, _, rfl, rfl⟩
        · rintro ε' L2 ⟨x5, x6, x7, x8, x9, x10, rfl, rfl⟩
          repeat walk_at "z"
          exact rt_sub (List.nil_sublist _) hq

end
end W06

set_option Elab.async false
set_option linter.all false
set_option maxRecDepth 100000
set_option maxHeartbeats 4000000
namespace W06
open PySem PySem.Spec PyProof.Rows L2 Z
def dd (x : Str) (st : Stmt) : He.DefD := ⟨(x, none), x, x, defArgs st, defBody st, defScope st, [], []⟩
def fns : List He.DefD := [dd "is_within" s_is_within, dd "are_ascending" s_are_ascending, dd "are_lengths" s_are_lengths, dd "check_lengths" s_check_lengths, dd "check_siding" s_check_siding, dd "is_cutting" s_is_cutting, dd "parts_by" s_parts_by, dd "parts_of" s_parts_of, dd "greedy" s_greedy, dd "fewest_parts" s_fewest_parts, dd "are_markers" s_are_markers, dd "check_parts" s_check_parts, dd "least_siding" s_least_siding, dd "best_length" s_best_length, dd "best_cutting" s_best_cutting, dd "count_cuttings" s_count_cuttings, dd "_law_draws" s__law_draws, dd "_law_take" s__law_take, dd "_law_pick" s__law_pick, dd "_law_same" s__law_same, dd "_law_is_cutting" s__law_is_cutting, dd "_law_parts" s__law_parts, dd "_law_fewest" s__law_fewest, dd "_law_count" s__law_count, dd "law" s_law]
def fas : List He.Fa := [.glo "is_within", .glo "are_ascending", .glo "are_lengths", .glo "check_lengths", .glo "check_siding", .glo "is_cutting", .glo "parts_by", .glo "parts_of", .glo "greedy", .glo "fewest_parts", .glo "are_markers", .glo "check_parts", .glo "least_siding", .glo "best_length", .glo "best_cutting", .glo "count_cuttings", .glo "_law_draws", .glo "_law_take", .glo "_law_pick", .glo "_law_same", .glo "_law_is_cutting", .glo "_law_parts", .glo "_law_fewest", .glo "_law_count", .glo "law", .glo "YardError", .glo "NotRight", .glo "NotThere", .glo "NoAnswer", .glo "TooLarge", .glo "Malformed", .free "len", .free "int", .free "abs", .free "range", .free "list", .free "reversed", .free "isinstance", .free "str", .free "all", .free "any", .free "sum", .free "max", .free "sorted", .free "enumerate", .free "zip", .free "tuple", .free "dict", .free "bool", .int "MOST_WAGONS" 300, .int "LONGEST_WAGON" 1000, .int "LONGEST_SIDING" 1000000, .exc "NotRight", .exc "NotThere", .exc "NoAnswer"]
def exK (K : PySem.W.Frag) : Bool := K.length == K.length
abbrev R : PySem.W.OpenRow := PySem.W.OpenLaw.row PySem.Challenge.rw_humpyard_k06_whole_great_cuts
abbrev hk : PySem.W.Hook := He.hookX 5 fas fns [] [] exK
def ob (s : PySem.W.SharedT) : He.AlX := He.obsX 5 fas fns [] [] exK (HandSHeadRun.getT s)
theorem ob_eq (s : PySem.W.SharedT) : ob s = hk.obs s.abs := He.obsX_eq (HandSHeadRun.getT_eq s)
def loose : List Str := (["YardError", "NotRight", "NotThere", "NoAnswer", "TooLarge", "Malformed", "is_within", "are_ascending", "MOST_WAGONS", "LONGEST_WAGON", "LONGEST_SIDING", "are_lengths"] : List Str) ++ (["check_lengths", "check_siding", "is_cutting", "parts_by", "parts_of", "greedy", "fewest_parts", "are_markers", "check_parts", "least_siding", "best_length", "best_cutting"] : List Str) ++ (["count_cuttings", "_law_draws", "_law_take", "_law_pick", "_law_same", "_law_flags", "_law_is_cutting", "_law_parts", "_law_fewest", "_law_count"] : List Str)
theorem run (w : World) : HandSHeadRun.RunEq R (PySem.W.view R.prog [37]) hk ob 6000 loose w := by
  intro os
  kernel_rfl
theorem facts {P : Program} {w : World} {K : PySem.W.Frag} {h : Heap} {mg : Str → Option Value} {f : Addr} (X : K.In h) (G : h.Ns mainGlobals mg) (hfa : mg ("law" : Str) = some (.ref f)) (c : He.SaysX fas fns [] [] exK w h K) :
    ∃ fd : FuncData, (∀ (s : Shared) (v : Value), BindsTo s fd ⟨[v], []⟩ [("script", v)]) ∧ ∀ base : Heap, K.In base → base.Ns mainGlobals mg → FnOk P w K mg base CX0 6 f fd ["script"] (lift K dLaw) := by
  obtain ⟨fd_is_within, F_is_within⟩ := c.t.d.def_ 0 (d := dd "is_within" s_is_within) rfl
  have G_is_within : Fun K "is_within" "is_within" s_is_within (He.ga K "is_within") fd_is_within := fun_of F_is_within
  have D_is_within : DefAt K mg "is_within" s_is_within ps_is_within (He.ga K "is_within") fd_is_within := ⟨He.glo_ok X G (c.t.d.fact 0 (f := .glo "is_within") rfl), G_is_within, G_is_within.binds (ps := ps_is_within) fun _ _ _ _ _ _ us hl => match us, hl with | [_, _, _], _ => rfl⟩
  obtain ⟨fd_are_ascending, F_are_ascending⟩ := c.t.d.def_ 1 (d := dd "are_ascending" s_are_ascending) rfl
  have G_are_ascending : Fun K "are_ascending" "are_ascending" s_are_ascending (He.ga K "are_ascending") fd_are_ascending := fun_of F_are_ascending
  have D_are_ascending : DefAt K mg "are_ascending" s_are_ascending ps_are_ascending (He.ga K "are_ascending") fd_are_ascending := ⟨He.glo_ok X G (c.t.d.fact 1 (f := .glo "are_ascending") rfl), G_are_ascending, G_are_ascending.binds (ps := ps_are_ascending) fun _ _ _ _ _ _ us hl => match us, hl with | [_], _ => rfl⟩
  obtain ⟨fd_are_lengths, F_are_lengths⟩ := c.t.d.def_ 2 (d := dd "are_lengths" s_are_lengths) rfl
  have G_are_lengths : Fun K "are_lengths" "are_lengths" s_are_lengths (He.ga K "are_lengths") fd_are_lengths := fun_of F_are_lengths
  have D_are_lengths : DefAt K mg "are_lengths" s_are_lengths ps_are_lengths (He.ga K "are_lengths") fd_are_lengths := ⟨He.glo_ok X G (c.t.d.fact 2 (f := .glo "are_lengths") rfl), G_are_lengths, G_are_lengths.binds (ps := ps_are_lengths) fun _ _ _ _ _ _ us hl => match us, hl with | [_], _ => rfl⟩
  obtain ⟨fd_check_lengths, F_check_lengths⟩ := c.t.d.def_ 3 (d := dd "check_lengths" s_check_lengths) rfl
  have G_check_lengths : Fun K "check_lengths" "check_lengths" s_check_lengths (He.ga K "check_lengths") fd_check_lengths := fun_of F_check_lengths
  have D_check_lengths : DefAt K mg "check_lengths" s_check_lengths ps_check_lengths (He.ga K "check_lengths") fd_check_lengths := ⟨He.glo_ok X G (c.t.d.fact 3 (f := .glo "check_lengths") rfl), G_check_lengths, G_check_lengths.binds (ps := ps_check_lengths) fun _ _ _ _ _ _ us hl => match us, hl with | [_], _ => rfl⟩
  obtain ⟨fd_check_siding, F_check_siding⟩ := c.t.d.def_ 4 (d := dd "check_siding" s_check_siding) rfl
  have G_check_siding : Fun K "check_siding" "check_siding" s_check_siding (He.ga K "check_siding") fd_check_siding := fun_of F_check_siding
  have D_check_siding : DefAt K mg "check_siding" s_check_siding ps_check_siding (He.ga K "check_siding") fd_check_siding := ⟨He.glo_ok X G (c.t.d.fact 4 (f := .glo "check_siding") rfl), G_check_siding, G_check_siding.binds (ps := ps_check_siding) fun _ _ _ _ _ _ us hl => match us, hl with | [_], _ => rfl⟩
  obtain ⟨fd_is_cutting, F_is_cutting⟩ := c.t.d.def_ 5 (d := dd "is_cutting" s_is_cutting) rfl
  have G_is_cutting : Fun K "is_cutting" "is_cutting" s_is_cutting (He.ga K "is_cutting") fd_is_cutting := fun_of F_is_cutting
  have D_is_cutting : DefAt K mg "is_cutting" s_is_cutting ps_is_cutting (He.ga K "is_cutting") fd_is_cutting := ⟨He.glo_ok X G (c.t.d.fact 5 (f := .glo "is_cutting") rfl), G_is_cutting, G_is_cutting.binds (ps := ps_is_cutting) fun _ _ _ _ _ _ us hl => match us, hl with | [_, _], _ => rfl⟩
  obtain ⟨fd_parts_by, F_parts_by⟩ := c.t.d.def_ 6 (d := dd "parts_by" s_parts_by) rfl
  have G_parts_by : Fun K "parts_by" "parts_by" s_parts_by (He.ga K "parts_by") fd_parts_by := fun_of F_parts_by
  have D_parts_by : DefAt K mg "parts_by" s_parts_by ps_parts_by (He.ga K "parts_by") fd_parts_by := ⟨He.glo_ok X G (c.t.d.fact 6 (f := .glo "parts_by") rfl), G_parts_by, G_parts_by.binds (ps := ps_parts_by) fun _ _ _ _ _ _ us hl => match us, hl with | [_, _], _ => rfl⟩
  obtain ⟨fd_parts_of, F_parts_of⟩ := c.t.d.def_ 7 (d := dd "parts_of" s_parts_of) rfl
  have G_parts_of : Fun K "parts_of" "parts_of" s_parts_of (He.ga K "parts_of") fd_parts_of := fun_of F_parts_of
  have D_parts_of : DefAt K mg "parts_of" s_parts_of ps_parts_of (He.ga K "parts_of") fd_parts_of := ⟨He.glo_ok X G (c.t.d.fact 7 (f := .glo "parts_of") rfl), G_parts_of, G_parts_of.binds (ps := ps_parts_of) fun _ _ _ _ _ _ us hl => match us, hl with | [_, _], _ => rfl⟩
  obtain ⟨fd_greedy, F_greedy⟩ := c.t.d.def_ 8 (d := dd "greedy" s_greedy) rfl
  have G_greedy : Fun K "greedy" "greedy" s_greedy (He.ga K "greedy") fd_greedy := fun_of F_greedy
  have D_greedy : DefAt K mg "greedy" s_greedy ps_greedy (He.ga K "greedy") fd_greedy := ⟨He.glo_ok X G (c.t.d.fact 8 (f := .glo "greedy") rfl), G_greedy, G_greedy.binds (ps := ps_greedy) fun _ _ _ _ _ _ us hl => match us, hl with | [_, _], _ => rfl⟩
  obtain ⟨fd_fewest_parts, F_fewest_parts⟩ := c.t.d.def_ 9 (d := dd "fewest_parts" s_fewest_parts) rfl
  have G_fewest_parts : Fun K "fewest_parts" "fewest_parts" s_fewest_parts (He.ga K "fewest_parts") fd_fewest_parts := fun_of F_fewest_parts
  have D_fewest_parts : DefAt K mg "fewest_parts" s_fewest_parts ps_fewest_parts (He.ga K "fewest_parts") fd_fewest_parts := ⟨He.glo_ok X G (c.t.d.fact 9 (f := .glo "fewest_parts") rfl), G_fewest_parts, G_fewest_parts.binds (ps := ps_fewest_parts) fun _ _ _ _ _ _ us hl => match us, hl with | [_, _], _ => rfl⟩
  obtain ⟨fd_are_markers, F_are_markers⟩ := c.t.d.def_ 10 (d := dd "are_markers" s_are_markers) rfl
  have G_are_markers : Fun K "are_markers" "are_markers" s_are_markers (He.ga K "are_markers") fd_are_markers := fun_of F_are_markers
  have D_are_markers : DefAt K mg "are_markers" s_are_markers ps_are_markers (He.ga K "are_markers") fd_are_markers := ⟨He.glo_ok X G (c.t.d.fact 10 (f := .glo "are_markers") rfl), G_are_markers, G_are_markers.binds (ps := ps_are_markers) fun _ _ _ _ _ _ us hl => match us, hl with | [_, _, _], _ => rfl⟩
  obtain ⟨fd_check_parts, F_check_parts⟩ := c.t.d.def_ 11 (d := dd "check_parts" s_check_parts) rfl
  have G_check_parts : Fun K "check_parts" "check_parts" s_check_parts (He.ga K "check_parts") fd_check_parts := fun_of F_check_parts
  have D_check_parts : DefAt K mg "check_parts" s_check_parts ps_check_parts (He.ga K "check_parts") fd_check_parts := ⟨He.glo_ok X G (c.t.d.fact 11 (f := .glo "check_parts") rfl), G_check_parts, G_check_parts.binds (ps := ps_check_parts) fun _ _ _ _ _ _ us hl => match us, hl with | [_, _], _ => rfl⟩
  obtain ⟨fd_least_siding, F_least_siding⟩ := c.t.d.def_ 12 (d := dd "least_siding" s_least_siding) rfl
  have G_least_siding : Fun K "least_siding" "least_siding" s_least_siding (He.ga K "least_siding") fd_least_siding := fun_of F_least_siding
  have D_least_siding : DefAt K mg "least_siding" s_least_siding ps_least_siding (He.ga K "least_siding") fd_least_siding := ⟨He.glo_ok X G (c.t.d.fact 12 (f := .glo "least_siding") rfl), G_least_siding, G_least_siding.binds (ps := ps_least_siding) fun _ _ _ _ _ _ us hl => match us, hl with | [_, _], _ => rfl⟩
  obtain ⟨fd_best_length, F_best_length⟩ := c.t.d.def_ 13 (d := dd "best_length" s_best_length) rfl
  have G_best_length : Fun K "best_length" "best_length" s_best_length (He.ga K "best_length") fd_best_length := fun_of F_best_length
  have D_best_length : DefAt K mg "best_length" s_best_length ps_best_length (He.ga K "best_length") fd_best_length := ⟨He.glo_ok X G (c.t.d.fact 13 (f := .glo "best_length") rfl), G_best_length, G_best_length.binds (ps := ps_best_length) fun _ _ _ _ _ _ us hl => match us, hl with | [_, _], _ => rfl⟩
  obtain ⟨fd_best_cutting, F_best_cutting⟩ := c.t.d.def_ 14 (d := dd "best_cutting" s_best_cutting) rfl
  have G_best_cutting : Fun K "best_cutting" "best_cutting" s_best_cutting (He.ga K "best_cutting") fd_best_cutting := fun_of F_best_cutting
  have D_best_cutting : DefAt K mg "best_cutting" s_best_cutting ps_best_cutting (He.ga K "best_cutting") fd_best_cutting := ⟨He.glo_ok X G (c.t.d.fact 14 (f := .glo "best_cutting") rfl), G_best_cutting, G_best_cutting.binds (ps := ps_best_cutting) fun _ _ _ _ _ _ us hl => match us, hl with | [_, _], _ => rfl⟩
  obtain ⟨fd_count_cuttings, F_count_cuttings⟩ := c.t.d.def_ 15 (d := dd "count_cuttings" s_count_cuttings) rfl
  have G_count_cuttings : Fun K "count_cuttings" "count_cuttings" s_count_cuttings (He.ga K "count_cuttings") fd_count_cuttings := fun_of F_count_cuttings
  have D_count_cuttings : DefAt K mg "count_cuttings" s_count_cuttings ps_count_cuttings (He.ga K "count_cuttings") fd_count_cuttings := ⟨He.glo_ok X G (c.t.d.fact 15 (f := .glo "count_cuttings") rfl), G_count_cuttings, G_count_cuttings.binds (ps := ps_count_cuttings) fun _ _ _ _ _ _ us hl => match us, hl with | [_, _], _ => rfl⟩
  obtain ⟨fd__law_draws, F__law_draws⟩ := c.t.d.def_ 16 (d := dd "_law_draws" s__law_draws) rfl
  have G__law_draws : Fun K "_law_draws" "_law_draws" s__law_draws (He.ga K "_law_draws") fd__law_draws := fun_of F__law_draws
  have D__law_draws : DefAt K mg "_law_draws" s__law_draws ps__law_draws (He.ga K "_law_draws") fd__law_draws := ⟨He.glo_ok X G (c.t.d.fact 16 (f := .glo "_law_draws") rfl), G__law_draws, G__law_draws.binds (ps := ps__law_draws) fun _ _ _ _ _ _ us hl => match us, hl with | [_], _ => rfl⟩
  obtain ⟨fd__law_take, F__law_take⟩ := c.t.d.def_ 17 (d := dd "_law_take" s__law_take) rfl
  have G__law_take : Fun K "_law_take" "_law_take" s__law_take (He.ga K "_law_take") fd__law_take := fun_of F__law_take
  have D__law_take : DefAt K mg "_law_take" s__law_take ps__law_take (He.ga K "_law_take") fd__law_take := ⟨He.glo_ok X G (c.t.d.fact 17 (f := .glo "_law_take") rfl), G__law_take, G__law_take.binds (ps := ps__law_take) fun _ _ _ _ _ _ us hl => match us, hl with | [_, _], _ => rfl⟩
  obtain ⟨fd__law_pick, F__law_pick⟩ := c.t.d.def_ 18 (d := dd "_law_pick" s__law_pick) rfl
  have G__law_pick : Fun K "_law_pick" "_law_pick" s__law_pick (He.ga K "_law_pick") fd__law_pick := fun_of F__law_pick
  have D__law_pick : DefAt K mg "_law_pick" s__law_pick ps__law_pick (He.ga K "_law_pick") fd__law_pick := ⟨He.glo_ok X G (c.t.d.fact 18 (f := .glo "_law_pick") rfl), G__law_pick, G__law_pick.binds (ps := ps__law_pick) fun _ _ _ _ _ _ us hl => match us, hl with | [_, _], _ => rfl⟩
  obtain ⟨fd__law_same, F__law_same⟩ := c.t.d.def_ 19 (d := dd "_law_same" s__law_same) rfl
  have G__law_same : Fun K "_law_same" "_law_same" s__law_same (He.ga K "_law_same") fd__law_same := fun_of F__law_same
  have D__law_same : DefAt K mg "_law_same" s__law_same ps__law_same (He.ga K "_law_same") fd__law_same := ⟨He.glo_ok X G (c.t.d.fact 19 (f := .glo "_law_same") rfl), G__law_same, G__law_same.binds (ps := ps__law_same) fun _ _ _ _ _ _ us hl => match us, hl with | [_, _], _ => rfl⟩
  obtain ⟨fd__law_is_cutting, F__law_is_cutting⟩ := c.t.d.def_ 20 (d := dd "_law_is_cutting" s__law_is_cutting) rfl
  have G__law_is_cutting : Fun K "_law_is_cutting" "_law_is_cutting" s__law_is_cutting (He.ga K "_law_is_cutting") fd__law_is_cutting := fun_of F__law_is_cutting
  have D__law_is_cutting : DefAt K mg "_law_is_cutting" s__law_is_cutting ps__law_is_cutting (He.ga K "_law_is_cutting") fd__law_is_cutting := ⟨He.glo_ok X G (c.t.d.fact 20 (f := .glo "_law_is_cutting") rfl), G__law_is_cutting, G__law_is_cutting.binds (ps := ps__law_is_cutting) fun _ _ _ _ _ _ us hl => match us, hl with | [_, _], _ => rfl⟩
  obtain ⟨fd__law_parts, F__law_parts⟩ := c.t.d.def_ 21 (d := dd "_law_parts" s__law_parts) rfl
  have G__law_parts : Fun K "_law_parts" "_law_parts" s__law_parts (He.ga K "_law_parts") fd__law_parts := fun_of F__law_parts
  have D__law_parts : DefAt K mg "_law_parts" s__law_parts ps__law_parts (He.ga K "_law_parts") fd__law_parts := ⟨He.glo_ok X G (c.t.d.fact 21 (f := .glo "_law_parts") rfl), G__law_parts, G__law_parts.binds (ps := ps__law_parts) fun _ _ _ _ _ _ us hl => match us, hl with | [_, _], _ => rfl⟩
  obtain ⟨fd__law_fewest, F__law_fewest⟩ := c.t.d.def_ 22 (d := dd "_law_fewest" s__law_fewest) rfl
  have G__law_fewest : Fun K "_law_fewest" "_law_fewest" s__law_fewest (He.ga K "_law_fewest") fd__law_fewest := fun_of F__law_fewest
  have D__law_fewest : DefAt K mg "_law_fewest" s__law_fewest ps__law_fewest (He.ga K "_law_fewest") fd__law_fewest := ⟨He.glo_ok X G (c.t.d.fact 22 (f := .glo "_law_fewest") rfl), G__law_fewest, G__law_fewest.binds (ps := ps__law_fewest) fun _ _ _ _ _ _ us hl => match us, hl with | [_, _], _ => rfl⟩
  obtain ⟨fd__law_count, F__law_count⟩ := c.t.d.def_ 23 (d := dd "_law_count" s__law_count) rfl
  have G__law_count : Fun K "_law_count" "_law_count" s__law_count (He.ga K "_law_count") fd__law_count := fun_of F__law_count
  have D__law_count : DefAt K mg "_law_count" s__law_count ps__law_count (He.ga K "_law_count") fd__law_count := ⟨He.glo_ok X G (c.t.d.fact 23 (f := .glo "_law_count") rfl), G__law_count, G__law_count.binds (ps := ps__law_count) fun _ _ _ _ _ _ us hl => match us, hl with | [_, _], _ => rfl⟩
  obtain ⟨fd_law, F_law⟩ := c.t.d.def_ 24 (d := dd "law" s_law) rfl
  have G_law : Fun K "law" "law" s_law (He.ga K "law") fd_law := fun_of F_law
  have D_law : DefAt K mg "law" s_law ps_law (He.ga K "law") fd_law := ⟨He.glo_ok X G (c.t.d.fact 24 (f := .glo "law") rfl), G_law, G_law.binds (ps := ps_law) fun _ _ _ _ _ _ us hl => match us, hl with | [_], _ => rfl⟩
  have B_len : mg "len" = none := He.free_ok X G (c.t.d.fact 31 (f := .free "len") rfl)
  have B_int : mg "int" = none := He.free_ok X G (c.t.d.fact 32 (f := .free "int") rfl)
  have B_abs : mg "abs" = none := He.free_ok X G (c.t.d.fact 33 (f := .free "abs") rfl)
  have B_range : mg "range" = none := He.free_ok X G (c.t.d.fact 34 (f := .free "range") rfl)
  have B_list : mg "list" = none := He.free_ok X G (c.t.d.fact 35 (f := .free "list") rfl)
  have B_reversed : mg "reversed" = none := He.free_ok X G (c.t.d.fact 36 (f := .free "reversed") rfl)
  have B_isinstance : mg "isinstance" = none := He.free_ok X G (c.t.d.fact 37 (f := .free "isinstance") rfl)
  have B_str : mg "str" = none := He.free_ok X G (c.t.d.fact 38 (f := .free "str") rfl)
  have B_all : mg "all" = none := He.free_ok X G (c.t.d.fact 39 (f := .free "all") rfl)
  have B_any : mg "any" = none := He.free_ok X G (c.t.d.fact 40 (f := .free "any") rfl)
  have B_sum : mg "sum" = none := He.free_ok X G (c.t.d.fact 41 (f := .free "sum") rfl)
  have B_max : mg "max" = none := He.free_ok X G (c.t.d.fact 42 (f := .free "max") rfl)
  have B_sorted : mg "sorted" = none := He.free_ok X G (c.t.d.fact 43 (f := .free "sorted") rfl)
  have B_enumerate : mg "enumerate" = none := He.free_ok X G (c.t.d.fact 44 (f := .free "enumerate") rfl)
  have B_zip : mg "zip" = none := He.free_ok X G (c.t.d.fact 45 (f := .free "zip") rfl)
  have B_tuple : mg "tuple" = none := He.free_ok X G (c.t.d.fact 46 (f := .free "tuple") rfl)
  have B_dict : mg "dict" = none := He.free_ok X G (c.t.d.fact 47 (f := .free "dict") rfl)
  have B_bool : mg "bool" = none := He.free_ok X G (c.t.d.fact 48 (f := .free "bool") rfl)
  obtain ⟨t_MOST_WAGONS, c_MOST_WAGONS⟩ := He.int_ok X G (c.t.d.fact 49 (f := .int "MOST_WAGONS" 300) rfl)
  obtain ⟨t_LONGEST_WAGON, c_LONGEST_WAGON⟩ := He.int_ok X G (c.t.d.fact 50 (f := .int "LONGEST_WAGON" 1000) rfl)
  obtain ⟨t_LONGEST_SIDING, c_LONGEST_SIDING⟩ := He.int_ok X G (c.t.d.fact 51 (f := .int "LONGEST_SIDING" 1000000) rfl)
  have g_YardError : mg "YardError" = some (.ref (He.ga K "YardError")) := He.glo_ok X G (c.t.d.fact 25 (f := .glo "YardError") rfl)
  have g_NotRight : mg "NotRight" = some (.ref (He.ga K "NotRight")) := He.glo_ok X G (c.t.d.fact 26 (f := .glo "NotRight") rfl)
  have g_NotThere : mg "NotThere" = some (.ref (He.ga K "NotThere")) := He.glo_ok X G (c.t.d.fact 27 (f := .glo "NotThere") rfl)
  have g_NoAnswer : mg "NoAnswer" = some (.ref (He.ga K "NoAnswer")) := He.glo_ok X G (c.t.d.fact 28 (f := .glo "NoAnswer") rfl)
  have g_TooLarge : mg "TooLarge" = some (.ref (He.ga K "TooLarge")) := He.glo_ok X G (c.t.d.fact 29 (f := .glo "TooLarge") rfl)
  have g_Malformed : mg "Malformed" = some (.ref (He.ga K "Malformed")) := He.glo_ok X G (c.t.d.fact 30 (f := .glo "Malformed") rfl)
  have E_NotRight : ErrAt K mg "NotRight" (He.ga K "NotRight") := err_ok X G (c.t.d.fact 52 (f := .exc "NotRight") rfl) (c.t.d.fact 26 (f := .glo "NotRight") rfl)
  have E_NotThere : ErrAt K mg "NotThere" (He.ga K "NotThere") := err_ok X G (c.t.d.fact 53 (f := .exc "NotThere") rfl) (c.t.d.fact 27 (f := .glo "NotThere") rfl)
  have E_NoAnswer : ErrAt K mg "NoAnswer" (He.ga K "NoAnswer") := err_ok X G (c.t.d.fact 54 (f := .exc "NoAnswer") rfl) (c.t.d.fact 28 (f := .glo "NoAnswer") rfl)
  have hex := c.more
  unfold exK at hex
  have e := hfa.symm.trans D_law.g
  cases e
  refine ⟨fd_law, fun s v => (FunD.bindsA (ps := ["script"]) (show FunD K "law" "law" (defArgs s_law) (defBody s_law) (defScope s_law) [] [] (He.ga K "law") fd_law from F_law) fun _ _ _ _ _ _ us hl => match us, hl with | [_], _ => rfl) s [v] rfl, fun base _ _ => ?_⟩
  have H_take : Has P w K mg base 1 "_law_take" ps__law_take dTake := ok__law_take D__law_take B_len B_int
  have H_pick := ok__law_pick D__law_pick B_len H_take
  have H_draws : Has P w K mg base 1 "_law_draws" ps__law_draws dDraws := ok__law_draws D__law_draws B_int B_abs B_range B_list B_reversed
  have H_same := fun n => ok__law_same (P := P) (w := w) (base := base) D__law_same B_len B_range B_isinstance B_tuple B_list B_dict B_bool B_int B_str n
  have H_within : Has P w K mg base 1 "is_within" ps_is_within dWithin := ok_is_within D_is_within B_isinstance B_int B_bool
  have H_asc : Has P w K mg base 1 "are_ascending" ps_are_ascending dAsc := ok_are_ascending D_are_ascending B_all B_zip
  have H_lens := ok_are_lengths D_are_lengths B_all B_isinstance B_tuple B_len c_MOST_WAGONS c_LONGEST_WAGON H_within
  have H_cl := ok_check_lengths D_check_lengths E_NotRight H_lens
  have H_cs := ok_check_siding D_check_siding c_LONGEST_SIDING E_NotRight H_within
  have H_cut := ok_is_cutting D_is_cutting B_all B_len H_within H_asc
  have H_pb : Has P w K mg base 1 "parts_by" ps_parts_by dParts := ok_parts_by D_parts_by B_len B_sum B_zip
  have H_po := ok_parts_of D_parts_of E_NotThere H_cl H_cut H_pb
  have H_gr : Has P w K mg base 1 "greedy" ps_greedy dGreedy := ok_greedy D_greedy B_enumerate B_tuple
  have H_few := ok_fewest_parts D_fewest_parts E_NoAnswer B_any B_len H_cl H_cs H_gr
  have H_mark := ok_are_markers D_are_markers B_all B_len B_sum B_zip H_cl H_cs H_asc H_within
  have H_cp := ok_check_parts D_check_parts E_NotRight B_len H_within
  have H_least := ok_least_siding D_least_siding B_len B_max B_sum H_gr
  have H_bl := ok_best_length D_best_length H_cl H_cp H_least
  have H_bc := ok_best_cutting D_best_cutting B_len B_range B_sorted B_tuple H_cl H_cp H_least H_gr
  have H_cc := ok_count_cuttings D_count_cuttings B_len B_range H_cl H_cs
  have H_lc : Has P w K mg base 1 "_law_is_cutting" ps__law_is_cutting dIsCut := ok__law_is_cutting D__law_is_cutting B_isinstance B_tuple B_bool B_int B_len B_range
  have H_lp : Has P w K mg base 1 "_law_parts" ps__law_parts dParts := ok__law_parts D__law_parts B_list B_len B_range B_sum
  have H_lf : Has P w K mg base 1 "_law_fewest" ps__law_fewest dLFew := ok__law_fewest D__law_fewest
  have H_lco : Has P w K mg base 1 "_law_count" ps__law_count dLCount := ok__law_count D__law_count B_len B_range
  exact ok_law D_law B_len B_range B_max B_sum B_tuple B_isinstance B_int B_bool H_draws H_pick H_take H_lens H_few H_lc H_lp H_lf H_po H_mark H_cc H_lco H_bl H_bc (H_same 2)
end W06
open PySem PySem.W PySem.Calls PyProof.Rows
set_option maxHeartbeats 0 in
theorem PySem.Challenge.cw_humpyard_k06_whole_great_cuts_holds : PySem.Challenge.rw_humpyard_k06_whole_great_cuts.Holds := by
  w_on; o_law
  refine HandSHeadRun.head_any (r := OpenLaw.row PySem.Challenge.rw_humpyard_k06_whole_great_cuts) (q := view (OpenLaw.row PySem.Challenge.rw_humpyard_k06_whole_great_cuts).prog [37]) (H := W06.hk) (ob := W06.ob) (M := 6000) (loose := W06.loose) (d := HandSHeadRun.topDef (OpenLaw.row PySem.Challenge.rw_humpyard_k06_whole_great_cuts).prog 37) (kwd := []) W06.ob_eq
    (by kernel_rfl) (fun s => by kernel_rfl) W06.run (by kernel_rfl) (by kernel_rfl) (by kernel_rfl) (by rfl) (by first | assumption | decide +kernel) (by decide +kernel) ⟨rfl, rfl, rfl, rfl, rfl, by decide +kernel⟩ ?hw ?hc
  case hw => w_witness2
  case hc =>
    refine L2.walk_ofE (l := PySem.Challenge.rw_humpyard_k06_whole_great_cuts) (n := 63) (k := 6) (x := "script") (CX := L2.CX0) rfl (by decide) (by kernel_rfl) ⟨rfl, by decide, by decide⟩ ?F (fun _ _ _ _ z => z)
    intro w mg fa h Y G hmg0
    obtain ⟨K, KX, c⟩ := Y
    have hmg : mg ("law" : PySem.Str) = some (.ref fa) := by
      have e : (HandSHeadRun.topDef (OpenLaw.row PySem.Challenge.rw_humpyard_k06_whole_great_cuts).prog 37).name = ("law" : PySem.Str) := by kernel_rfl
      rw [← e]
      exact hmg0
    obtain ⟨fd, hb, hF⟩ := W06.facts (P := (PySem.Challenge.rw_humpyard_k06_whole_great_cuts).prog) (w := w) KX G hmg c
    exact ⟨K, fd, Z.lift K W06.dLaw, KX, hb, fun H a ns hl _ hS => Z.law_start W06.dLaw (fun k x hk => ⟨ns, rfl, hl, rfl, hk⟩) hS, hF⟩

