import PyProof.Rows.All
import Wide.All
import OpenK.AllK
import Wide.FinOn
import HandS.ForMost
import HandS.ExcOwn
import HandS.IsInst
import HandS.Style
import HandS.Flow
import HandS.Wide
import HandS.WordsExc
import HandS.Comp
import HandS.Iter
import HandS.Zip
import HandS.Rev
import KE.GoesNew
import HandS.TupAny
import HandS.TupMul
import HandS.SetFor
import HandS.Text
import PyProof.Rows.CountFlat
import KE.KDictList
import HandS.HotCalls
import HandS.ExcIs
import HandS.EndBits
import HandS.Defaults
import HandS.Head0
import HandS.Head1
import HandS.Head2
import HandS.HeadEnd
import HandS.HeadHook1
import HandS.HeadHook2
import HandS.HeadHook3
import HandS.HeadHook4
import PySem.Challenge.RW_humpyard_k04_whole_damaged_numbers
set_option Elab.async false
set_option linter.all false
set_option maxRecDepth 100000
set_option maxHeartbeats 2000000
/-! Z: readings at the level of plain data. A value is data (never written again), an owned object (a list that is still written; it stands in the
ledger), or a raw value. -/
namespace Z
open PySem PySem.Spec PyProof.Rows L2

/-- an owned object's content: some list of numbers that are not negative (the draws), a list of data -/
inductive Mo where
  | drw
  | lst (ds : List PyData)
abbrev Led := List (Addr × Mo)
abbrev Led.ks (L : Led) : List Addr := L.map Prod.fst
inductive Rs where
  | dat (d : PyData)
  | own (a : Addr)
  | raw (v : V)
  | scr (ns : List Int)
abbrev Ev := List (Option Rs)

def natV (n : Nat) : V := .int (n : Int)

def hid (L : Led) (H : Hp) : Hp := fun a => if a ∈ L.ks then none else H a
theorem hid_in {L : Led} {H : Hp} {a : Addr} (h : a ∈ L.ks) : hid L H a = none := if_pos h
theorem hid_out {L : Led} {H : Hp} {a : Addr} (h : a ∉ L.ks) : hid L H a = H a := if_neg h
def Ext (H H' : Hp) : Prop := ∀ a o, H a = some o → H' a = some o
theorem Ext.refl (H : Hp) : Ext H H := fun _ _ h => h
theorem Ext.trans {H H1 H2 : Hp} (a : Ext H H1) (b : Ext H1 H2) : Ext H H2 := fun x o h => b x o (a x o h)
theorem hid_sub {L : Led} {H : Hp} : Ext (hid L H) H := fun a o h => by
  unfold hid at h
  split at h
  · cases h
  · exact h
theorem ext_rd {H H' : Hp} {a : Addr} {u : HO} (e : Ext H H') (h : Rd H a u) : Rd H' a u := by
  rcases h with h | ⟨o, h⟩
  · exact .inl (e _ _ h)
  · exact .inr ⟨o, e _ _ h⟩
theorem ext_l {K : PySem.W.Frag} {H H' : Hp} {a : Addr} {xs : List V} (e : Ext H H') (h : SqL K H a xs) : SqL K H' a xs := by
  rcases h with h | h
  · exact .inl (ext_rd e h)
  · exact .inr h
theorem ext_t {K : PySem.W.Frag} {H H' : Hp} {a : Addr} {xs : List V} (e : Ext H H') (h : SqT K H a xs) : SqT K H' a xs := by
  rcases h with h | h
  · exact .inl (ext_rd e h)
  · exact .inr h
/-- the keys of dicts as data -/
def kD : Key → PyData
  | .inl i => .int i
  | .inr x => .str x
mutual
inductive Rp (K : PySem.W.Frag) (H : Hp) : V → PyData → Prop
  | non : Rp K H .non .none
  | bl (b : Bool) : Rp K H (.bl b) (.bool b)
  | int (i : Int) : Rp K H (.int i) (.int i)
  | str (x : Str) : Rp K H (.str x) (.str x)
  | lst {a : Addr} {xs : List V} {ds : List PyData} : H a = some (.lst xs) → RpAll K H xs ds → Rp K H (.ref a) (.list ds)
  | tup {a : Addr} {xs : List V} {ds : List PyData} : SqT K H a xs → RpAll K H xs ds → Rp K H (.ref a) (.tuple ds)
  | dct {a : Addr} {kvs : List (Key × V)} {ds : List (PyData × PyData)} : H a = some (.dK kvs) → RpKv K H kvs ds → Rp K H (.ref a) (.dict ds)
inductive RpAll (K : PySem.W.Frag) (H : Hp) : List V → List PyData → Prop
  | nil : RpAll K H [] []
  | cons {v : V} {vs : List V} {d : PyData} {ds : List PyData} : Rp K H v d → RpAll K H vs ds → RpAll K H (v :: vs) (d :: ds)
inductive RpKv (K : PySem.W.Frag) (H : Hp) : List (Key × V) → List (PyData × PyData) → Prop
  | nil : RpKv K H [] []
  | cons {k : Key} {v : V} {vs : List (Key × V)} {d : PyData} {ds : List (PyData × PyData)} : Rp K H v d → RpKv K H vs ds → RpKv K H ((k, v) :: vs) ((kD k, d) :: ds)
end
mutual
theorem rp_mono {K : PySem.W.Frag} {H H' : Hp} (e : Ext H H') : ∀ {v : V} {d : PyData}, Rp K H v d → Rp K H' v d
  | _, _, .non => .non
  | _, _, .bl b => .bl b
  | _, _, .int i => .int i
  | _, _, .str x => .str x
  | _, _, .lst s h => .lst (e _ _ s) (rpAll_mono e h)
  | _, _, .tup s h => .tup (ext_t e s) (rpAll_mono e h)
  | _, _, .dct s h => .dct (e _ _ s) (rpKv_mono e h)
theorem rpAll_mono {K : PySem.W.Frag} {H H' : Hp} (e : Ext H H') : ∀ {vs : List V} {ds : List PyData}, RpAll K H vs ds → RpAll K H' vs ds
  | _, _, .nil => .nil
  | _, _, .cons h t => .cons (rp_mono e h) (rpAll_mono e t)
theorem rpKv_mono {K : PySem.W.Frag} {H H' : Hp} (e : Ext H H') : ∀ {vs : List (Key × V)} {ds : List (PyData × PyData)}, RpKv K H vs ds → RpKv K H' vs ds
  | _, _, .nil => .nil
  | _, _, .cons h t => .cons (rp_mono e h) (rpKv_mono e t)
end
section
variable {K : PySem.W.Frag} {H : Hp}
theorem rpAll_len : ∀ {vs : List V} {ds : List PyData}, RpAll K H vs ds → vs.length = ds.length
  | _, _, .nil => rfl
  | _, _, .cons _ t => by rw [List.length_cons, List.length_cons, rpAll_len t]
theorem rpAll_get : ∀ {vs : List V} {ds : List PyData} {i : Nat} {d : PyData}, RpAll K H vs ds → ds[i]? = some d → ∃ v, vs[i]? = some v ∧ Rp K H v d
  | _, _, _, _, .nil, h => by simp at h
  | _, _, 0, _, .cons h _, e => ⟨_, rfl, by simp at e; subst e; exact h⟩
  | _, _, i + 1, _, .cons _ t, e => by
    obtain ⟨v, h1, h2⟩ := rpAll_get (i := i) t (by simpa using e)
    exact ⟨v, by simpa using h1, h2⟩
theorem rpAll_at : ∀ {vs : List V} {ds : List PyData} {i : Nat} {v : V}, RpAll K H vs ds → vs[i]? = some v → ∃ d, ds[i]? = some d ∧ Rp K H v d
  | _, _, _, _, .nil, h => by simp at h
  | _, _, 0, _, .cons h _, e => ⟨_, rfl, by simp at e; subst e; exact h⟩
  | _, _, i + 1, _, .cons _ t, e => by
    obtain ⟨v, h1, h2⟩ := rpAll_at (i := i) t (by simpa using e)
    exact ⟨v, by simpa using h1, h2⟩
theorem rpAll_app : ∀ {vs ws : List V} {ds es : List PyData}, RpAll K H vs ds → RpAll K H ws es → RpAll K H (vs ++ ws) (ds ++ es)
  | _, _, _, _, .nil, s => s
  | _, _, _, _, .cons h t, s => .cons h (rpAll_app t s)
theorem rpAll_one {v : V} {d : PyData} (h : Rp K H v d) : RpAll K H [v] [d] := .cons h .nil
theorem rpAll_map {α : Type} {f : α → V} {g : α → PyData} : ∀ (l : List α), (∀ x ∈ l, Rp K H (f x) (g x)) → RpAll K H (l.map f) (l.map g)
  | [], _ => .nil
  | x :: r, h => .cons (h x List.mem_cons_self) (rpAll_map r fun y hy => h y (List.mem_cons_of_mem _ hy))
theorem rpAll_ints (l : List Int) : RpAll K H (l.map V.int) (l.map PyData.int) := rpAll_map l fun x _ => .int x
theorem rpAll_strs (l : List Str) : RpAll K H (l.map V.str) (l.map PyData.str) := rpAll_map l fun x _ => .str x
theorem rpAll_bools (l : List Bool) : RpAll K H (l.map V.bl) (l.map PyData.bool) := rpAll_map l fun x _ => .bl x
theorem ints_of : ∀ {vs : List V} {l : List Int}, RpAll K H vs (l.map PyData.int) → vs = l.map V.int
  | _, [], .nil => rfl
  | _, i :: r, .cons h t => by
    cases h
    rw [ints_of t] <;> rfl
theorem strs_of : ∀ {vs : List V} {l : List Str}, RpAll K H vs (l.map PyData.str) → vs = l.map V.str
  | _, [], .nil => rfl
  | _, i :: r, .cons h t => by
    cases h
    rw [strs_of t] <;> rfl
theorem bools_of : ∀ {vs : List V} {l : List Bool}, RpAll K H vs (l.map PyData.bool) → vs = l.map V.bl
  | _, [], .nil => rfl
  | _, i :: r, .cons h t => by
    cases h
    rw [bools_of t] <;> rfl
theorem rpAll_take : ∀ {vs : List V} {ds : List PyData} (n : Nat), RpAll K H vs ds → RpAll K H (vs.take n) (ds.take n)
  | _, _, 0, _ => .nil
  | _, _, _ + 1, .nil => .nil
  | _, _, n + 1, .cons h t => .cons h (rpAll_take n t)
theorem rpAll_drop : ∀ {vs : List V} {ds : List PyData} (n : Nat), RpAll K H vs ds → RpAll K H (vs.drop n) (ds.drop n)
  | _, _, 0, r => r
  | _, _, _ + 1, .nil => .nil
  | _, _, n + 1, .cons _ t => rpAll_drop n t
theorem rpAll_set {v : V} {d : PyData} (h : Rp K H v d) : ∀ {vs : List V} {ds : List PyData} (n : Nat), RpAll K H vs ds → RpAll K H (vs.set n v) (ds.set n d)
  | _, _, _, .nil => .nil
  | _, _, 0, .cons _ t => .cons h t
  | _, _, n + 1, .cons q t => .cons q (rpAll_set h n t)
theorem rpAll_rev : ∀ {vs : List V} {ds : List PyData}, RpAll K H vs ds → RpAll K H vs.reverse ds.reverse
  | _, _, .nil => .nil
  | _, _, .cons h t => by
    rw [List.reverse_cons, List.reverse_cons]
    exact rpAll_app (rpAll_rev t) (rpAll_one h)
/-! without dicts: data as the library has it -/
mutual
def flatD : PyData → Bool
  | .dict _ => false
  | .list xs => flatAll xs
  | .tuple xs => flatAll xs
  | _ => true
def flatAll : List PyData → Bool
  | [] => true
  | x :: xs => flatD x && flatAll xs
end
mutual
theorem rp_dp : ∀ {v : V} {d : PyData}, Rp K H v d → flatD d = true → Dp K H v d
  | _, _, .non, _ => .non
  | _, _, .bl b, _ => .bl b
  | _, _, .int i, _ => .int i
  | _, _, .str x, _ => .str x
  | _, _, .lst s h, f => .lst (SqL.of s) (rpAll_dp h (by simpa [flatD] using f))
  | _, _, .tup s h, f => .tup s (rpAll_dp h (by simpa [flatD] using f))
  | _, _, .dct s h, f => by simp [flatD] at f
theorem rpAll_dp : ∀ {vs : List V} {ds : List PyData}, RpAll K H vs ds → flatAll ds = true → DpAll K H vs ds
  | _, _, .nil, _ => .nil
  | _, _, .cons h t, f => by
    simp only [flatAll, Bool.and_eq_true] at f
    exact .cons (rp_dp h f.1) (rpAll_dp t f.2)
end
end

/-! ### what holds of values, of the ledger, of the names -/
section
variable (K : PySem.W.Frag)
def RsOk (L : Led) (H : Hp) (v : V) : Rs → Prop
  | .dat d => Rp K (hid L H) v d
  | .own a => v = .ref a ∧ a ∈ L.ks
  | .raw w => v = w
  | .scr ns => ∃ a, v = .ref a ∧ SqL K (hid L H) a (ns.map V.int)
def MoOk (L : Led) (H : Hp) (a : Addr) : Mo → Prop
  | .drw => ∃ ns : List Nat, H a = some (.lst (ns.map natV))
  | .lst ds => ∃ xs, H a = some (.lst xs) ∧ RpAll K (hid L H) xs ds
structure LOk (L : Led) (H : Hp) : Prop where
  nd : L.ks.Nodup
  at_ : ∀ p ∈ L, MoOk K L H p.1 p.2
structure Rel (L : Led) (ε : Ev) (σ : L2.St) (H : Hp) : Prop where
  len : σ.length = ε.length
  slot : ∀ (i : Nat) (r : Rs), ε[i]? = some (some r) → ∃ v, σ[i]? = some (some v) ∧ RsOk K L H v r
  led : LOk K L H
end
/-- from the one state to the other: what isn't owned stands; what is owned anew was not there -/
structure Grow (H : Hp) (L : Led) (H' : Hp) (L' : Led) : Prop where
  old : ∀ a o, H a = some o → a ∉ L.ks → H' a = some o
  new : ∀ a ∈ L'.ks, a ∈ L.ks ∨ H a = none
abbrev Keeps (L L' : Led) : Prop := ∀ a ∈ L.ks, a ∈ L'.ks
theorem Grow.refl (H : Hp) (L : Led) : Grow H L H L := ⟨fun _ _ h _ => h, fun _ h => .inl h⟩
theorem Grow.trans {H H1 H2 : Hp} {L L1 L2 : Led} (a : Grow H L H1 L1) (b : Grow H1 L1 H2 L2) : Grow H L H2 L2 := by
  refine ⟨fun x o h hx => ?_, fun x hx => ?_⟩
  · refine b.old x o (a.old x o h hx) fun hm => ?_
    rcases a.new x hm with q | q
    · exact hx q
    · rw [h] at q
      cases q
  · rcases b.new x hx with q | q
    · exact a.new x q
    · cases e : H x with
      | none => exact .inr rfl
      | some o =>
        by_cases hx : x ∈ L.ks
        · exact .inl hx
        · rw [a.old x o e hx] at q
          cases q
theorem Grow.ext {H H1 : Hp} {L L1 : Led} (a : Grow H L H1 L1) : Ext (hid L H) (hid L1 H1) := fun x o h => by
  have h1 := hid_sub x o h
  have hx : x ∉ L.ks := fun z => by
    rw [hid_in z] at h
    cases h
  have hn : x ∉ L1.ks := fun z => by
    rcases a.new x z with q | q
    · exact hx q
    · rw [h1] at q
      cases q
  rw [hid_out hn]
  exact a.old x o h1 hx
section
variable {K : PySem.W.Frag} {L L' : Led} {H H' : Hp} {v : V} {r : Rs} {ε : Ev} {σ : L2.St}
theorem RsOk.grow (h : RsOk K L H v r) (g : Grow H L H' L') (k : Keeps L L') : RsOk K L' H' v r := by
  cases r with
  | dat d => exact rp_mono g.ext h
  | own a => exact ⟨h.1, k a h.2⟩
  | raw w => exact h
  | scr ns => exact let ⟨a, e, q⟩ := h; ⟨a, e, ext_l g.ext q⟩
theorem Rel.grow (h : Rel K L ε σ H) (g : Grow H L H' L') (k : Keeps L L') (l : LOk K L' H') : Rel K L' ε σ H' :=
  ⟨h.len, fun i r e => let ⟨v, a, b⟩ := h.slot i r e; ⟨v, a, b.grow g k⟩, l⟩
theorem LOk.isLst (h : LOk K L H) {a : Addr} {ds : List PyData} (m : (a, Mo.lst ds) ∈ L) : ∃ xs, H a = some (.lst xs) ∧ RpAll K (hid L H) xs ds := h.at_ _ m
theorem LOk.isDrw (h : LOk K L H) {a : Addr} (m : (a, Mo.drw) ∈ L) : ∃ ns : List Nat, H a = some (.lst (ns.map natV)) := h.at_ _ m
theorem Led.key {a : Addr} {m : Mo} (h : (a, m) ∈ L) : a ∈ L.ks := List.mem_map.mpr ⟨_, h, rfl⟩
/-- a new object that is not owned -/
theorem grow_new {p : Addr} {o : HO} (h : H p = none) : Grow H L (upd H p o) L :=
  ⟨fun a u e _ => by rw [upd_ne (ne_of_none e h)]; exact e, fun _ h => .inl h⟩
theorem hid_ext_new {p : Addr} {o : HO} (h : H p = none) : Ext (hid L H) (hid L (upd H p o)) := (grow_new h).ext
theorem LOk.mono_at (h : LOk K L H) (g : ∀ a ∈ L.ks, H' a = H a) (e : Ext (hid L H) (hid L H')) : LOk K L H' := by
  refine ⟨h.nd, fun p hp => ?_⟩
  have q := h.at_ p hp
  have ea := g p.1 (List.mem_map.mpr ⟨p, hp, rfl⟩)
  obtain ⟨a, m⟩ := p
  cases m with
  | drw =>
    obtain ⟨ns, z⟩ := q
    exact ⟨ns, ea.trans z⟩
  | lst ds =>
    obtain ⟨xs, z, y⟩ := q
    exact ⟨xs, ea.trans z, rpAll_mono e y⟩
theorem LOk.here (h : LOk K L H) {a : Addr} (ha : a ∈ L.ks) : ∃ o, H a = some o := by
  obtain ⟨p, hp, rfl⟩ := List.mem_map.mp ha
  have q := h.at_ p hp
  obtain ⟨a, m⟩ := p
  cases m with
  | drw => exact let ⟨ns, z⟩ := q; ⟨_, z⟩
  | lst ds => exact let ⟨xs, z, _⟩ := q; ⟨_, z⟩
theorem LOk.fresh (h : LOk K L H) {p : Addr} (e : H p = none) : p ∉ L.ks := fun z => by
  obtain ⟨o, q⟩ := h.here z
  rw [e] at q
  cases q
theorem LOk.new {p : Addr} {o : HO} (h : LOk K L H) (e : H p = none) : LOk K L (upd H p o) :=
  h.mono_at (fun a ha => upd_ne (fun z => h.fresh e (z ▸ ha))) (hid_ext_new e)
/-- a new object that is owned from now on -/
theorem grow_own {p : Addr} {o : HO} {m : Mo} (h : H p = none) : Grow H L (upd H p o) (L ++ [(p, m)]) :=
  ⟨fun a u e _ => by rw [upd_ne (ne_of_none e h)]; exact e, fun a ha => by
    rw [Led.ks, List.map_append, List.mem_append] at ha
    rcases ha with ha | ha
    · exact .inl ha
    · exact .inr (by rw [List.mem_singleton.mp ha]; exact h)⟩
theorem keeps_own {p : Addr} {m : Mo} : Keeps L (L ++ [(p, m)]) := fun a ha => by
  rw [Led.ks, List.map_append, List.mem_append]
  exact .inl ha
theorem Keeps.refl (L : Led) : Keeps L L := fun _ h => h
theorem Keeps.trans {L1 L2 : Led} (a : Keeps L L1) (b : Keeps L1 L2) : Keeps L L2 := fun x h => b x (a x h)
theorem LOk.own {p : Addr} {xs : List V} {ds : List PyData} (h : LOk K L H) (e : H p = none) (d : RpAll K (hid L H) xs ds) : LOk K (L ++ [(p, .lst ds)]) (upd H p (.lst xs)) := by
  have hp := h.fresh e
  have ex : Ext (hid L H) (hid (L ++ [(p, Mo.lst ds)]) (upd H p (.lst xs))) := (grow_own e).ext
  refine ⟨?_, fun q hq => ?_⟩
  · rw [Led.ks, List.map_append]
    refine List.nodup_append.mpr ⟨h.nd, by simp, fun a ha b hb => ?_⟩
    have eb : b = p := List.mem_singleton.mp hb
    rw [eb]
    exact fun z => hp (z ▸ ha)
  · rcases List.mem_append.mp hq with hq | hq
    · have z := h.at_ q hq
      have en : q.1 ≠ p := fun z => hp (z ▸ List.mem_map.mpr ⟨q, hq, rfl⟩)
      obtain ⟨a, m⟩ := q
      cases m with
      | drw =>
        obtain ⟨ns, z⟩ := z
        exact ⟨ns, by rw [upd_ne en]; exact z⟩
      | lst es =>
        obtain ⟨ys, z, y⟩ := z
        exact ⟨ys, by rw [upd_ne en]; exact z, rpAll_mono ex y⟩
    · have e := List.mem_singleton.mp hq
      subst e
      exact ⟨xs, upd_same, rpAll_mono ex d⟩
end
end Z

set_option Elab.async false
set_option linter.all false
set_option maxRecDepth 100000
set_option maxHeartbeats 2000000
namespace Z
open PySem PySem.Spec PyProof.Rows L2
/-- what is wanted of an error: its class's address, the names, the ledger -/
abbrev KX := Addr → Ev → Led → Prop
structure Cz where
  K : PySem.W.Frag
  W : WX
  kx : KX
def ExOk (C : Cz) (L : Led) (H : Hp) : Prop := ∀ c ε' σ' L' H', Grow H L H' L' → Rel C.K L' ε' σ' H' → C.kx c ε' L' → C.W (.ref c) none σ' H'
theorem ExOk.grow {C : Cz} {L L' : Led} {H H' : Hp} (h : ExOk C L H) (g : Grow H L H' L') : ExOk C L' H' := fun c ε σ L2 H2 g2 r k => h c ε σ L2 H2 (g.trans g2) r k
abbrev RsAll (K : PySem.W.Frag) (L : Led) (H : Hp) : List V → List Rs → Prop := Paired fun v r => RsOk K L H v r
theorem RsAll.grow {K : PySem.W.Frag} {L L' : Led} {H H' : Hp} {vs : List V} {rs : List Rs} (h : RsAll K L H vs rs) (g : Grow H L H' L') (k : Keeps L L') : RsAll K L' H' vs rs := Paired.mapP h fun _ _ q => q.grow g k

/-! ### the judgements -/
/-- an expression: k holds of its value and the ledger -/
def CP (C : Cz) (te : TE) (ε : Ev) (L : Led) (k : Rs → Led → Prop) : Prop :=
  ∀ (σ : L2.St) (H : Hp) (Q : VK), Rel C.K L ε σ H → ExOk C L H → (∀ v r L' H', Grow H L H' L' → Keeps L L' → Rel C.K L' ε σ H' → RsOk C.K L' H' v r → k r L' → Q v H') → te σ H Q
def CT (C : Cz) (tt : TT) (ε : Ev) (L : Led) (k : Bool → Led → Prop) : Prop :=
  ∀ (σ : L2.St) (H : Hp) (Q : Bool → Hp → Prop), Rel C.K L ε σ H → ExOk C L H → (∀ b L' H', Grow H L H' L' → Keeps L L' → Rel C.K L' ε σ H' → k b L' → Q b H') → tt σ H Q
def CA (C : Cz) (ta : TA) (ε : Ev) (L : Led) (k : List Rs → Led → Prop) : Prop :=
  ∀ (σ : L2.St) (H : Hp) (Q : List V → Hp → Prop), Rel C.K L ε σ H → ExOk C L H → (∀ vs rs L' H', Grow H L H' L' → Keeps L L' → Rel C.K L' ε σ H' → RsAll C.K L' H' vs rs → k rs L' → Q vs H') → ta σ H Q
/-- by values: an operator, a call -/
def OD (C : Cz) (r : R2) (x y : Rs) (L : Led) (k : Rs → Led → Prop) : Prop :=
  ∀ (v w : V) (H : Hp) (Q : VK), LOk C.K L H → RsOk C.K L H v x → RsOk C.K L H w y → (∀ z s L' H', Grow H L H' L' → Keeps L L' → LOk C.K L' H' → RsOk C.K L' H' z s → k s L' → Q z H') → r v w H Q
def CD (C : Cz) (r : List V → Hp → VK → Prop) (xs : List Rs) (L : Led) (k : Rs → Led → Prop) : Prop :=
  ∀ (vs : List V) (H : Hp) (Q : VK), LOk C.K L H → RsAll C.K L H vs xs → (∀ z s L' H', Grow H L H' L' → Keeps L L' → LOk C.K L' H' → RsOk C.K L' H' z s → k s L' → Q z H') → r vs H Q
structure Post where
  nx : Ev → Led → Prop
  rt : Rs → Led → Prop
  bk : Ev → Led → Prop := fun _ _ => False
  ct : Ev → Led → Prop := fun _ _ => False
def StOk (K : PySem.W.Frag) (L : Led) (H : Hp) (q : Ev → Led → Prop) (D : L2.St → Hp → Prop) : Prop := ∀ ε' L' σ' H', Grow H L H' L' → Rel K L' ε' σ' H' → q ε' L' → D σ' H'
def RtOk (K : PySem.W.Frag) (L : Led) (H : Hp) (q : Rs → Led → Prop) (D : VK) : Prop := ∀ v r L' H', Grow H L H' L' → LOk K L' H' → RsOk K L' H' v r → q r L' → D v H'
theorem StOk.grow {K : PySem.W.Frag} {L L' : Led} {H H' : Hp} {q : Ev → Led → Prop} {D : L2.St → Hp → Prop} (h : StOk K L H q D) (g : Grow H L H' L') : StOk K L' H' q D := fun e l σ h2 g2 => h e l σ h2 (g.trans g2)
theorem RtOk.grow {K : PySem.W.Frag} {L L' : Led} {H H' : Hp} {q : Rs → Led → Prop} {D : VK} (h : RtOk K L H q D) (g : Grow H L H' L') : RtOk K L' H' q D := fun v r l h2 g2 => h v r l h2 (g.trans g2)
structure EndsOk (K : PySem.W.Frag) (L : Led) (H : Hp) (P : Post) (D : Ends) : Prop where
  nx : StOk K L H P.nx D.nx
  rt : RtOk K L H P.rt D.rt
  bk : StOk K L H P.bk D.bk
  ct : StOk K L H P.ct D.ct
theorem EndsOk.grow {K : PySem.W.Frag} {L L' : Led} {H H' : Hp} {P : Post} {D : Ends} (h : EndsOk K L H P D) (g : Grow H L H' L') : EndsOk K L' H' P D := ⟨h.nx.grow g, h.rt.grow g, h.bk.grow g, h.ct.grow g⟩
def HS (C : Cz) (t : TS) (ε : Ev) (L : Led) (P : Post) : Prop :=
  ∀ (σ : L2.St) (H : Hp) (D : Ends), Rel C.K L ε σ H → ExOk C L H → EndsOk C.K L H P D → t D σ H

section
variable {C : Cz} {ε : Ev} {L : Led} {k : Rs → Led → Prop} {kb : Bool → Led → Prop} {ta tb te tl : TE} {tt tu : TT}
/-! ### expressions -/
theorem cp_var {i : Nat} {r : Rs} (h : ε[i]? = some (some r)) (q : k r L) : CP C (tVar i) ε L k := fun σ H Q R X z => by
  obtain ⟨v, e, o⟩ := R.slot i r h
  exact ⟨v, e, z v r L H (Grow.refl H L) (Keeps.refl L) R o q⟩
theorem cp_of {v : V} {r : Rs} (h : ∀ H, RsOk C.K L H v r) (q : k r L) : CP C (tC v) ε L k := fun σ H Q R X z =>
  z v r L H (Grow.refl H L) (Keeps.refl L) R (h H) q
theorem cp_int {i : Int} (q : k (.dat (.int i)) L) : CP C (tC (.int i)) ε L k := cp_of (r := .dat (.int i)) (fun _ => Rp.int i) q
theorem cp_bl {b : Bool} (q : k (.dat (.bool b)) L) : CP C (tC (.bl b)) ε L k := cp_of (r := .dat (.bool b)) (fun _ => Rp.bl b) q
theorem cp_str {x : Str} (q : k (.dat (.str x)) L) : CP C (tC (.str x)) ε L k := cp_of (r := .dat (.str x)) (fun _ => Rp.str x) q
theorem cp_non (q : k (.dat .none) L) : CP C (tC .non) ε L k := cp_of (r := .dat .none) (fun _ => Rp.non) q
theorem cp_ref {a : Addr} (q : k (.raw (.ref a)) L) : CP C (tC (.ref a)) ε L k := cp_of (r := .raw (.ref a)) (fun _ => rfl) q
theorem cp_ty {n : String} (q : k (.raw (.ty n)) L) : CP C (tC (.ty n)) ε L k := cp_of (r := .raw (.ty n)) (fun _ => rfl) q
theorem CP.mono {k' : Rs → Led → Prop} (h : CP C te ε L k) (f : ∀ r L, k r L → k' r L) : CP C te ε L k' := fun σ H Q R X z => h σ H Q R X fun v r L' H' g kp R' o q => z v r L' H' g kp R' o (f r L' q)
theorem CT.mono {k' : Bool → Led → Prop} (h : CT C tt ε L kb) (f : ∀ r L, kb r L → k' r L) : CT C tt ε L k' := fun σ H Q R X z => h σ H Q R X fun b L' H' g kp R' q => z b L' H' g kp R' (f b L' q)
theorem HS.mono {t : TS} {P P' : Post} (h : HS C t ε L P) (f1 : ∀ e l, P.nx e l → P'.nx e l) (f2 : ∀ r l, P.rt r l → P'.rt r l) (f3 : ∀ e l, P.bk e l → P'.bk e l) (f4 : ∀ e l, P.ct e l → P'.ct e l) : HS C t ε L P' := fun σ H D R X E =>
  h σ H D R X ⟨fun e l s h2 g r q => E.nx e l s h2 g r (f1 _ _ q), fun v r l h2 g lo o q => E.rt v r l h2 g lo o (f2 _ _ q), fun e l s h2 g r q => E.bk e l s h2 g r (f3 _ _ q), fun e l s h2 g r q => E.ct e l s h2 g r (f4 _ _ q)⟩
theorem cp_op {r : R2} (h : CP C ta ε L fun x L1 => CP C tb ε L1 fun y L2 => OD C r x y L2 k) : CP C (tOp r ta tb) ε L k := fun σ H Q R X z =>
  h σ H _ R X fun v x L1 H1 g1 k1 R1 o1 h1 => h1 σ H1 _ R1 (X.grow g1) fun w y L2 H2 g2 k2 R2 o2 h2 =>
    h2 v w H2 Q R2.led (o1.grow g2 k2) o2 fun u s L3 H3 g3 k3 l3 o3 q => z u s L3 H3 ((g1.trans g2).trans g3) ((k1.trans k2).trans k3) (R2.grow g3 k3 l3) o3 q
theorem cp_un {r : V → Hp → VK → Prop} (h : CP C ta ε L fun x L1 => CD C (fun vs H Q => ∃ v, vs = [v] ∧ r v H Q) [x] L1 k) : CP C (tUn r ta) ε L k := fun σ H Q R X z =>
  h σ H _ R X fun v x L1 H1 g1 k1 R1 o1 h1 => by
    obtain ⟨v', e, q⟩ := h1 [v] H1 Q R1.led (.cons o1 .nil) fun u s L3 H3 g3 k3 l3 o3 q => z u s L3 H3 (g1.trans g3) (k1.trans k3) (R1.grow g3 k3 l3) o3 q
    cases e
    exact q
theorem ca_nil {k : List Rs → Led → Prop} (q : k [] L) : CA C tNil ε L k := fun σ H Q R X z => z [] [] L H (Grow.refl H L) (Keeps.refl L) R .nil q
theorem ca_cons {tr : TA} {k : List Rs → Led → Prop} (h : CP C ta ε L fun x L1 => CA C tr ε L1 fun xs L2 => k (x :: xs) L2) : CA C (tCons ta tr) ε L k := fun σ H Q R X z =>
  h σ H _ R X fun v x L1 H1 g1 k1 R1 o1 h1 => h1 σ H1 _ R1 (X.grow g1) fun vs xs L2 H2 g2 k2 R2 o2 q => z (v :: vs) (x :: xs) L2 H2 (g1.trans g2) (k1.trans k2) R2 (.cons (o1.grow g2 k2) o2) q
/-- a built-in's call -/
theorem cp_cb {ta : TA} {r : List V → Hp → VK → Prop} (h : CA C ta ε L fun xs L1 => CD C r xs L1 k) : CP C (tCB r ta) ε L k := fun σ H Q R X z =>
  h σ H _ R X fun vs xs L1 H1 g1 k1 R1 o1 h1 => h1 vs H1 Q R1.led o1 fun u s L3 H3 g3 k3 l3 o3 q => z u s L3 H3 (g1.trans g3) (k1.trans k3) (R1.grow g3 k3 l3) o3 q
/-! ### tests -/
theorem ct_test (h : CP C te ε L fun x L1 => ∃ b, x = .dat (.bool b) ∧ kb b L1) : CT C (tTest te) ε L kb := fun σ H Q R X z =>
  h σ H _ R X fun v x L1 H1 g1 k1 R1 o1 ⟨b, e, q⟩ => by
    subst e
    cases o1
    exact ⟨b, rfl, z b L1 H1 g1 k1 R1 q⟩
theorem ct_b (h : CP C te ε L fun x L1 => ∃ b, x = .dat (.bool b) ∧ kb b L1) : CT C (tB te) ε L kb := fun σ H Q R X z =>
  h σ H _ R X fun v x L1 H1 g1 k1 R1 o1 ⟨b, e, q⟩ => by
    subst e
    cases o1
    exact ⟨b, rfl, z b L1 H1 g1 k1 R1 q⟩
theorem ct_and (h : CT C tt ε L fun b L1 => if b = true then CT C tu ε L1 kb else kb false L1) : CT C (tAnd tt tu) ε L kb := fun σ H Q R X z =>
  h σ H _ R X fun b L1 H1 g1 k1 R1 q => by
    cases b with
    | true =>
      rw [if_pos rfl] at q ⊢
      exact q σ H1 Q R1 (X.grow g1) fun c L2 H2 g2 k2 R2 q => z c L2 H2 (g1.trans g2) (k1.trans k2) R2 q
    | false =>
      rw [if_neg (by decide)] at q ⊢
      exact z false L1 H1 g1 k1 R1 q
theorem ct_or (h : CT C tt ε L fun b L1 => if b = true then kb true L1 else CT C tu ε L1 kb) : CT C (tOr tt tu) ε L kb := fun σ H Q R X z =>
  h σ H _ R X fun b L1 H1 g1 k1 R1 q => by
    cases b with
    | true =>
      rw [if_pos rfl] at q ⊢
      exact z true L1 H1 g1 k1 R1 q
    | false =>
      rw [if_neg (by decide)] at q ⊢
      exact q σ H1 Q R1 (X.grow g1) fun c L2 H2 g2 k2 R2 q => z c L2 H2 (g1.trans g2) (k1.trans k2) R2 q
theorem ct_not (h : CT C tt ε L fun b L1 => kb (!b) L1) : CT C (tNot tt) ε L kb := fun σ H Q R X z =>
  h σ H _ R X fun b L1 H1 g1 k1 R1 q => z (!b) L1 H1 g1 k1 R1 q
/-! values that are tests -/
theorem cp_andV (h : CP C ta ε L fun x L1 => ∃ b, x = .dat (.bool b) ∧ if b = true then CP C tb ε L1 k else k (.dat (.bool false)) L1) : CP C (tAndV ta tb) ε L k := fun σ H Q R X z =>
  h σ H _ R X fun v x L1 H1 g1 k1 R1 o1 ⟨b, e, q⟩ => by
    subst e
    cases o1
    refine ⟨b, rfl, ?_⟩
    cases b with
    | true =>
      rw [if_pos rfl] at q ⊢
      exact q σ H1 Q R1 (X.grow g1) fun c s L2 H2 g2 k2 R2 o2 q => z c s L2 H2 (g1.trans g2) (k1.trans k2) R2 o2 q
    | false =>
      rw [if_neg (by decide)] at q ⊢
      exact z _ (.dat (.bool false)) L1 H1 g1 k1 R1 (.bl false) q
theorem cp_orV (h : CP C ta ε L fun x L1 => ∃ b, x = .dat (.bool b) ∧ if b = true then k (.dat (.bool true)) L1 else CP C tb ε L1 k) : CP C (tOrV ta tb) ε L k := fun σ H Q R X z =>
  h σ H _ R X fun v x L1 H1 g1 k1 R1 o1 ⟨b, e, q⟩ => by
    subst e
    cases o1
    refine ⟨b, rfl, ?_⟩
    cases b with
    | true =>
      rw [if_pos rfl] at q ⊢
      exact z _ (.dat (.bool true)) L1 H1 g1 k1 R1 (.bl true) q
    | false =>
      rw [if_neg (by decide)] at q ⊢
      exact q σ H1 Q R1 (X.grow g1) fun c s L2 H2 g2 k2 R2 o2 q => z c s L2 H2 (g1.trans g2) (k1.trans k2) R2 o2 q
theorem cp_notV (h : CP C ta ε L fun x L1 => ∃ b, x = .dat (.bool b) ∧ k (.dat (.bool (!b))) L1) : CP C (tNotV ta) ε L k := fun σ H Q R X z =>
  h σ H _ R X fun v x L1 H1 g1 k1 R1 o1 ⟨b, e, q⟩ => by
    subst e
    cases o1
    exact ⟨b, rfl, z _ (.dat (.bool (!b))) L1 H1 g1 k1 R1 (.bl _) q⟩
theorem cp_if (h : CT C tt ε L fun b L1 => if b = true then CP C ta ε L1 k else CP C tb ε L1 k) : CP C (tIf tt ta tb) ε L k := fun σ H Q R X z =>
  h σ H _ R X fun b L1 H1 g1 k1 R1 q => by
    cases b with
    | true =>
      rw [if_pos rfl] at q ⊢
      exact q σ H1 Q R1 (X.grow g1) fun c s L2 H2 g2 k2 R2 o2 q => z c s L2 H2 (g1.trans g2) (k1.trans k2) R2 o2 q
    | false =>
      rw [if_neg (by decide)] at q ⊢
      exact q σ H1 Q R1 (X.grow g1) fun c s L2 H2 g2 k2 R2 o2 q => z c s L2 H2 (g1.trans g2) (k1.trans k2) R2 o2 q
/-! ### new lists, new tuples -/
theorem rsAll_dats {K : PySem.W.Frag} {H : Hp} : ∀ {vs : List V} {ds : List PyData}, RsAll K L H vs (ds.map Rs.dat) → RpAll K (hid L H) vs ds
  | _, [], .nil => .nil
  | _, d :: r, .cons h t => .cons h (rsAll_dats t)
theorem cp_lst {ta : TA} (h : CA C ta ε L fun xs L1 => ∃ ds : List PyData, xs = ds.map Rs.dat ∧ ds.length ≤ sizeLine ∧ k (.dat (.list ds)) L1) : CP C (tLst ta) ε L k := fun σ H Q R X z =>
  h σ H _ R X fun vs xs L1 H1 g1 k1 R1 o1 ⟨ds, e, hl, q⟩ => by
    subst e
    have o2 := rsAll_dats o1
    refine ⟨by rw [rpAll_len o2]; exact hl, fun p hp => ?_⟩
    have g2 : Grow H1 L1 (upd H1 p (.lst vs)) L1 := grow_new hp
    have hn : p ∉ L1.ks := R1.led.fresh hp
    exact z _ (.dat (.list ds)) L1 _ (g1.trans g2) k1 (R1.grow g2 (Keeps.refl _) (R1.led.new hp)) (.lst (by rw [hid_out hn]; exact upd_same) (rpAll_mono g2.ext o2)) q
theorem cp_lstO {ta : TA} (h : CA C ta ε L fun xs L1 => ∃ ds : List PyData, xs = ds.map Rs.dat ∧ ds.length ≤ sizeLine ∧ ∀ p, p ∉ L1.ks → k (.own p) (L1 ++ [(p, .lst ds)])) : CP C (tLst ta) ε L k := fun σ H Q R X z =>
  h σ H _ R X fun vs xs L1 H1 g1 k1 R1 o1 ⟨ds, e, hl, q⟩ => by
    subst e
    have o2 := rsAll_dats o1
    refine ⟨by rw [rpAll_len o2]; exact hl, fun p hp => ?_⟩
    have g2 : Grow H1 L1 (upd H1 p (.lst vs)) (L1 ++ [(p, .lst ds)]) := grow_own hp
    exact z _ (.own p) _ _ (g1.trans g2) (k1.trans keeps_own) (R1.grow g2 keeps_own (R1.led.own hp o2)) ⟨rfl, by rw [Led.ks, List.map_append]; exact List.mem_append_right _ List.mem_cons_self⟩ (q p (R1.led.fresh hp))
theorem cp_tup {ta : TA} (h : CA C ta ε L fun xs L1 => ∃ ds : List PyData, xs = ds.map Rs.dat ∧ ds.length ≤ sizeLine ∧ k (.dat (.tuple ds)) L1) : CP C (tTup ta) ε L k := fun σ H Q R X z =>
  h σ H _ R X fun vs xs L1 H1 g1 k1 R1 o1 ⟨ds, e, hl, q⟩ => by
    subst e
    have o2 := rsAll_dats o1
    refine ⟨by rw [rpAll_len o2]; exact hl, fun p hp => ?_⟩
    have g2 : Grow H1 L1 (upd H1 p (.tup vs)) L1 := grow_new hp
    have hn : p ∉ L1.ks := R1.led.fresh hp
    exact z _ (.dat (.tuple ds)) L1 _ (g1.trans g2) k1 (R1.grow g2 (Keeps.refl _) (R1.led.new hp)) (.tup (SqT.of (by rw [hid_out hn]; exact upd_same)) (rpAll_mono g2.ext o2)) q

/-! ### statements -/
variable {P : Post} {t u : TS}
theorem hs_next (h : P.nx ε L) : HS C tNext ε L P := fun σ H D R X E => E.nx ε L σ H (Grow.refl H L) R h
theorem hs_brk (h : P.bk ε L) : HS C tBreak ε L P := fun σ H D R X E => E.bk ε L σ H (Grow.refl H L) R h
theorem hs_cont (h : P.ct ε L) : HS C tCont ε L P := fun σ H D R X E => E.ct ε L σ H (Grow.refl H L) R h
theorem hs_seq (h : HS C t ε L { P with nx := fun e l => HS C u e l P }) : HS C (tSeq t u) ε L P := fun σ H D R X E =>
  h σ H _ R X ⟨fun e l s h2 g r q => q s h2 D r (X.grow g) (E.grow g), E.rt, E.bk, E.ct⟩
theorem rel_set {K : PySem.W.Frag} {H : Hp} {σ : L2.St} {i : Nat} {v : V} {r : Rs} (R : Rel K L ε σ H) (o : RsOk K L H v r) : Rel K L (ε.set i (some r)) (σ.set i (some v)) H := by
  refine ⟨by rw [List.length_set, List.length_set]; exact R.len, fun j s e => ?_, R.led⟩
  by_cases h : i = j
  · subst h
    by_cases hl : i < ε.length
    · rw [List.getElem?_set_self hl] at e
      cases e
      exact ⟨v, by rw [List.getElem?_set_self (by rw [R.len]; exact hl)], o⟩
    · rw [List.getElem?_eq_none (by rw [List.length_set]; omega)] at e
      cases e
  · rw [List.getElem?_set_ne h] at e
    obtain ⟨w, e2, o2⟩ := R.slot j s e
    exact ⟨w, by rw [List.getElem?_set_ne h]; exact e2, o2⟩
theorem hs_asg {i : Nat} (h : CP C te ε L fun r L1 => P.nx (ε.set i (some r)) L1) : HS C (tAsg te (gName i)) ε L P := fun σ H D R X E =>
  h σ H _ R X fun v r L1 H1 g1 k1 R1 o1 q => E.nx _ L1 _ H1 g1 (rel_set R1 o1) q
theorem hs_drop (h : CP C te ε L fun r L1 => P.nx ε L1) : HS C (tDrop te) ε L P := fun σ H D R X E =>
  h σ H _ R X fun v r L1 H1 g1 k1 R1 o1 q => E.nx _ L1 _ H1 g1 R1 q
theorem hs_ret (h : CP C te ε L P.rt) : HS C (tRet te) ε L P := fun σ H D R X E =>
  h σ H _ R X fun v r L1 H1 g1 k1 R1 o1 q => E.rt v r L1 H1 g1 R1.led o1 q
theorem hs_retN (h : P.rt (.dat .none) L) : HS C tRetN ε L P := fun σ H D R X E => E.rt _ (.dat .none) L H (Grow.refl H L) R.led .non h
theorem hs_if (h : CT C tt ε L fun b L1 => if b = true then HS C t ε L1 P else HS C u ε L1 P) : HS C (tIfS tt t u) ε L P := fun σ H D R X E =>
  h σ H _ R X fun b L1 H1 g1 k1 R1 q => by
    cases b with
    | true =>
      rw [if_pos rfl] at q ⊢
      exact q σ H1 D R1 (X.grow g1) (E.grow g1)
    | false =>
      rw [if_neg (by decide)] at q ⊢
      exact q σ H1 D R1 (X.grow g1) (E.grow g1)
theorem hs_aug {i : Nat} {ti : TIp} {x : Rs} (hx : ε[i]? = some (some x)) (h : CP C te ε L fun y L1 => OD C ti x y L1 fun z L2 => P.nx (ε.set i (some z)) L2) : HS C (tAug i te ti) ε L P := fun σ H D R X E => by
  obtain ⟨v, e, o⟩ := R.slot i x hx
  refine ⟨v, e, h σ H _ R X fun w y L1 H1 g1 k1 R1 o1 q => ?_⟩
  exact q v w H1 _ R1.led (o.grow g1 k1) o1 fun u s L3 H3 g3 k3 l3 o3 q => E.nx _ L3 _ H3 (g1.trans g3) (rel_set (R1.grow g3 k3 l3) o3) q
end
end Z

set_option Elab.async false
set_option linter.all false
set_option maxRecDepth 100000
set_option maxHeartbeats 2000000
namespace Z
open PySem PySem.Spec PyProof.Rows L2
/-! ### a def's promise over data -/
abbrev DSp := List Rs → Led → (Rs → Led → Prop) → (Addr → Led → Prop) → Prop
def lift (K : PySem.W.Frag) (d : DSp) : Sp := fun vs H Q E => ∃ rs L k x, RsAll K L H vs rs ∧ LOk K L H ∧ d rs L k x ∧
  (∀ v r L' H', Grow H L H' L' → Keeps L L' → LOk K L' H' → RsOk K L' H' v r → k r L' → Q v H') ∧ (∀ c L' H', Grow H L H' L' → Keeps L L' → LOk K L' H' → x c L' → E (.ref c) none H')
section
variable {C : Cz} {ε : Ev} {L : Led} {k : Rs → Led → Prop} {ta : TA} {d : DSp}
theorem cp_call (h : CA C ta ε L fun rs L1 => d rs L1 k fun _ _ => False) : CP C (tCall (lift C.K d) [] E0 ta) ε L k := fun σ H Q R X z =>
  h σ H _ R X fun vs rs L1 H1 g1 k1 R1 o1 q => by
    rw [List.append_nil]
    exact ⟨rs, L1, k, _, o1, R1.led, q, fun v r L2 H2 g2 k2 l2 o2 q2 => z v r L2 H2 (g1.trans g2) (k1.trans k2) (R1.grow g2 k2 l2) o2 q2, fun _ _ _ _ _ _ f => f.elim⟩
theorem cp_callS (h : CA C ta ε L fun rs L1 => d rs L1 k fun c L2 => C.kx c ε L2) : CP C (tCallS (lift C.K d) (WE C.W) ta) ε L k := fun σ H Q R X z =>
  h σ H _ R X fun vs rs L1 H1 g1 k1 R1 o1 q =>
    ⟨rs, L1, k, _, o1, R1.led, q, fun v r L2 H2 g2 k2 l2 o2 q2 => z v r L2 H2 (g1.trans g2) (k1.trans k2) (R1.grow g2 k2 l2) o2 q2, fun c L2 H2 g2 k2 l2 f => X c ε σ L2 H2 (g1.trans g2) (R1.grow g2 k2 l2) f⟩
end
/-! ### a def by its body -/
abbrev C0 (K : PySem.W.Frag) : Cz := ⟨K, fun _ _ _ _ => False, fun _ _ _ => False⟩
theorem exOk0 {K : PySem.W.Frag} {L : Led} {H : Hp} : ExOk (C0 K) L H := fun _ _ _ _ _ _ _ f => f.elim
def ev0 (n : Nat) (rs : List Rs) : Ev := rs.map some ++ List.replicate (n - rs.length) none
theorem rel_start {K : PySem.W.Frag} {L : Led} {H : Hp} {N : List Str} {vs : List V} {rs : List Rs} (h : RsAll K L H vs rs) (l : LOk K L H) : Rel K L (ev0 N.length rs) (L2.start N vs) H := by
  have e := Paired.length h
  refine ⟨?_, fun i r hr => ?_, l⟩
  · unfold L2.start ev0
    rw [List.length_append, List.length_append, List.length_map, List.length_map, List.length_replicate, List.length_replicate, e]
  · unfold ev0 at hr
    by_cases hi : i < rs.length
    · rw [List.getElem?_append_left (by simpa using hi), List.getElem?_map] at hr
      cases e2 : rs[i]? with
      | none =>
        rw [e2] at hr
        cases hr
      | some r' =>
        rw [e2] at hr
        cases hr
        have hv : i < vs.length := by omega
        have key : ∀ {vs : List V} {rs : List Rs} {i : Nat} {r : Rs}, RsAll K L H vs rs → rs[i]? = some r → ∃ v, vs[i]? = some v ∧ RsOk K L H v r := by
          intro vs rs i r p
          induction p generalizing i with
          | nil => intro q; simp at q
          | cons a b ih =>
            intro q
            cases i with
            | zero => simp at q; subst q; exact ⟨_, rfl, a⟩
            | succ j =>
              obtain ⟨v, q1, q2⟩ := ih (i := j) (by simpa using q)
              exact ⟨v, by simpa using q1, q2⟩
        obtain ⟨v, e3, o⟩ := key h e2
        refine ⟨v, ?_, o⟩
        unfold L2.start
        rw [List.getElem?_append_left (by simpa using hv), List.getElem?_map, e3]
        rfl
    · rw [List.getElem?_append_right (by simpa using hi), List.getElem?_replicate] at hr
      split at hr <;> cases hr
/-! ### iterators -/
/-- J hands out the data ds, one by one, from H on -/
def ItOk (K : PySem.W.Frag) (L : Led) (H : Hp) (J : It) (ds : List PyData) : Prop := ∀ L' H', Grow H L H' L' → LOk K L' H' → ∀ i, (i = ds.length → J.stop i H') ∧
  ∀ d, ds[i]? = some d → J.go i H' ∧ ∀ v H2, J.yld i H' v H2 → Grow H' L' H2 L' ∧ LOk K L' H2 ∧ Rp K (hid L' H2) v d
def CI (C : Cz) (wi : TI) (ε : Ev) (L : Led) (q : List PyData → Led → Prop) : Prop := ∀ (σ : L2.St) (H : Hp) (R : It → Hp → Prop), Rel C.K L ε σ H → ExOk C L H →
  (∀ J ds L' H', Grow H L H' L' → Keeps L L' → Rel C.K L' ε σ H' → ItOk C.K L' H' J ds → q ds L' → R J H') → wi σ H R
/-- a target -/
def CG (C : Cz) (g : TG) (r : Rs) (ε : Ev) (L : Led) (q : Ev → Led → Prop) : Prop := ∀ (v : V) (σ : L2.St) (H : Hp) (Q : L2.St → Hp → Prop), Rel C.K L ε σ H → RsOk C.K L H v r →
  (∀ ε' L' σ' H', Grow H L H' L' → Keeps L L' → Rel C.K L' ε' σ' H' → q ε' L' → Q σ' H') → g v σ H Q
section
variable {C : Cz} {ε : Ev} {L : Led} {P : Post} {k : Rs → Led → Prop} {q : Ev → Led → Prop} {wi wi1 : TI} {g g1 : TG} {tb : TS} {tt tt1 : TT} {te : TE}
theorem cg_name {i : Nat} {r : Rs} (h : q (ε.set i (some r)) L) : CG C (gName i) r ε L q := fun v σ H Q R o z => z _ L _ H (Grow.refl H L) (Keeps.refl L) (rel_set R o) h
theorem cg_tup2 {K : PySem.W.Frag} {i j : Nat} {a b : PyData} (h : q ((ε.set i (some (.dat a))).set j (some (.dat b))) L) (hK : C.K = K := by rfl) : CG C (gTup K 2 (gCons (gName i) (gCons (gName j) gNil))) (.dat (.tuple [a, b])) ε L q := fun v σ H Q R o z => by
  subst hK
  cases o with
  | @tup p xs ds hs hx =>
    cases hx with
    | @cons v1 _ _ _ h1 ht =>
      cases ht with
      | @cons v2 _ _ _ h2 hn =>
        cases hn
        exact ⟨p, [v1, v2], rfl, ext_t hid_sub hs, rfl, v1, [v2], rfl, v2, [], rfl, rfl, z _ L _ H (Grow.refl H L) (Keeps.refl L) (rel_set (r := .dat b) (rel_set (r := .dat a) R h1) h2) h⟩
theorem cg_tup3 {K : PySem.W.Frag} {i j l : Nat} {a b c : PyData} (h : q (((ε.set i (some (.dat a))).set j (some (.dat b))).set l (some (.dat c))) L) (hK : C.K = K := by rfl) : CG C (gTup K 3 (gCons (gName i) (gCons (gName j) (gCons (gName l) gNil)))) (.dat (.tuple [a, b, c])) ε L q := fun v σ H Q R o z => by
  subst hK
  cases o with
  | @tup p xs ds hs hx =>
    cases hx with
    | @cons v1 _ _ _ h1 ht =>
      cases ht with
      | @cons v2 _ _ _ h2 ht =>
        cases ht with
        | @cons v3 _ _ _ h3 hn =>
          cases hn
          exact ⟨p, [v1, v2, v3], rfl, ext_t hid_sub hs, rfl, v1, [v2, v3], rfl, v2, [v3], rfl, v3, [], rfl, rfl, z _ L _ H (Grow.refl H L) (Keeps.refl L) (rel_set (r := .dat c) (rel_set (r := .dat b) (rel_set (r := .dat a) R h1) h2) h3) h⟩
theorem hs_for (h : CI C wi ε L fun ds L1 => ∃ I : Nat → Ev → Led → Prop, I 0 ε L1 ∧
      (∀ i d ε' L', ds[i]? = some d → I i ε' L' → CG C g (.dat d) ε' L' fun ε2 L2 => HS C tb ε2 L2 { P with nx := I (i + 1), ct := I (i + 1), bk := P.nx }) ∧ ∀ ε' L', I ds.length ε' L' → P.nx ε' L') : HS C (tFor wi g tb) ε L P := fun σ H D R X E =>
  h σ H _ R X fun J ds L1 H1 g1 k1 R1 J1 ⟨I, i0, hs, hd⟩ => by
    refine ⟨fun i m σ' H' => m = ds.length - i ∧ i ≤ ds.length ∧ ∃ ε' L', Grow H1 L1 H' L' ∧ Rel C.K L' ε' σ' H' ∧ I i ε' L', ⟨_, rfl, Nat.zero_le _, ε, L1, Grow.refl _ _, R1, i0⟩, ?_⟩
    rintro i m σ' H' ⟨rfl, hi, ε', L', g', R', hI⟩
    obtain ⟨js, jg⟩ := J1 L' H' g' R'.led i
    by_cases hl : i < ds.length
    · have hx : ds[i]? = some ds[i] := List.getElem?_eq_getElem hl
      obtain ⟨j1, j2⟩ := jg _ hx
      refine .inr ⟨j1, fun σ2 H2 => i + 1 ≤ ds.length ∧ ∃ ε2 L2, Grow H1 L1 H2 L2 ∧ Rel C.K L2 ε2 σ2 H2 ∧ I (i + 1) ε2 L2, fun σ2 H2 ⟨a, b⟩ => ⟨ds.length - (i + 1), by omega, rfl, a, b⟩, fun v H2 y => ?_⟩
      obtain ⟨g2, l2, rp⟩ := j2 v H2 y
      refine hs i _ ε' L' hx hI v σ' H2 _ (R'.grow g2 (Keeps.refl _) l2) rp fun ε3 L3 σ3 H3 g3 k3 R3 q3 => ?_
      have gg := g1.trans (g'.trans (g2.trans g3))
      refine q3 σ3 H3 _ R3 (X.grow gg) ⟨fun e l s h2 g r z => ⟨hl, e, l, g'.trans (g2.trans (g3.trans g)), r, z⟩, E.rt.grow gg, E.nx.grow gg, fun e l s h2 g r z => ⟨hl, e, l, g'.trans (g2.trans (g3.trans g)), r, z⟩⟩
    · have e : i = ds.length := by omega
      exact .inl ⟨js e, E.nx ε' L' σ' H' (g1.trans g') R' (hd ε' L' (e ▸ hI))⟩
theorem hs_while {tc : TT} (I : Ev → Led → Prop) (μ : Ev → Led → Nat) (h0 : I ε L) (hs : ∀ ε' L', I ε' L' → CT C tc ε' L' fun b L2 => if b = true then HS C tb ε' L2 { P with nx := fun e l => I e l ∧ μ e l < μ ε' L', ct := fun e l => I e l ∧ μ e l < μ ε' L', bk := P.nx } else P.nx ε' L2) : HS C (tWhile tc tb) ε L P := fun σ H D R X E => by
  refine ⟨fun m σ' H' => ∃ ε' L', m = μ ε' L' ∧ Grow H L H' L' ∧ Rel C.K L' ε' σ' H' ∧ I ε' L', ⟨_, ε, L, rfl, Grow.refl _ _, R, h0⟩, ?_⟩
  rintro m σ' H' ⟨ε', L', rfl, g', R', hI⟩
  refine hs ε' L' hI σ' H' _ R' (X.grow g') fun b L2 H2 g2 k2 R2 q => ?_
  cases b with
  | true =>
    rw [if_pos rfl] at q ⊢
    refine ⟨fun σ3 H3 => ∃ ε3 L3, μ ε3 L3 < μ ε' L' ∧ Grow H L H3 L3 ∧ Rel C.K L3 ε3 σ3 H3 ∧ I ε3 L3, fun σ3 H3 ⟨ε3, L3, a, b, c, d⟩ => ⟨_, a, ε3, L3, rfl, b, c, d⟩, ?_⟩
    have gg := g'.trans g2
    exact q σ' H2 _ R2 (X.grow gg) ⟨fun e l s h2 g r z => ⟨e, l, z.2, gg.trans g, r, z.1⟩, E.rt.grow gg, E.nx.grow gg, fun e l s h2 g r z => ⟨e, l, z.2, gg.trans g, r, z.1⟩⟩
  | false =>
    rw [if_neg (by decide)] at q ⊢
    exact E.nx ε' L2 σ' H2 (g'.trans g2) R2 q
end
end Z

set_option Elab.async false
set_option linter.all false
set_option maxRecDepth 100000
set_option maxHeartbeats 2000000
namespace Z
open PySem PySem.Spec PyProof.Rows L2
/-! ### sources -/
/-- a list, a tuple or a text -/
def iSq (K : PySem.W.Frag) (te : TE) : TI := fun σ H R => te σ H fun v H1 => (∃ a, v = .ref a ∧ (∃ xs, SqL K H1 a xs) ∧ R (Itl K a) H1) ∨ (∃ a, v = .ref a ∧ (∃ xs, SqT K H1 a xs) ∧ R (Itt K a) H1) ∨ ∃ x, v = .str x ∧ R (Its x) H1
theorem pi_sq {X : Cx} {tg e : Expr} {te : TE} (he : PE X e te) : PI X tg e (iSq X.K te) := by
  refine ⟨fun pins s σ H R I h => ?_⟩
  refine thn (he.run pins s σ H _ I h) fun v s1 ⟨x, H1, I1, r1, q⟩ => ?_
  rcases q with ⟨a, rfl, ⟨xs, hs⟩, q⟩ | ⟨a, rfl, ⟨xs, hs⟩, q⟩ | ⟨z, rfl, q⟩
  · obtain rfl : v = Value.ref a := r1
    obtain ⟨its, rv, pl, hz⟩ := I1.list hs
    refine wpAny_pyIter_list pl.isList ?_
    exact pi_one (tk := s1.toks) I1 _ (turn_list a _) ⟨_, Heap.get?_push_size _ rfl, rfl, rfl⟩ q
  · obtain rfl : v = Value.ref a := r1
    obtain ⟨its, rv, pl, hz⟩ := I1.tuple hs
    refine wpAny_pyIter_tuple (show s1.heap.IsTuple a its.toArray from pl) ?_
    exact pi_one (tk := s1.toks) I1 _ (turn_tuple a _) ⟨_, Heap.get?_push_size _ rfl, rfl, rfl⟩ q
  · obtain ⟨t, rfl⟩ := r1
    cases hz : z.cps.all (· < 128) with
    | false => exact wpAny_pyIter_wide hz (pi_one (tk := s1.toks) I1 _ (turn_str _ z t "str_iterator" (.inr rfl)) ⟨_, Heap.get?_push_size _ rfl, rfl, rfl⟩ q)
    | true => exact wpAny_pyIter_ascii hz (pi_one (tk := s1.toks) I1 _ (turn_str _ z t "str_ascii_iterator" (.inl rfl)) ⟨_, Heap.get?_push_size _ rfl, rfl, rfl⟩ q)
/-- one sign as data -/
def sgn (c : Nat) : PyData := .str ⟨#[c]⟩
/-- what is walked over a value, as data -/
inductive SeqOf : Rs → List PyData → Prop
  | lst (ds : List PyData) : SeqOf (.dat (.list ds)) ds
  | tup (ds : List PyData) : SeqOf (.dat (.tuple ds)) ds
  | str (x : Str) : SeqOf (.dat (.str x)) (x.cps.toList.map sgn)
  | scr (ns : List Int) : SeqOf (.scr ns) (ns.map PyData.int)
section
variable {C : Cz} {ε : Ev} {L : Led} {te : TE} {ta : TA} {q : List PyData → Led → Prop}
theorem it_list {K : PySem.W.Frag} {H : Hp} {a : Addr} {xs : List V} {ds : List PyData} (h : ∀ H', Ext (hid L H) H' → SqL K H' a xs) (hx : RpAll K (hid L H) xs ds) : ItOk K L H (Itl K a) ds := fun L' H' g l i => by
  have e : Ext (hid L H) H' := g.ext.trans hid_sub
  have hl := rpAll_len hx
  refine ⟨fun hi => ⟨xs, h _ e, by omega⟩, fun d hd => ?_⟩
  obtain ⟨v, e1, r1⟩ := rpAll_get hx hd
  refine ⟨⟨xs, v, h _ e, e1⟩, fun w H2 ⟨y1, y2⟩ => ?_⟩
  subst y1
  have := y2 xs (h _ e)
  rw [e1] at this
  cases this
  exact ⟨Grow.refl _ _, l, rp_mono g.ext r1⟩
theorem it_tup {K : PySem.W.Frag} {H : Hp} {a : Addr} {xs : List V} {ds : List PyData} (h : SqT K (hid L H) a xs) (hx : RpAll K (hid L H) xs ds) : ItOk K L H (Itt K a) ds := fun L' H' g l i => by
  have e : Ext (hid L H) H' := g.ext.trans hid_sub
  have hl := rpAll_len hx
  refine ⟨fun hi => ⟨xs, ext_t e h, by omega⟩, fun d hd => ?_⟩
  obtain ⟨v, e1, r1⟩ := rpAll_get hx hd
  refine ⟨⟨xs, v, ext_t e h, e1⟩, fun w H2 ⟨y1, y2⟩ => ?_⟩
  subst y1
  have := y2 xs (ext_t e h)
  rw [e1] at this
  cases this
  exact ⟨Grow.refl _ _, l, rp_mono g.ext r1⟩
theorem it_str {K : PySem.W.Frag} {H : Hp} (x : Str) : ItOk K L H (Its x) (x.cps.toList.map sgn) := fun L' H' g l i => by
  refine ⟨fun hi => ?_, fun d hd => ?_⟩
  · rw [List.length_map, Array.length_toList] at hi
    exact Nat.le_of_eq hi.symm
  · rw [List.getElem?_map, Array.getElem?_toList] at hd
    cases e : x.cps[i]? with
    | none =>
      rw [e] at hd
      cases hd
    | some c =>
      rw [e] at hd
      cases hd
      refine ⟨(Array.getElem?_eq_some_iff.mp e).1, fun w H2 ⟨y1, c', y2, y3⟩ => ?_⟩
      subst y1
      rw [e] at y2
      cases y2
      subst y3
      exact ⟨Grow.refl _ _, l, .str _⟩
theorem it_range {K : PySem.W.Frag} {H : Hp} (lo : Int) (n : Nat) : ItOk K L H (Itr lo n) ((List.range n).map fun i : Nat => PyData.int (lo + (i : Int))) := fun L' H' g l i => by
  refine ⟨fun hi => ?_, fun d hd => ?_⟩
  · rw [List.length_map, List.length_range] at hi
    exact Nat.le_of_eq hi.symm
  · rw [List.getElem?_map] at hd
    by_cases h : i < n
    · rw [List.getElem?_range h] at hd
      cases hd
      refine ⟨h, fun w H2 ⟨y1, y2⟩ => ?_⟩
      subst y1 y2
      exact ⟨Grow.refl _ _, l, .int _⟩
    · rw [List.getElem?_eq_none (by rw [List.length_range]; omega)] at hd
      cases hd
theorem ci_sq {K : PySem.W.Frag} (h : CP C te ε L fun r L1 => ∃ ds, SeqOf r ds ∧ q ds L1) (hK : C.K = K := by rfl) : CI C (iSq K te) ε L q := fun σ H R Rl X z => by
  subst hK
  refine h σ H _ Rl X fun v r L1 H1 g1 k1 R1 o1 ⟨ds, hs, hq⟩ => ?_
  cases hs with
  | lst =>
    cases o1 with
    | @lst a xs _ e ha => exact .inl ⟨a, rfl, ⟨xs, SqL.of (hid_sub _ _ e)⟩, z _ ds L1 H1 g1 k1 R1 (it_list (fun H' x => SqL.of (x _ _ e)) ha) hq⟩
  | tup =>
    cases o1 with
    | @tup a xs _ e ha => exact .inr (.inl ⟨a, rfl, ⟨xs, ext_t hid_sub e⟩, z _ ds L1 H1 g1 k1 R1 (it_tup e ha) hq⟩)
  | str x =>
    cases o1
    exact .inr (.inr ⟨x, rfl, z _ _ L1 H1 g1 k1 R1 (it_str x) hq⟩)
  | scr ns =>
    obtain ⟨a, e, hs⟩ := o1
    exact .inl ⟨a, e, ⟨_, ext_l hid_sub hs⟩, z _ _ L1 H1 g1 k1 R1 (it_list (fun H' x => ext_l x hs) (rpAll_ints ns)) hq⟩
theorem rsAll_int1 {K : PySem.W.Frag} {H : Hp} {vs : List V} {n : Int} (o : RsAll K L H vs [.dat (.int n)]) : vs = [.int n] := by
  cases o with
  | cons a b =>
    cases b
    cases a
    rfl
theorem rsAll_int2 {K : PySem.W.Frag} {H : Hp} {vs : List V} {n m : Int} (o : RsAll K L H vs [.dat (.int n), .dat (.int m)]) : vs = [.int n, .int m] := by
  cases o with
  | cons a b =>
    cases a
    rw [rsAll_int1 b]
theorem rsAll_int3 {K : PySem.W.Frag} {H : Hp} {vs : List V} {n m l : Int} (o : RsAll K L H vs [.dat (.int n), .dat (.int m), .dat (.int l)]) : vs = [.int n, .int m, .int l] := by
  cases o with
  | cons a b =>
    cases a
    rw [rsAll_int2 b]
def rng (lo : Int) (n : Nat) : List PyData := (List.range n).map fun i : Nat => PyData.int (lo + (i : Int))
theorem ci_range1 (h : CA C ta ε L fun rs L1 => ∃ n : Int, rs = [.dat (.int n)] ∧ (-(2 ^ 62) ≤ n ∧ n < 2 ^ 62) ∧ q (rng 0 n.toNat) L1) : CI C (iRng1 ta) ε L q := fun σ H R Rl X z =>
  h σ H _ Rl X fun vs rs L1 H1 g1 k1 R1 o1 ⟨n, e, hb, hq⟩ => by
    subst e
    exact ⟨n, rsAll_int1 o1, hb.1, hb.2, z _ _ L1 H1 g1 k1 R1 (it_range 0 _) hq⟩
theorem ci_range2 (h : CA C ta ε L fun rs L1 => ∃ n m : Int, rs = [.dat (.int n), .dat (.int m)] ∧ (-(2 ^ 62) ≤ n ∧ n < 2 ^ 62 ∧ -(2 ^ 62) ≤ m ∧ m < 2 ^ 62) ∧ q (rng n (m - n).toNat) L1) : CI C (iRng2 ta) ε L q := fun σ H R Rl X z =>
  h σ H _ Rl X fun vs rs L1 H1 g1 k1 R1 o1 ⟨n, m, e, hb, hq⟩ => by
    subst e
    exact ⟨n, m, rsAll_int2 o1, hb, z _ _ L1 H1 g1 k1 R1 (it_range n _) hq⟩
/-- a step of minus one -/
theorem it_rangeD {K : PySem.W.Frag} {H : Hp} (lo c : Int) (n : Nat) : ItOk K L H (Itc lo c n) ((List.range n).map fun i : Nat => PyData.int (lo + (i : Int) * c)) := fun L' H' g l i => by
  refine ⟨fun hi => ?_, fun d hd => ?_⟩
  · rw [List.length_map, List.length_range] at hi
    exact Nat.le_of_eq hi.symm
  · rw [List.getElem?_map] at hd
    by_cases h : i < n
    · rw [List.getElem?_range h] at hd
      cases hd
      refine ⟨h, fun w H2 ⟨y1, y2⟩ => ?_⟩
      subst y1 y2
      exact ⟨Grow.refl _ _, l, .int _⟩
    · rw [List.getElem?_eq_none (by rw [List.length_range]; omega)] at hd
      cases hd
theorem ci_rangeD (h : CA C ta ε L fun rs L1 => ∃ n m : Int, rs = [.dat (.int n), .dat (.int m), .dat (.int (-1))] ∧ (-(2 ^ 62) ≤ n ∧ n < 2 ^ 62 ∧ -(2 ^ 62) ≤ m ∧ m < 2 ^ 62) ∧
    q ((List.range (n - m).toNat).map fun i : Nat => PyData.int (n + (i : Int) * (-1))) L1) : CI C (iRng3 ta) ε L q := fun σ H R Rl X z =>
  h σ H _ Rl X fun vs rs L1 H1 g1 k1 R1 o1 ⟨n, m, e, hb, hq⟩ => by
    subst e
    exact ⟨n, m, -1, _, rsAll_int3 o1, RgC.neg hb.1 hb.2.1 hb.2.2.1 hb.2.2.2, z _ _ L1 H1 g1 k1 R1 (it_rangeD n (-1) _) hq⟩
end

/-! ### comprehensions -/
def wipeE (ε : Ev) : List Nat → Ev
  | [] => ε
  | v :: vs => (wipeE ε vs).set v none
theorem rel_none {K : PySem.W.Frag} {L : Led} {ε : Ev} {σ : L2.St} {H : Hp} (R : Rel K L ε σ H) (i : Nat) : Rel K L (ε.set i none) (σ.set i none) H := by
  refine ⟨by rw [List.length_set, List.length_set]; exact R.len, fun j s e => ?_, R.led⟩
  by_cases h : i = j
  · subst h
    by_cases hl : i < ε.length
    · rw [List.getElem?_set_self hl] at e
      cases e
    · rw [List.getElem?_eq_none (by rw [List.length_set]; omega)] at e
      cases e
  · rw [List.getElem?_set_ne h] at e
    obtain ⟨w, e2, o2⟩ := R.slot j s e
    exact ⟨w, by rw [List.getElem?_set_ne h]; exact e2, o2⟩
theorem rel_wipe {K : PySem.W.Frag} {L : Led} {ε : Ev} {σ : L2.St} {H : Hp} (R : Rel K L ε σ H) : ∀ vs : List Nat, Rel K L (wipeE ε vs) (wipe σ vs) H
  | [] => R
  | v :: vs => rel_none (rel_wipe R vs) v
/-- the target stores nothing but the block's own names -/
def GOwn (g : TG) (vs : List Nat) : Prop := ∀ v σ H (Q : L2.St → Hp → Prop), g v σ H Q → g v σ H fun σ2 H2 => wipe σ2 vs = wipe σ vs ∧ Q σ2 H2
theorem wipe_set_in {σ : L2.St} {j : Nat} {y : Option V} : ∀ {vs : List Nat}, j ∈ vs → wipe (σ.set j y) vs = wipe σ vs
  | [], h => by cases h
  | v :: vs, h => by
    unfold wipe
    by_cases e : v = j
    · subst e
      by_cases h2 : v ∈ vs
      · rw [wipe_set_in h2]
      · have : ∀ ws : List Nat, v ∉ ws → wipe (σ.set v y) ws = (wipe σ ws).set v y := by
          intro ws
          induction ws with
          | nil => intro _; rfl
          | cons u us ih =>
            intro hn
            simp only [List.mem_cons, not_or] at hn
            unfold wipe
            rw [ih hn.2, List.set_comm _ _ (Ne.symm hn.1).symm]
        rw [this vs h2, List.set_set]
    · rcases List.mem_cons.mp h with z | z
      · exact absurd z.symm e
      · rw [wipe_set_in z]
theorem gown_name {i : Nat} {vs : List Nat} (h : i ∈ vs := by decide) : GOwn (gName i) vs := fun v σ H Q q => ⟨wipe_set_in h, q⟩
theorem gown_tup2 {K : PySem.W.Frag} {i j : Nat} {vs : List Nat} (h : i ∈ vs := by decide) (h2 : j ∈ vs := by decide) : GOwn (gTup K 2 (gCons (gName i) (gCons (gName j) gNil))) vs := fun v σ H Q q => by
  obtain ⟨a, xs, e, hs, hl, v1, r1, e1, v2, r2, e2, e3, q⟩ := q
  exact ⟨a, xs, e, hs, hl, v1, r1, e1, v2, r2, e2, e3, by rw [wipe_set_in h2, wipe_set_in h], q⟩
theorem gown_tup3 {K : PySem.W.Frag} {i j l : Nat} {vs : List Nat} (h : i ∈ vs := by decide) (h2 : j ∈ vs := by decide) (h3 : l ∈ vs := by decide) : GOwn (gTup K 3 (gCons (gName i) (gCons (gName j) (gCons (gName l) gNil)))) vs := fun v σ H Q q => by
  obtain ⟨a, xs, e, hs, hl, v1, r1, e1, v2, r2, e2, v3, r3, e3, e4, q⟩ := q
  exact ⟨a, xs, e, hs, hl, v1, r1, e1, v2, r2, e2, v3, r3, e3, e4, by rw [wipe_set_in h3, wipe_set_in h2, wipe_set_in h], q⟩
theorem wipe_wipe (σ : L2.St) : ∀ vs : List Nat, wipe (wipe σ vs) vs = wipe σ vs := by
  intro vs
  apply List.ext_getElem?
  intro i
  by_cases hi : i ∈ vs
  · have key : ∀ (τ : L2.St) (ws : List Nat), i ∈ ws → (wipe τ ws)[i]? = if i < τ.length then some none else none := by
      intro τ ws
      induction ws with
      | nil => intro h; cases h
      | cons u us ih =>
        intro h
        unfold wipe
        by_cases e : u = i
        · subst e
          by_cases hl : u < τ.length
          · rw [List.getElem?_set_self (by rw [wipe_length]; exact hl), if_pos hl]
          · rw [if_neg hl, List.getElem?_eq_none (by rw [List.length_set, wipe_length]; omega)]
        · rw [List.getElem?_set_ne e]
          rcases List.mem_cons.mp h with z | z
          · exact absurd z.symm e
          · exact ih z
    rw [key _ _ hi, key _ _ hi, wipe_length]
  · have key : ∀ (τ : L2.St) (ws : List Nat), i ∉ ws → (wipe τ ws)[i]? = τ[i]? := by
      intro τ ws
      induction ws with
      | nil => intro _; rfl
      | cons u us ih =>
        intro h
        simp only [List.mem_cons, not_or] at h
        unfold wipe
        rw [List.getElem?_set_ne (Ne.symm h.1), ih h.2]
    rw [key _ _ hi, key _ _ hi]
end Z

set_option Elab.async false
set_option linter.all false
set_option maxRecDepth 100000
set_option maxHeartbeats 2000000
namespace Z
open PySem PySem.Spec PyProof.Rows L2
theorem LOk.app {K : PySem.W.Frag} {L : Led} {H : Hp} {D : Addr} {ds : List PyData} {xs : List V} {y : V} {d : PyData} (l : LOk K (L ++ [(D, .lst ds)]) H) (h : H D = some (.lst xs)) (r : Rp K (hid (L ++ [(D, .lst ds)]) H) y d) :
    LOk K (L ++ [(D, .lst (ds ++ [d]))]) (upd H D (.lst (xs ++ [y]))) := by
  have hk : (L ++ [(D, Mo.lst (ds ++ [d]))]).ks = (L ++ [(D, Mo.lst ds)]).ks := by
    unfold Led.ks
    rw [List.map_append, List.map_append]
    rfl
  have hD : D ∈ (L ++ [(D, Mo.lst ds)]).ks := by
    unfold Led.ks
    rw [List.map_append]
    exact List.mem_append_right _ List.mem_cons_self
  have ex : Ext (hid (L ++ [(D, Mo.lst ds)]) H) (hid (L ++ [(D, Mo.lst (ds ++ [d]))]) (upd H D (.lst (xs ++ [y])))) := fun a o e => by
    by_cases ha : a ∈ (L ++ [(D, Mo.lst ds)]).ks
    · rw [hid_in ha] at e
      cases e
    · rw [hid_out ha] at e
      rw [hid_out (by rw [hk]; exact ha), upd_ne (fun z : a = D => ha (by rw [z]; exact hD))]
      exact e
  have hl := l.at_ (D, .lst ds) (List.mem_append_right _ List.mem_cons_self)
  obtain ⟨ys, e1, e2⟩ : ∃ ys, H D = some (.lst ys) ∧ RpAll K (hid (L ++ [(D, Mo.lst ds)]) H) ys ds := hl
  have e3 : ys = xs := by
    rw [h] at e1
    cases e1
    rfl
  subst e3
  refine ⟨by rw [hk]; exact l.nd, fun p hp => ?_⟩
  rcases List.mem_append.mp hp with hp | hp
  · have q := l.at_ p (List.mem_append_left _ hp)
    have hn : p.1 ≠ D := fun z => by
      have nd := l.nd
      unfold Led.ks at nd
      rw [List.map_append] at nd
      exact (List.nodup_append.mp nd).2.2 p.1 (List.mem_map.mpr ⟨p, hp, rfl⟩) D List.mem_cons_self z
    obtain ⟨a, m⟩ := p
    cases m with
    | drw =>
      obtain ⟨ns, z⟩ := q
      exact ⟨ns, by rw [upd_ne hn]; exact z⟩
    | lst es =>
      obtain ⟨zs, z, w⟩ := q
      exact ⟨zs, by rw [upd_ne hn]; exact z, rpAll_mono ex w⟩
  · have e := List.mem_singleton.mp hp
    subst e
    exact ⟨_, upd_same, rpAll_app (rpAll_mono ex e2) (rpAll_one (rp_mono ex r))⟩
/-- a written list that is owned last is given up: it is data from now on -/
theorem LOk.drop {K : PySem.W.Frag} {L : Led} {H : Hp} {D : Addr} {m : Mo} (l : LOk K (L ++ [(D, m)]) H) : LOk K L H := by
  have ex : Ext (hid (L ++ [(D, m)]) H) (hid L H) := fun a o e => by
    by_cases ha : a ∈ (L ++ [(D, m)]).ks
    · rw [hid_in ha] at e
      cases e
    · rw [hid_out ha] at e
      rw [hid_out fun z => ha (keeps_own a z)]
      exact e
  refine ⟨?_, fun p hp => ?_⟩
  · have nd := l.nd
    unfold Led.ks at nd
    rw [List.map_append] at nd
    exact (List.nodup_append.mp nd).1
  · have q := l.at_ p (List.mem_append_left _ hp)
    obtain ⟨a, m2⟩ := p
    cases m2 with
    | drw => exact q
    | lst es =>
      obtain ⟨zs, z, w⟩ := q
      exact ⟨zs, z, rpAll_mono ex w⟩
theorem ext_drop {L : Led} {H : Hp} {D : Addr} {m : Mo} : Ext (hid (L ++ [(D, m)]) H) (hid L H) := fun a o e => by
  by_cases ha : a ∈ (L ++ [(D, m)]).ks
  · rw [hid_in ha] at e
    cases e
  · rw [hid_out ha] at e
    rw [hid_out fun z => ha (keeps_own a z)]
    exact e
section
variable {C : Cz} {ε : Ev} {L : Led} {k : Rs → Led → Prop} {wi wi1 : TI} {g g1 : TG} {tt tt1 : TT} {te : TE} {vs vs1 : List Nat}
abbrev plus (L : Led) (p : Addr) (acc : List PyData) : Led := L ++ [(p, .lst acc)]
theorem plus_ks (L : Led) (p : Addr) (a b : List PyData) : (plus L p a).ks = (plus L p b).ks := by
  unfold plus Led.ks
  rw [List.map_append, List.map_append]
  rfl
theorem Grow.re {H H' : Hp} {L L' L2 : Led} (g : Grow H L H' L') (h : L'.ks = L2.ks) : Grow H L H' L2 := ⟨g.old, fun a ha => g.new a (by rw [h]; exact ha)⟩
theorem Grow.re1 {H H' : Hp} {L L' L2 : Led} (g : Grow H L H' L') (h : L.ks = L2.ks) : Grow H L2 H' L' := ⟨fun a o e n => g.old a o e (by rw [h]; exact n), fun a ha => by rw [← h]; exact g.new a ha⟩
theorem grow_app {H : Hp} {L : Led} {p : Addr} {acc acc' : List PyData} {o : HO} : Grow H (plus L p acc) (upd H p o) (plus L p acc') := by
  have hp : p ∈ (plus L p acc).ks := by
    unfold plus Led.ks
    rw [List.map_append]
    exact List.mem_append_right _ List.mem_cons_self
  exact ⟨fun a u e n => by rw [upd_ne (fun z : a = p => n (by rw [z]; exact hp))]; exact e, fun a ha => .inl (by rw [plus_ks L p acc acc']; exact ha)⟩
/-- [e for target in iter if ..]: I by the turn and the list so far -/
theorem cp_lc (h : CI C wi ε L fun ds L1 => ds.length < sizeLine ∧ ∃ I : Nat → List PyData → Prop, I 0 [] ∧
      (∀ i d acc p, ds[i]? = some d → I i acc → p ∉ L1.ks → CG (C0 C.K) g (.dat d) (wipeE ε vs) (plus L1 p acc) fun ε2 L2 => L2 = plus L1 p acc ∧
        CT (C0 C.K) tt ε2 L2 fun b L3 => L3 = plus L1 p acc ∧ if b = true then CP (C0 C.K) te ε2 L3 fun r L4 => L4 = plus L1 p acc ∧ ∃ y, r = .dat y ∧ I (i + 1) (acc ++ [y]) else I (i + 1) acc) ∧
      ∀ acc, I ds.length acc → k (.dat (.list acc)) L1) (ho : GOwn g vs) : CP C (tLc wi g tt te vs) ε L k := fun σ H Q R X z =>
  h σ H _ R X fun J ds L1 H1 g1 k1 R1 J1 ⟨hsz, I, i0, hs, hd⟩ D hD => by
    have hDn : D ∉ L1.ks := R1.led.fresh hD
    refine ⟨fun i m H' => m = ds.length - i ∧ i ≤ ds.length ∧ ∃ acc, acc.length ≤ i ∧ I i acc ∧ Grow H1 L1 H' (plus L1 D acc) ∧ LOk C.K (plus L1 D acc) H', ⟨_, rfl, Nat.zero_le _, [], Nat.le_refl _, i0, grow_own hD, R1.led.own hD .nil⟩, ?_⟩
    rintro i m H' ⟨rfl, hi, acc, hal, hI, g', l'⟩
    obtain ⟨js, jg⟩ := J1 _ H' g' l' i
    have RW : Rel C.K (plus L1 D acc) (wipeE ε vs) (wipe σ vs) H' := (rel_wipe R1 vs).grow g' keeps_own l'
    by_cases hl : i < ds.length
    · have hx : ds[i]? = some ds[i] := List.getElem?_eq_getElem hl
      obtain ⟨j1, j2⟩ := jg _ hx
      refine .inr ⟨j1, fun H2 => i + 1 ≤ ds.length ∧ ∃ acc2, acc2.length ≤ i + 1 ∧ I (i + 1) acc2 ∧ Grow H1 L1 H2 (plus L1 D acc2) ∧ LOk C.K (plus L1 D acc2) H2, fun H2 ⟨a, b⟩ => ⟨ds.length - (i + 1), by omega, rfl, a, b⟩, fun v H2 y => ?_⟩
      obtain ⟨g2, l2, rp⟩ := j2 v H2 y
      have key := hs i _ acc D hx hI hDn v (wipe σ vs) H2 (fun σ3 H3 => tt σ3 H3 fun b H4 => if b = true then te σ3 H4 fun y H5 => ∃ acc, H5 D = some (.lst acc) ∧ acc.length < sizeLine ∧ (i + 1 ≤ ds.length ∧ ∃ acc2, acc2.length ≤ i + 1 ∧ I (i + 1) acc2 ∧ Grow H1 L1 (upd H5 D (.lst (acc ++ [y]))) (plus L1 D acc2) ∧ LOk C.K (plus L1 D acc2) (upd H5 D (.lst (acc ++ [y])))) else (i + 1 ≤ ds.length ∧ ∃ acc2, acc2.length ≤ i + 1 ∧ I (i + 1) acc2 ∧ Grow H1 L1 H4 (plus L1 D acc2) ∧ LOk C.K (plus L1 D acc2) H4)) (RW.grow g2 (Keeps.refl _) l2) rp fun ε3 L3 σ3 H3 g3 k3 R3 q3 => ?_
      · have q := ho v (wipe σ vs) H2 _ key
        rw [wipe_wipe] at q
        exact q
      obtain ⟨e3, q3⟩ := q3
      subst e3
      refine q3 σ3 H3 _ R3 exOk0 fun b L4 H4 g4 k4 R4 q4 => ?_
      obtain ⟨e4, q4⟩ := q4
      subst e4
      have gg := g'.trans (g2.trans (g3.trans g4))
      cases b with
      | false =>
        rw [if_neg (by decide)] at q4 ⊢
        exact ⟨hl, acc, Nat.le_succ_of_le hal, q4, gg, R4.led⟩
      | true =>
        rw [if_pos rfl] at q4 ⊢
        refine q4 σ3 H4 _ R4 exOk0 fun w r L5 H5 g5 k5 R5 o5 q5 => ?_
        obtain ⟨e5, yd, er, q5⟩ := q5
        subst e5 er
        obtain ⟨xs, ex, hxs⟩ := R5.led.isLst (List.mem_append_right _ List.mem_cons_self)
        refine ⟨xs, ex, by rw [rpAll_len hxs]; omega, hl, acc ++ [yd], by rw [List.length_append]; exact Nat.succ_le_succ hal, q5, (gg.trans g5).trans grow_app, R5.led.app ex o5⟩
    · have e : i = ds.length := by omega
      subst e
      obtain ⟨xs, ex, hxs⟩ := l'.isLst (List.mem_append_right _ List.mem_cons_self)
      have l2 : LOk C.K L1 H' := l'.drop
      have g2 : Grow H1 L1 H' L1 := ⟨g'.old, fun a ha => .inl ha⟩
      exact .inl ⟨js rfl, z (.ref D) (.dat (.list acc)) L1 H' (g1.trans g2) k1 (R1.grow g2 (Keeps.refl _) l2) (.lst (by rw [hid_out hDn]; exact ex) (rpAll_mono ext_drop hxs)) (hd acc hI)⟩
/-- each item gives one element or none, the draws left alone -/
theorem cp_lcF (f : PyData → Option PyData) (h : CI C wi ε L fun ds L1 => ds.length < sizeLine ∧
      (∀ d ∈ ds, ∀ acc p, p ∉ L1.ks → CG (C0 C.K) g (.dat d) (wipeE ε vs) (plus L1 p acc) fun ε2 L2 => L2 = plus L1 p acc ∧
        CT (C0 C.K) tt ε2 L2 fun b L3 => L3 = plus L1 p acc ∧ if b = true then CP (C0 C.K) te ε2 L3 fun r L4 => L4 = plus L1 p acc ∧ ∃ y, r = .dat y ∧ f d = some y else f d = none) ∧
      k (.dat (.list (ds.filterMap f))) L1) (ho : GOwn g vs) : CP C (tLc wi g tt te vs) ε L k := by
  refine cp_lc ?_ ho
  refine fun σ H R Rl X z => h σ H R Rl X fun J ds L' H' g1 k1 R1 J1 ⟨a, b, c⟩ => z J ds L' H' g1 k1 R1 J1 ⟨a, fun i acc => acc = (ds.take i).filterMap f, rfl, fun i d acc p hd hI hp => ?_, fun acc hI => ?_⟩
  · have hm : d ∈ ds := List.mem_of_getElem? hd
    have ht : ds.take (i + 1) = ds.take i ++ [d] := by rw [List.take_add_one, hd] <;> rfl
    intro v σ2 H2 Q2 R2 o2 z2
    refine b d hm acc p hp v σ2 H2 Q2 R2 o2 fun ε3 L3 σ3 H3 g3 k3 R3 ⟨e3, q3⟩ => z2 ε3 L3 σ3 H3 g3 k3 R3 ⟨e3, CT.mono q3 fun bb L4 ⟨e4, q4⟩ => ⟨e4, ?_⟩⟩
    cases bb with
    | true =>
      rw [if_pos rfl] at q4 ⊢
      exact CP.mono q4 fun r L5 ⟨e5, y, er, ey⟩ => ⟨e5, y, er, (by show acc ++ [y] = (ds.take (i + 1)).filterMap f; rw [ht, List.filterMap_append, hI, List.filterMap_cons, ey]; rfl)⟩
    | false =>
      rw [if_neg (by decide)] at q4 ⊢
      show acc = (ds.take (i + 1)).filterMap f
      rw [ht, List.filterMap_append, hI, List.filterMap_cons, q4]
      show _ = _ ++ []
      rw [List.append_nil]
  · have e : acc = (ds.take ds.length).filterMap f := hI
    rw [e, List.take_length]
    exact c
end
end Z

set_option Elab.async false
set_option linter.all false
set_option maxRecDepth 100000
set_option maxHeartbeats 2000000
namespace Z
open PySem PySem.Spec PyProof.Rows L2
theorem rel_led {K : PySem.W.Frag} {L L' : Led} {ε : Ev} {σ : L2.St} {H H' : Hp} (R : Rel K L ε σ H) (g : Grow H L H' L') (k : Keeps L L') (l : LOk K L' H') : Rel K L' ε σ H' := R.grow g k l
theorem GOwn.use {g : TG} {vs : List Nat} (o : GOwn g vs) {v : V} {σ : L2.St} {H : Hp} {Q : L2.St → Hp → Prop} (q : g v (wipe σ vs) H Q) : g v (wipe σ vs) H fun σ2 H2 => wipe σ2 vs = wipe σ vs ∧ Q σ2 H2 := by
  have z := o v (wipe σ vs) H Q q
  rw [wipe_wipe] at z
  exact z
theorem keeps_plus {L : Led} {p : Addr} {a b : List PyData} : Keeps (plus L p a) (plus L p b) := fun x h => by
  rw [plus_ks L p b a]
  exact h
section
variable {C : Cz} {ε : Ev} {L : Led} {k : Rs → Led → Prop} {wi wi1 : TI} {g g1 : TG} {tt tt1 : TT} {te : TE} {vs vs1 : List Nat}
/-- [e for a in s if .. for b in t if ..]: I by the outer turn and the list so far, J by the inner one -/
theorem cp_lc2 (h : CI C wi ε L fun ds L1 => ∃ I : Nat → List PyData → Prop, I 0 [] ∧
      (∀ i d acc0 p, ds[i]? = some d → I i acc0 → p ∉ L1.ks → CG (C0 C.K) g (.dat d) (wipeE ε vs) (plus L1 p acc0) fun ε2 L2 => L2 = plus L1 p acc0 ∧
        CT (C0 C.K) tt ε2 L2 fun b L3 => L3 = plus L1 p acc0 ∧ if b = true then CI (C0 C.K) wi1 ε2 L3 fun es L4 => L4 = plus L1 p acc0 ∧ ∃ J : Nat → List PyData → Prop, J 0 acc0 ∧
          (∀ j e acc, es[j]? = some e → J j acc → CG (C0 C.K) g1 (.dat e) (wipeE ε2 vs1) (plus L1 p acc) fun ε3 L5 => L5 = plus L1 p acc ∧
            CT (C0 C.K) tt1 ε3 L5 fun b L6 => L6 = plus L1 p acc ∧ if b = true then acc.length < sizeLine ∧ CP (C0 C.K) te ε3 L6 fun r L7 => L7 = plus L1 p acc ∧ ∃ y, r = .dat y ∧ J (j + 1) (acc ++ [y]) else J (j + 1) acc) ∧
          ∀ acc, J es.length acc → I (i + 1) acc
        else I (i + 1) acc0) ∧
      ∀ acc, I ds.length acc → k (.dat (.list acc)) L1) (ho : GOwn g vs) (ho1 : GOwn g1 vs1) : CP C (tLc2 wi g tt wi1 g1 tt1 te vs vs1) ε L k := fun σ H Q R X z =>
  h σ H _ R X fun J ds L1 H1 g1' k1 R1 J1 ⟨I, i0, hs, hd⟩ D hD => by
    have hDn : D ∉ L1.ks := R1.led.fresh hD
    refine ⟨fun i m H' => m = ds.length - i ∧ i ≤ ds.length ∧ ∃ acc, I i acc ∧ Grow H1 L1 H' (plus L1 D acc) ∧ LOk C.K (plus L1 D acc) H', ⟨_, rfl, Nat.zero_le _, [], i0, grow_own hD, R1.led.own hD .nil⟩, ?_⟩
    rintro i m H' ⟨rfl, hi, acc, hI, g', l'⟩
    obtain ⟨js, jg⟩ := J1 _ H' g' l' i
    have RW : Rel C.K (plus L1 D acc) (wipeE ε vs) (wipe σ vs) H' := (rel_wipe R1 vs).grow g' keeps_own l'
    by_cases hl : i < ds.length
    · have hx : ds[i]? = some ds[i] := List.getElem?_eq_getElem hl
      obtain ⟨j1, j2⟩ := jg _ hx
      refine .inr ⟨j1, fun H2 => i + 1 ≤ ds.length ∧ ∃ acc2, I (i + 1) acc2 ∧ Grow H1 L1 H2 (plus L1 D acc2) ∧ LOk C.K (plus L1 D acc2) H2, fun H2 ⟨a, b⟩ => ⟨ds.length - (i + 1), by omega, rfl, a, b⟩, fun v H2 y => ?_⟩
      obtain ⟨g2, l2, rp⟩ := j2 v H2 y
      refine ho.use ?_
      refine hs i _ acc D hx hI hDn v (wipe σ vs) H2 _ (RW.grow g2 (Keeps.refl _) l2) rp fun ε3 L3 σ3 H3 g3 k3 R3 ⟨e3, q3⟩ => ?_
      subst e3
      refine q3 σ3 H3 _ R3 exOk0 fun b L4 H4 g4 k4 R4 ⟨e4, q4⟩ => ?_
      subst e4
      have gg := g'.trans (g2.trans (g3.trans g4))
      cases b with
      | false =>
        rw [if_neg (by decide)] at q4 ⊢
        exact ⟨hl, acc, q4, gg, R4.led⟩
      | true =>
        rw [if_pos rfl] at q4 ⊢
        refine q4 σ3 H4 _ R4 exOk0 fun J2 es L5 H5 g5 k5 R5 JO ⟨e5, Iv, v0, vs', vd⟩ => ?_
        subst e5
        have gg5 := gg.trans g5
        refine ⟨fun j m H' => m = es.length - j ∧ j ≤ es.length ∧ ∃ acc2, Iv j acc2 ∧ Grow H5 (plus L1 D acc) H' (plus L1 D acc2) ∧ LOk C.K (plus L1 D acc2) H', ⟨_, rfl, Nat.zero_le _, acc, v0, Grow.refl _ _, R5.led⟩, ?_⟩
        rintro j m H' ⟨rfl, hj, acc2, hV, g', l'⟩
        obtain ⟨js', jg'⟩ := JO _ H' g' l' j
        have RW5 : Rel C.K (plus L1 D acc2) (wipeE ε3 vs1) (wipe σ3 vs1) H' := (rel_wipe R5 vs1).grow g' keeps_plus l'
        by_cases hl2 : j < es.length
        · have hx2 : es[j]? = some es[j] := List.getElem?_eq_getElem hl2
          obtain ⟨j3, j4⟩ := jg' _ hx2
          refine .inr ⟨j3, fun H2 => j + 1 ≤ es.length ∧ ∃ acc3, Iv (j + 1) acc3 ∧ Grow H5 (plus L1 D acc) H2 (plus L1 D acc3) ∧ LOk C.K (plus L1 D acc3) H2, fun H2 ⟨a, b⟩ => ⟨es.length - (j + 1), by omega, rfl, a, b⟩, fun v H2 y => ?_⟩
          obtain ⟨g7, l7, rp7⟩ := j4 v H2 y
          refine ho1.use ?_
          refine vs' j _ acc2 hx2 hV v (wipe σ3 vs1) H2 _ (RW5.grow g7 (Keeps.refl _) l7) rp7 fun ε6 L6 σ6 H6 g6 k6 R6 ⟨e6, q6⟩ => ?_
          subst e6
          refine q6 σ6 H6 _ R6 exOk0 fun b L8 H8 g8 k8 R8 ⟨e8, q8⟩ => ?_
          subst e8
          have gg8 := g'.trans (g7.trans (g6.trans g8))
          cases b with
          | false =>
            rw [if_neg (by decide)] at q8 ⊢
            exact ⟨hl2, acc2, q8, gg8, R8.led⟩
          | true =>
            rw [if_pos rfl] at q8 ⊢
            refine q8.2 σ6 H8 _ R8 exOk0 fun w r L9 H9 g9 k9 R9 o9 ⟨e9, yd, er, q9⟩ => ?_
            subst e9 er
            obtain ⟨xs, ex, hxs⟩ := R9.led.isLst (List.mem_append_right _ List.mem_cons_self)
            exact ⟨xs, ex, by rw [rpAll_len hxs]; exact q8.1, hl2, acc2 ++ [yd], q9, (gg8.trans g9).trans grow_app, R9.led.app ex o9⟩
        · have e : j = es.length := by omega
          subst e
          exact .inl ⟨js' rfl, hl, acc2, vd acc2 hV, gg5.trans g', l'⟩
    · have e : i = ds.length := by omega
      subst e
      obtain ⟨xs, ex, hxs⟩ := l'.isLst (List.mem_append_right _ List.mem_cons_self)
      have l2 : LOk C.K L1 H' := l'.drop
      have g2 : Grow H1 L1 H' L1 := ⟨g'.old, fun a ha => .inl ha⟩
      exact .inl ⟨js rfl, z (.ref D) (.dat (.list acc)) L1 H' (g1'.trans g2) k1 (R1.grow g2 (Keeps.refl _) l2) (.lst (by rw [hid_out hDn]; exact ex) (rpAll_mono ext_drop hxs)) (hd acc hI)⟩
/-- the same, the list told as a function: f of both items -/
theorem cp_lc2F (es : PyData → List PyData) (f : PyData → PyData → Option PyData) (h : CI C wi ε L fun ds L1 => (ds.flatMap fun d => (es d).filterMap (f d)).length < sizeLine ∧
      (∀ d ∈ ds, ∀ acc p, p ∉ L1.ks → CG (C0 C.K) g (.dat d) (wipeE ε vs) (plus L1 p acc) fun ε2 L2 => L2 = plus L1 p acc ∧
        CI (C0 C.K) wi1 ε2 L2 fun es' L4 => L4 = plus L1 p acc ∧ es' = es d ∧
          (∀ e ∈ es d, ∀ acc, CG (C0 C.K) g1 (.dat e) (wipeE ε2 vs1) (plus L1 p acc) fun ε3 L5 => L5 = plus L1 p acc ∧
            CT (C0 C.K) tt1 ε3 L5 fun b L6 => L6 = plus L1 p acc ∧ if b = true then CP (C0 C.K) te ε3 L6 fun r L7 => L7 = plus L1 p acc ∧ ∃ y, r = .dat y ∧ f d e = some y else f d e = none)) ∧
      k (.dat (.list (ds.flatMap fun d => (es d).filterMap (f d)))) L1) (ho : GOwn g vs) (ho1 : GOwn g1 vs1) : CP C (tLc2 wi g tYes wi1 g1 tt1 te vs vs1) ε L k := by
  refine cp_lc2 ?_ ho ho1
  refine fun σ H R Rl X z => h σ H R Rl X fun J ds L' H' g1' k1 R1 J1 ⟨a, b, c⟩ => z J ds L' H' g1' k1 R1 J1 ⟨fun i acc => acc = (ds.take i).flatMap fun d => (es d).filterMap (f d), rfl, fun i d acc0 p hd hI hp => ?_, fun acc hI => ?_⟩
  · have hm : d ∈ ds := List.mem_of_getElem? hd
    have ht : ds.take (i + 1) = ds.take i ++ [d] := by rw [List.take_add_one, hd] <;> rfl
    have hz : acc0.length + ((es d).filterMap (f d)).length < sizeLine := by
      have e1 : acc0 = (ds.take i).flatMap fun d => (es d).filterMap (f d) := hI
      have e2 : (ds.take i ++ [d] ++ ds.drop (i + 1)) = ds := by rw [← ht]; exact List.take_append_drop _ _
      have e3 : (ds.flatMap fun d => (es d).filterMap (f d)).length = acc0.length + ((es d).filterMap (f d)).length + ((ds.drop (i + 1)).flatMap fun d => (es d).filterMap (f d)).length := by
        rw [← e2, List.flatMap_append, List.flatMap_append, List.length_append, List.length_append, ← e1]
        rw [e2]
        simp
      omega
    intro v σ2 H2 Q2 R2 o2 z2
    refine b d hm acc0 p hp v σ2 H2 Q2 R2 o2 fun ε3 L3 σ3 H3 g3 k3 R3 ⟨e3, q3⟩ => z2 ε3 L3 σ3 H3 g3 k3 R3 ⟨e3, ?_⟩
    intro σ4 H4 Q4 R4 X4 z4
    refine z4 true L3 H4 (Grow.refl _ _) (Keeps.refl _) R4 ⟨e3, ?_⟩
    rw [if_pos rfl]
    intro σ5 H5 Rr5 R5 X5 z5
    refine q3 σ5 H5 Rr5 R5 X5 fun J5 es5 L6 H6 g6 k6 R6 J6 ⟨e6, ee, b6⟩ => z5 J5 es5 L6 H6 g6 k6 R6 J6 ⟨e6, ?_⟩
    subst ee
    refine ⟨fun j acc => acc = acc0 ++ ((es d).take j).filterMap (f d), by simp, fun j e acc he hJ => ?_, fun acc hJ => ?_⟩
    · have hme : e ∈ es d := List.mem_of_getElem? he
      have ht2 : (es d).take (j + 1) = (es d).take j ++ [e] := by rw [List.take_add_one, he] <;> rfl
      intro v7 σ7 H7 Q7 R7 o7 z7
      refine b6 e hme acc v7 σ7 H7 Q7 R7 o7 fun ε8 L8 σ8 H8 g8 k8 R8 ⟨e8, q8⟩ => z7 ε8 L8 σ8 H8 g8 k8 R8 ⟨e8, CT.mono q8 fun bb L9 ⟨e9, q9⟩ => ⟨e9, ?_⟩⟩
      have hJ' : acc = acc0 ++ ((es d).take j).filterMap (f d) := hJ
      cases bb with
      | true =>
        rw [if_pos rfl] at q9 ⊢
        refine ⟨?_, CP.mono q9 fun r L5 ⟨e5, y, er, ey⟩ => ⟨e5, y, er, ?_⟩⟩
        · have : (((es d).take j).filterMap (f d)).length ≤ ((es d).filterMap (f d)).length := ((List.take_sublist j (es d)).filterMap (f d)).length_le
          rw [hJ', List.length_append]
          omega
        · show acc ++ [y] = acc0 ++ ((es d).take (j + 1)).filterMap (f d)
          rw [ht2, List.filterMap_append, hJ', List.filterMap_cons, ey, List.append_assoc]
          rfl
      | false =>
        rw [if_neg (by decide)] at q9 ⊢
        show acc = acc0 ++ ((es d).take (j + 1)).filterMap (f d)
        rw [ht2, List.filterMap_append, hJ', List.filterMap_cons, q9]
        show _ = acc0 ++ (_ ++ [])
        rw [List.append_nil]
    · have hJ' : acc = acc0 ++ ((es d).take (es d).length).filterMap (f d) := hJ
      show acc = (ds.take (i + 1)).flatMap fun d => (es d).filterMap (f d)
      have hI' : acc0 = (ds.take i).flatMap fun d => (es d).filterMap (f d) := hI
      rw [hJ', List.take_length, ht, List.flatMap_append, hI', List.flatMap_singleton]
  · have e : acc = (ds.take ds.length).flatMap fun d => (es d).filterMap (f d) := hI
    rw [e, List.take_length]
    exact c
end
end Z

set_option Elab.async false
set_option linter.all false
set_option maxRecDepth 100000
set_option maxHeartbeats 2000000
namespace Z
open PySem PySem.Spec PyProof.Rows L2
/-! ### enumerate of a list, a tuple, a text -/
theorem meets_enum1 {v : Value} {o : Obj} {Hs : Heap → Prop} (B : Begins v o Hs) :
    Meets (Builtin.«enumerate.__new__» ⟨[.type "enumerate", v], []⟩) (fun _ R s => Hs s.heap ∧
      R (.ok (.ret (.ref (s.heap.push o).objs.size))) { s with heap := (s.heap.push o).push { cls := .type "enumerate", data := .fields #[.none, .bool false, .ref s.heap.objs.size, rawInt 0, .none, .none] } }) :=
  .of_wp fun prog w A R s hh => by
    obtain ⟨hp, g, d, tk, os⟩ := s
    obtain ⟨hs, hr⟩ := hh
    have hsub := sub_enumerate
    have it : ∀ {A' : Around} {E : Value → Shared → Prop} {Q : Value → Shared → Prop}, Q (.ref hp.objs.size) ⟨hp.push o, g, d, tk, os⟩ → wpAny (model prog w) A' (pyIter v) Q E ⟨hp, g, d, tk, os⟩ :=
      fun q => B.iter prog w _ _ ⟨hp, g, d, tk, os⟩ _ hs q
    wp_walk using it
    refine wpAny_stack_any fun st => wpAny_pure ?_
    split
    · rename_i c _ _ _ _ _
      cases (c == Value.type "enumerate") <;> (wp_walk using it; exact ⟨_, rfl, hr⟩)
    · wp_walk using it
      exact ⟨_, rfl, hr⟩
theorem enum1_begins {prog : Program} {w : World} {A : Around} {E : Value → Shared → Prop} {s : Shared} {v : Value} {o : Obj} {Hs : Heap → Prop} {Q : Value → Shared → Prop} (B : Begins v o Hs) (h1 : Hs s.heap)
    (h : ∀ h', IsEnum h' (s.heap.objs.size + 1) s.heap.objs.size 0 .none → h'.get? s.heap.objs.size = some o → h'.objs.size = s.heap.objs.size + 2 → (∀ b o, s.heap.get? b = some o → h'.get? b = some o) → Q (.ref (s.heap.objs.size + 1)) { s with heap := h' }) :
    wpAny (model prog w) A (call (.type "enumerate") [v]) Q E s := by
  refine callType_new F.called_enumerate (by decide) (F.typeCall_enumerate_1 _) (F.newCall_enumerate_1 _) (fun obj => F.args_object_init_2 obj _) F.entry_enumerate_new (meets_enum1 B) ⟨h1, ?_⟩
  have sz : (s.heap.push o).objs.size = s.heap.objs.size + 1 := Heap.size_push ..
  show _ ∧ _
  rw [sz]
  have en : IsEnum ((s.heap.push o).push { cls := .type "enumerate", data := .fields #[.none, .bool false, .ref s.heap.objs.size, rawInt 0, .none, .none] }) (s.heap.objs.size + 1) s.heap.objs.size 0 .none := by
    have q := Heap.get?_push_size (s.heap.push o) (o := { cls := .type "enumerate", data := .fields #[.none, .bool false, .ref s.heap.objs.size, rawInt 0, .none, .none] }) rfl
    rw [sz] at q
    exact q
  exact ⟨⟨_, en, rfl⟩, h _ en (Heap.get?_push_of_some _ (Heap.get?_push_size _ B.free)) (by rw [Heap.size_push, sz]) fun b u x => Heap.get?_push_of_some _ (Heap.get?_push_of_some _ x)⟩
/-- what is asked of a walked value: where its iterator's own cell stands (Si), what stands by itself (Hs) -/
structure Src (P : Nat → Value → Prop) (n : Nat) (it : Addr) (fs : List Addr) (Si : Nat → Heap → Prop) (Hs : Heap → Prop) : Prop where
  dr : ∀ (prog : Program) (w : World) (A : Around), A.handled = none → Draws prog w A it (it :: fs) n P fun i h => Si i h ∧ Hs h
  keep : ∀ i h h', Si i h → (∀ o, h.get? it = some o → h'.get? it = some o) → Si i h'
  live : ∀ i h, Si i h → ∃ o, h.get? it = some o ∧ ∀ v, o.data ≠ .cell v
/-- an iterator of pairs over a value: at each turn the value is told again -/
structure ItE (K : PySem.W.Frag) (J : It) (it : Addr) (fs : List Addr) (Si : Nat → Heap → Prop) : Prop where
  go : ∀ (X : Cx), X.K = K → ∀ pins σ H s i, Inv X pins σ H s → J.go i H → ∃ P n Hs, Src P n it fs Si Hs ∧ i < n ∧ Hs s.heap ∧ ∀ u, P i u → ∃ x, RelV x u ∧ ∀ T, H T = none → J.yld i H (.ref T) (upd H T (.tup [.int (i : Int), x]))
  stop : ∀ (X : Cx), X.K = K → ∀ pins σ H s i, Inv X pins σ H s → J.stop i H → ∃ P Hs, Src P i it fs Si Hs ∧ Hs s.heap
  keep : ∀ i h h', Si i h → (∀ o, h.get? it = some o → h'.get? it = some o) → Si i h'
  live : ∀ i h, Si i h → ∃ o, h.get? it = some o ∧ ∀ v, o.data ≠ .cell v
theorem turn_enumG {P : Program} {w : World} {K : PySem.W.Frag} {elts : List Expr} {kk : Nat} {tpos : Pos} {J : It} {e it : Addr} {fs : List Addr} {Si : Nat → Heap → Prop} (Y : ItE K J it fs Si) (hei : e ≠ it) (hef : e ∉ fs) :
    Turn P w K (.Tuple elts kk tpos) J [e, it] e (fun i h => (∃ old, IsEnum h e it ((i : Nat) : Int) old) ∧ Si i h) where
  mem := by simp
  obj := fun i h st b hb => by
    obtain ⟨⟨old, he⟩, si⟩ := st
    rcases List.mem_cons.mp hb with z | z
    · subst z
      exact ⟨_, he, fun v q => nomatch q⟩
    · rw [List.mem_singleton.mp z]
      exact Y.live i h si
  keep := fun i h h' st k => let ⟨⟨old, he⟩, si⟩ := st; ⟨⟨old, k e (by simp) _ he⟩, Y.keep i h h' si fun o q => k it (by simp) o q⟩
  item := by
    intro X hP hw hK hc i pins s σ H E I hf st hg
    subst hP hw
    obtain ⟨⟨old, he⟩, si⟩ := st
    obtain ⟨Pi, n, Hs, S, hi, hs, hy⟩ := Y.go X hK pins σ H s i I hg
    have G := GoesN.enumFrom (elts := elts) (x1 := kk) (pos := tpos) 0 (S.dr X.prog X.w X.A.in1 (I.ok.hd hc)) e hei (by simp only [List.mem_cons, not_or]; exact ⟨hei, hef⟩) List.mem_cons_self
    have hel : e < s.heap.objs.size := Heap.lt_size he
    have hil : it < s.heap.objs.size := by obtain ⟨o, q, _⟩ := Y.live i _ si; exact Heap.lt_size q
    refine wpAny_mono (G.goes i s (fun u s2 => ∃ x H', Inv X pins σ H' s2 ∧ RelV x u ∧ J.yld i H x H' ∧ ((∃ old, IsEnum s2.heap e it ((i + 1 : Nat) : Int) old) ∧ Si (i + 1) s2.heap) ∧ ∀ b ∈ [e, it], H' b = none) E hi ⟨⟨old, by rw [Int.zero_add]; exact he⟩, si, hs⟩ fun v h' tk yv st' hk _ => ?_) (fun r s1 ⟨v, a, b⟩ => ⟨v, a, b⟩) fun _ _ z => z
    obtain ⟨T, t, u, rfl, hT, hp, hTup⟩ := yv
    obtain ⟨x, rx, hyld⟩ := hy u hp
    have fT : H T = none := I.hok.fresh hT
    have new : ObjOk X.prog X.w (upd H T (.tup [.int (i : Nat), x])) h' T (.tup [.int (i : Nat), x]) := by
      refine ⟨by show 2 ≤ sizeLine; decide, [.int (0 + (i : Int)) t, u], .cons ⟨t, by rw [Int.zero_add]⟩ (.cons rx .nil), hTup⟩
    have I1 : Inv X pins σ (upd H T (.tup [.int (i : Nat), x])) { s with heap := h', toks := tk } := I.turnedNew (ch := [e, it]) (fun b ob hb q => hk b ob hb q) hf hT new
    refine ⟨.ref T, _, I1, rfl, hyld T fT, ⟨?_, st'.2.1⟩, fun b hb => ?_⟩
    · obtain ⟨⟨old', q⟩, _⟩ := st'
      rw [Int.zero_add] at q
      exact ⟨old', q⟩
    · have hb' : b < s.heap.objs.size := by
        rcases List.mem_cons.mp hb with z | z
        · rw [z]; exact hel
        · rw [List.mem_singleton.mp z]; exact hil
      rw [upd_ne (Nat.ne_of_lt (Nat.lt_of_lt_of_le hb' hT))]
      exact (hf b hb).1
  done := by
    intro X hP hw hK hc i pins s σ H E I hf st hg
    subst hP hw
    obtain ⟨⟨old, he⟩, si⟩ := st
    obtain ⟨Pi, Hs, S, hs⟩ := Y.stop X hK pins σ H s i I hg
    have G := GoesN.enumFrom (elts := elts) (x1 := kk) (pos := tpos) 0 (S.dr X.prog X.w X.A.in1 (I.ok.hd hc)) e hei (by simp only [List.mem_cons, not_or]; exact ⟨hei, hef⟩) List.mem_cons_self
    exact G.stops s (fun s1 => Inv X pins σ H s1) E ⟨⟨old, by rw [Int.zero_add]; exact he⟩, si, hs⟩ fun h' tk hk _ => I.turnedL (ch := [e, it]) (fun b ob hb q => hk b ob hb q) hf
  self := fun A i s Q E st h => let ⟨⟨_, he⟩, _⟩ := st; wpAny_pyIter_enum he h

/-! the three kinds of sources -/
/-- a value that is walked: a list, a tuple, a text; xs its items -/
inductive Kd where
  | l (a : Addr) | t (a : Addr) | s (x : Str)
def Kd.v : Kd → V
  | .l a => .ref a
  | .t a => .ref a
  | .s x => .str x
/-- its items at H -/
def Kd.At (K : PySem.W.Frag) (H : Hp) (xs : List V) : Kd → Prop
  | .l a => SqL K H a xs
  | .t a => SqT K H a xs
  | .s x => xs = x.cps.toList.map fun c => V.str ⟨#[c]⟩
def Kd.fs : Kd → List Addr
  | .l a => [a]
  | .t a => [a]
  | .s _ => []
/-- its iterator's own cell at turn i -/
def Kd.Si (it : Addr) (k : Kd) (u : Value) (i : Nat) (h : Heap) : Prop := match k with
  | .l a => it ≠ a ∧ h.IsListIter it a i
  | .t a => it ≠ a ∧ h.IsTupleIter it a i
  | .s x => ∃ t, u = .str x t ∧ h.IsStrIter it (strIterType x) x t i
theorem kd_src {X : Cx} {pins : List (Addr × Obj)} {σ : L2.St} {H : Hp} {s : Shared} {xs : List V} (k : Kd) (u : Value) (ru : RelV k.v u) (it : Addr) (hne : ∀ a ∈ k.fs, it ≠ a) (I : Inv X pins σ H s) (h : k.At X.K H xs) :
    ∃ (P : Nat → Value → Prop) (Hs : Heap → Prop) (o : Obj), Begins u o Hs ∧ Hs s.heap ∧ (∀ h', h'.get? it = some o → k.Si it u 0 h') ∧ Src P xs.length it k.fs (k.Si it u) Hs ∧ ∀ i u, P i u → ∃ x, RelV x u ∧ xs[i]? = some x := by
  have hget : ∀ {its : List Value}, Vals xs its → ∀ (i : Nat) (u : Value), its.toArray[i]? = some u → ∃ x, RelV x u ∧ xs[i]? = some x := fun {its} rv i u e => by
    have hl := rv.length
    have e' : its[i]? = some u := by simpa using e
    have hi : i < xs.length := by rw [hl]; exact (List.getElem?_eq_some_iff.mp e').1
    obtain ⟨w, e2, r2⟩ := rv.get (List.getElem?_eq_getElem hi)
    rw [e'] at e2
    cases e2
    exact ⟨_, r2, List.getElem?_eq_getElem hi⟩
  cases k with
  | l a =>
    obtain rfl : u = Value.ref a := ru
    have hn : it ≠ a := hne a List.mem_cons_self
    obtain ⟨its, rv, p, hz⟩ := I.list h
    have hl : xs.length = its.toArray.size := by rw [List.size_toArray]; exact rv.length
    refine ⟨fun i u => its.toArray[i]? = some u, fun h => h.IsList a its.toArray, _, begins_list a its.toArray, p.isList, fun h' e => ⟨hn, _, e, rfl, rfl⟩, ?_, hget rv⟩
    rw [hl]
    refine ⟨fun prog w A hA => ?_, fun i h h' st hk => ⟨st.1, st.2.at fun o q => hk o q⟩, fun i h st => ?_⟩
    · have D := Draws.list (prog := prog) (w := w) hA it a (Ne.symm hn) its.toArray
      exact ⟨fun i h st => D.live i h ⟨st.1.2, st.2⟩, fun i h h' st hk => ⟨⟨st.1.1, (D.frame i h h' ⟨st.1.2, st.2⟩ hk).1⟩, (D.frame i h h' ⟨st.1.2, st.2⟩ hk).2⟩, fun i s Q E hi st q => D.item i s Q E hi ⟨st.1.2, st.2⟩ fun x h' tk p st' => q x h' tk p ⟨⟨hn, st'.1⟩, st'.2⟩, fun s Q E st q => D.done s Q E ⟨st.1.2, st.2⟩ q⟩
    · obtain ⟨_, o, ho, hc, hd⟩ := st
      exact ⟨o, ho, fun v q => by rw [hd] at q; cases q⟩
  | t a =>
    obtain rfl : u = Value.ref a := ru
    have hn : it ≠ a := hne a List.mem_cons_self
    obtain ⟨its, rv, p, hz⟩ := I.tuple h
    have hl : xs.length = its.toArray.size := by rw [List.size_toArray]; exact rv.length
    refine ⟨fun i u => its.toArray[i]? = some u, fun h => h.IsTuple a its.toArray, _, begins_tuple a its.toArray, p, fun h' e => ⟨hn, _, e, rfl, rfl⟩, ?_, hget rv⟩
    rw [hl]
    refine ⟨fun prog w A hA => ?_, fun i h h' st hk => ⟨st.1, st.2.at fun o q => hk o q⟩, fun i h st => ?_⟩
    · have D := Draws.tuple (prog := prog) (w := w) hA it a (Ne.symm hn) its.toArray
      exact ⟨fun i h st => D.live i h ⟨st.1.2, st.2⟩, fun i h h' st hk => ⟨⟨st.1.1, (D.frame i h h' ⟨st.1.2, st.2⟩ hk).1⟩, (D.frame i h h' ⟨st.1.2, st.2⟩ hk).2⟩, fun i s Q E hi st q => D.item i s Q E hi ⟨st.1.2, st.2⟩ fun x h' tk p st' => q x h' tk p ⟨⟨hn, st'.1⟩, st'.2⟩, fun s Q E st q => D.done s Q E ⟨st.1.2, st.2⟩ q⟩
    · obtain ⟨_, o, ho, hc, hd⟩ := st
      exact ⟨o, ho, fun v q => by rw [hd] at q; cases q⟩
  | s x =>
    obtain ⟨t, rfl⟩ := ru
    have hx : xs = x.cps.toList.map fun c => V.str ⟨#[c]⟩ := h
    have hl : xs.length = x.cps.size := by rw [hx, List.length_map, Array.length_toList]
    refine ⟨fun i v => ∃ c u, x.cps[i]? = some c ∧ v = .str ⟨#[c]⟩ u, fun _ => True, _, begins_text x t, trivial, fun h' e => ⟨t, rfl, _, e, rfl, rfl⟩, ?_, fun i u ⟨c, w, e, q⟩ => ?_⟩
    · rw [hl]
      refine ⟨fun prog w A hA => ?_, fun i h h' st hk => let ⟨t', a, b⟩ := st; let ⟨o, ho, hc, hd⟩ := b; ⟨t', a, o, hk o ho, hc, hd⟩, fun i h st => ?_⟩
      · have D := Draws.text (prog := prog) (w := w) hA it x t
        have of : ∀ {i h}, (Kd.s x).Si it (.str x t) i h → h.IsStrIter it (strIterType x) x t i := fun {i h} st => by
          obtain ⟨t', a, b⟩ := st
          cases a
          exact b
        exact ⟨fun i h st => D.live i h (of st.1), fun i h h' st hk => ⟨⟨t, rfl, D.frame i h h' (of st.1) hk⟩, trivial⟩, fun i s Q E hi st q => D.item i s Q E hi (of st.1) fun x h' tk p st' => q x h' tk p ⟨⟨t, rfl, st'⟩, trivial⟩, fun s Q E st q => D.done s Q E (of st.1) q⟩
      · obtain ⟨t', _, o, ho, hc, hd⟩ := st
        exact ⟨o, ho, fun v q => by rw [hd] at q; cases q⟩
    · subst q
      refine ⟨.str ⟨#[c]⟩, ⟨w, rfl⟩, ?_⟩
      rw [hx, List.getElem?_map, Array.getElem?_toList, e]
      rfl
end Z

set_option Elab.async false
set_option linter.all false
set_option maxRecDepth 100000
set_option maxHeartbeats 2000000
namespace Z
open PySem PySem.Spec PyProof.Rows L2
theorem Kd.lt {X : Cx} {pins : List (Addr × Obj)} {σ : L2.St} {H : Hp} {s : Shared} {xs : List V} (k : Kd) (I : Inv X pins σ H s) (h : k.At X.K H xs) : ∀ b ∈ k.fs, b < s.heap.objs.size := fun b hb => by
  cases k with
  | l a =>
    rw [List.mem_singleton.mp hb]
    obtain ⟨its, _, p, _⟩ := I.list h
    exact p.lt
  | t a =>
    rw [List.mem_singleton.mp hb]
    obtain ⟨its, _, p, _⟩ := I.tuple h
    exact p.lt
  | s x => cases hb
/-- pairs of a place and an item -/
def ItEk (K : PySem.W.Frag) (k : Kd) (xs : List V) : It :=
  ⟨fun i H => k.At K H xs ∧ i < xs.length, fun i H v H' => ∃ T x, v = .ref T ∧ H T = none ∧ H' = upd H T (.tup [.int (i : Int), x]) ∧ xs[i]? = some x, fun i H => k.At K H xs ∧ i = xs.length⟩
theorem itE_ok {K : PySem.W.Frag} (k : Kd) (u : Value) (ru : RelV k.v u) (xs : List V) (it : Addr) (hne : ∀ a ∈ k.fs, it ≠ a) : ItE K (ItEk K k xs) it k.fs (k.Si it u) where
  go := fun X hK pins σ H s i I hg => by
    subst hK
    obtain ⟨P, Hs, o, _, hs, _, S, get⟩ := kd_src k u ru it hne I hg.1
    refine ⟨P, xs.length, Hs, S, hg.2, hs, fun u p => ?_⟩
    obtain ⟨x, rx, e⟩ := get i u p
    exact ⟨x, rx, fun T hT => ⟨T, x, rfl, hT, rfl, e⟩⟩
  stop := fun X hK pins σ H s i I hg => by
    subst hK
    obtain ⟨P, Hs, o, _, hs, _, S, get⟩ := kd_src k u ru it hne I hg.1
    exact ⟨P, Hs, by rw [hg.2]; exact S, hs⟩
  keep := fun i h h' st hk => by
    cases k with
    | l a => exact ⟨st.1, st.2.at fun o q => hk o q⟩
    | t a => exact ⟨st.1, st.2.at fun o q => hk o q⟩
    | s x =>
      obtain ⟨t', a, o, ho, hc, hd⟩ := st
      exact ⟨t', a, o, hk o ho, hc, hd⟩
  live := fun i h st => by
    cases k with
    | l a =>
      obtain ⟨_, o, ho, hc, hd⟩ := st
      exact ⟨o, ho, fun v q => by rw [hd] at q; cases q⟩
    | t a =>
      obtain ⟨_, o, ho, hc, hd⟩ := st
      exact ⟨o, ho, fun v q => by rw [hd] at q; cases q⟩
    | s x =>
      obtain ⟨t', _, o, ho, hc, hd⟩ := st
      exact ⟨o, ho, fun v q => by rw [hd] at q; cases q⟩
def iEn (K : PySem.W.Frag) (ta : TA) : TI := fun σ H R => ta σ H fun vs H1 => ∃ (k : Kd) (xs : List V), vs = [k.v] ∧ k.At K H1 xs ∧ R (ItEk K k xs) H1
theorem pi_en {X : Cx} {e : Expr} {ta : TA} {p pos tpos : Pos} {elts : List Expr} {kk : Nat} (hg : Gl X "enumerate") (hm : X.mg "enumerate" = none) (ha : PA X [e] ta) (hs : starEach [e] X.env = [(false, eval e X.env)] := by rfl) :
    PI X (.Tuple elts kk tpos) (.Call (.Name "enumerate" p) [e] [] pos) (iEn X.K ta) := by
  refine ⟨fun pins s σ H R I h => ?_⟩
  refine Call_ (ld_blt I hg hm boot_enumerate (PyProof.Rows.callWith_type1 (thn (ha.run pos pins s σ H _ I h) fun us s1 ⟨vs, H1, I1, r1, q1⟩ => ?_) hs rfl))
  obtain ⟨k, xs, ex, hat, q⟩ := q1
  subst ex
  obtain ⟨u, rfl, r⟩ := Vals.one r1
  · skip
    have hne : ∀ a ∈ k.fs, s1.heap.objs.size ≠ a := fun a ha => Nat.ne_of_gt (k.lt I1 hat a ha)
    obtain ⟨P, Hs, o, B, hs', init, S, get⟩ := kd_src k u r s1.heap.objs.size hne I1 hat
    refine enum1_begins B hs' fun h' he hit hsz hk => wpAny_pyIter_enum he ?_
    have I2 : Inv X pins σ H1 { s1 with heap := h' } := I1.kept (t' := s1.toks) hk
    refine ⟨s1.heap.objs.size + 1, [s1.heap.objs.size + 1, s1.heap.objs.size], _, _, H1, rfl, I2, turn_enumG (itE_ok k u r xs s1.heap.objs.size hne) (Nat.succ_ne_self _) (fun hm => absurd (k.lt I1 hat _ hm) (Nat.not_lt.mpr (Nat.le_succ _))), ⟨⟨.none, he⟩, init h' hit⟩, fun b hb => ?_, q⟩
    have hle : s1.heap.objs.size ≤ b := by
      rcases List.mem_cons.mp hb with z | z
      · rw [z]
        exact Nat.le_succ _
      · rw [List.mem_singleton.mp z]
        exact Nat.le_refl _
    exact I1.fpOk hle (I1.hok.fresh hle)

/-! ### zip of two -/
def ItZk (K : PySem.W.Frag) (k k2 : Kd) (xs ys : List V) : It :=
  ⟨fun i H => k.At K H xs ∧ k2.At K H ys ∧ i < min xs.length ys.length, fun i H v H' => ∃ T x y, v = .ref T ∧ H T = none ∧ H' = upd H T (.tup [x, y]) ∧ xs[i]? = some x ∧ ys[i]? = some y, fun i H => k.At K H xs ∧ k2.At K H ys ∧ i = min xs.length ys.length⟩
theorem turn_zipG {P : Program} {w : World} {K : PySem.W.Frag} {elts : List Expr} {kk : Nat} {tpos : Pos} {k k2 : Kd} {xs ys : List V} {u u2 : Value} (ru : RelV k.v u) (ru2 : RelV k2.v u2) {z TI TO i1 i2 : Addr} (D : ZipSep2 z TI TO i1 i2 (i1 :: k.fs) (i2 :: k2.fs)) (n1 : ∀ a ∈ k.fs, i1 ≠ a) (n2 : ∀ a ∈ k2.fs, i2 ≠ a) :
    Turn P w K (.Tuple elts kk tpos) (ItZk K k k2 xs ys) [z, TI, TO, i1, i2] z (fun i h => IsZip h z TI TO .none ∧ IsTupOf2 h TI (.ref i1) (.ref i2) ∧ (∃ a1 a2, IsTupOf2 h TO a1 a2) ∧ k.Si i1 u i h ∧ k2.Si i2 u2 i h) where
  mem := by simp
  obj := fun i h st b hb => by
    obtain ⟨hz, h1, ⟨a1, a2, h2⟩, s1, s2⟩ := st
    have e' : b = z ∨ b = TI ∨ b = TO ∨ b = i1 ∨ b = i2 := by simpa using hb
    rcases e' with rfl | rfl | rfl | rfl | rfl
    · exact ⟨_, hz, fun v q => nomatch q⟩
    · exact ⟨_, h1, fun v q => nomatch q⟩
    · exact ⟨_, h2, fun v q => nomatch q⟩
    · exact (itE_ok (K := K) k u ru xs _ n1).live i h s1
    · exact (itE_ok (K := K) k2 u2 ru2 ys _ n2).live i h s2
  keep := fun i h h' st hk => by
    obtain ⟨hz, h1, ⟨a1, a2, h2⟩, s1, s2⟩ := st
    exact ⟨hk z (by simp) _ hz, hk TI (by simp) _ h1, ⟨a1, a2, hk TO (by simp) _ h2⟩, (itE_ok (K := K) k u ru xs _ n1).keep i h h' s1 fun o q => hk i1 (by simp) o q, (itE_ok (K := K) k2 u2 ru2 ys _ n2).keep i h h' s2 fun o q => hk i2 (by simp) o q⟩
  item := by
    intro X hP hw hK hc i pins s σ H E I hf st hg
    subst hP hw hK
    obtain ⟨hz, h1, h2, s1, s2⟩ := st
    obtain ⟨P1, Hs1, _, _, hs1, _, S1, get1⟩ := kd_src k u ru i1 n1 I hg.1
    obtain ⟨P2, Hs2, _, _, hs2, _, S2, get2⟩ := kd_src k2 u2 ru2 i2 n2 I hg.2.1
    have G := GoesN.zip2 (elts := elts) (x1 := kk) (pos := tpos) D (S1.dr X.prog X.w X.A.in1 (I.ok.hd hc)) (S2.dr X.prog X.w X.A.in1 (I.ok.hd hc))
    have lt : ∀ b ∈ [z, TI, TO, i1, i2], b < s.heap.objs.size := fun b hb => by
      have e' : b = z ∨ b = TI ∨ b = TO ∨ b = i1 ∨ b = i2 := by simpa using hb
      rcases e' with rfl | rfl | rfl | rfl | rfl
      · exact Heap.lt_size hz
      · exact Heap.lt_size h1
      · obtain ⟨_, _, q⟩ := h2
        exact Heap.lt_size q
      · obtain ⟨o, q, _⟩ := (itE_ok (K := X.K) k u ru xs _ n1).live i _ s1
        exact Heap.lt_size q
      · obtain ⟨o, q, _⟩ := (itE_ok (K := X.K) k2 u2 ru2 ys _ n2).live i _ s2
        exact Heap.lt_size q
    refine wpAny_mono (G.goes i s (fun u' s2 => ∃ x H', Inv X pins σ H' s2 ∧ RelV x u' ∧ (ItZk X.K k k2 xs ys).yld i H x H' ∧ (IsZip s2.heap z TI TO .none ∧ IsTupOf2 s2.heap TI (.ref i1) (.ref i2) ∧ (∃ a1 a2, IsTupOf2 s2.heap TO a1 a2) ∧ k.Si i1 u (i + 1) s2.heap ∧ k2.Si i2 u2 (i + 1) s2.heap) ∧ ∀ b ∈ [z, TI, TO, i1, i2], H' b = none) E hg.2.2 ⟨hz, h1, h2, ⟨s1, hs1⟩, ⟨s2, hs2⟩⟩ fun v h' tk yv st' hk _ => ?_) (fun r s1 ⟨v, a, b⟩ => ⟨v, a, b⟩) fun _ _ z => z
    obtain ⟨T, x', y', rfl, hT, hx, hy, hTup⟩ := yv
    obtain ⟨x, rx, ex⟩ := get1 i _ hx
    obtain ⟨y, ry, ey⟩ := get2 i _ hy
    have fT : H T = none := I.hok.fresh hT
    have new : ObjOk X.prog X.w (upd H T (.tup [x, y])) h' T (.tup [x, y]) := ⟨by show 2 ≤ sizeLine; decide, [x', y'], .cons rx (.cons ry .nil), hTup⟩
    have I1 : Inv X pins σ (upd H T (.tup [x, y])) { s with heap := h', toks := tk } := I.turnedNew (ch := [z, TI, TO, i1, i2]) (fun b ob hb q => hk b ob (fun hm => hb (by
      have e' : b = z ∨ b = TO ∨ b = i1 ∨ b = i2 := by simpa using hm
      rcases e' with e' | e' | e' | e' <;> simp [e'])) q) hf hT new
    refine ⟨.ref T, _, I1, rfl, ⟨T, x, y, rfl, fT, rfl, ex, ey⟩, ⟨st'.1, st'.2.1, st'.2.2.1, st'.2.2.2.1.1, st'.2.2.2.2.1⟩, fun b hb => ?_⟩
    rw [upd_ne (Nat.ne_of_lt (Nat.lt_of_lt_of_le (lt b hb) hT))]
    exact (hf b hb).1
  done := by
    intro X hP hw hK hc i pins s σ H E I hf st hg
    subst hP hw hK
    obtain ⟨hz, h1, h2, s1, s2⟩ := st
    obtain ⟨P1, Hs1, _, _, hs1, _, S1, get1⟩ := kd_src k u ru i1 n1 I hg.1
    obtain ⟨P2, Hs2, _, _, hs2, _, S2, get2⟩ := kd_src k2 u2 ru2 i2 n2 I hg.2.1
    have G := GoesN.zip2 (elts := elts) (x1 := kk) (pos := tpos) D (S1.dr X.prog X.w X.A.in1 (I.ok.hd hc)) (S2.dr X.prog X.w X.A.in1 (I.ok.hd hc))
    have ei := hg.2.2
    subst ei
    exact G.stops s (fun s1 => Inv X pins σ H s1) E ⟨hz, h1, h2, ⟨s1, hs1⟩, ⟨s2, hs2⟩⟩ fun h' tk hk _ => I.turnedL (ch := [z, TI, TO, i1, i2]) (fun b ob hb q => hk b ob (fun hm => hb (by
      have e' : b = z ∨ b = TO ∨ b = i1 ∨ b = i2 := by simpa using hm
      rcases e' with e' | e' | e' | e' <;> simp [e'])) q) hf
  self := fun A i s Q E st h => wpAny_pyIter_zip st.1 h
def iZp (K : PySem.W.Frag) (ta : TA) : TI := fun σ H R => ta σ H fun vs H1 => ∃ (k k2 : Kd) (xs ys : List V), vs = [k.v, k2.v] ∧ k.At K H1 xs ∧ k2.At K H1 ys ∧ R (ItZk K k k2 xs ys) H1
theorem pi_zp {X : Cx} {e e2 : Expr} {ta : TA} {p pos tpos : Pos} {elts : List Expr} {kk : Nat} (hg : Gl X "zip") (hm : X.mg "zip" = none) (ha : PA X [e, e2] ta)
    (hs : starEach [e, e2] X.env = (false, eval e X.env) :: starEach [e2] X.env := by rfl) (hpl : (backTo pos (starEach [e2] X.env)).any (·.1) = false := by rfl) :
    PI X (.Tuple elts kk tpos) (.Call (.Name "zip" p) [e, e2] [] pos) (iZp X.K ta) := by
  refine ⟨fun pins s σ H R I h => ?_⟩
  refine Call_ (ld_blt I hg hm PyProof.Rows.boot_zip (PyProof.Rows.callWith_type1 (thn (ha.run pos pins s σ H _ I h) fun us s1 ⟨vs, H1, I1, r1, q1⟩ => ?_) hs hpl))
  obtain ⟨k, k2, xs, ys, ex, hat, hat2, q⟩ := q1
  subst ex
  obtain ⟨u, u2, rfl, r, r2⟩ := Vals.two r1
  · · skip
      have ne1 : ∀ a ∈ k.fs, s1.heap.objs.size ≠ a := fun a ha => Nat.ne_of_gt (k.lt I1 hat a ha)
      have ne2 : ∀ a ∈ k2.fs, s1.heap.objs.size + 1 ≠ a := fun a ha => Nat.ne_of_gt (Nat.lt_succ_of_lt (k2.lt I1 hat2 a ha))
      obtain ⟨P, Hs, o, B, hs', init, S, get⟩ := kd_src k u r s1.heap.objs.size ne1 I1 hat
      obtain ⟨P2, Hs2, o2, B2, hs2', init2, S2, get2⟩ := kd_src k2 u2 r2 (s1.heap.objs.size + 1) ne2 I1 hat2
      refine zip_begins2 B B2 hs' hs2' fun h' hz hTI hTO g1 g2 hsz hk => wpAny_pyIter_zip hz ?_
      have I2 : Inv X pins σ H1 { s1 with heap := h' } := I1.kept (t' := s1.toks) hk
      refine ⟨s1.heap.objs.size + 4, [s1.heap.objs.size + 4, s1.heap.objs.size + 2, s1.heap.objs.size + 3, s1.heap.objs.size, s1.heap.objs.size + 1], _, _, H1, rfl, I2, turn_zipG (xs := xs) (ys := ys) r r2 (zip_sep2 (k.lt I1 hat) (k2.lt I1 hat2)) ne1 ne2, ⟨hz, hTI, ⟨_, _, hTO⟩, init h' g1, init2 h' g2⟩, fun c hcm => ?_, q⟩
      have e' : c = s1.heap.objs.size + 4 ∨ c = s1.heap.objs.size + 2 ∨ c = s1.heap.objs.size + 3 ∨ c = s1.heap.objs.size ∨ c = s1.heap.objs.size + 1 := by simpa using hcm
      have hle : s1.heap.objs.size ≤ c := by
        rcases e' with z | z | z | z | z <;> rw [z]
        · exact Nat.le_add_right _ _
        · exact Nat.le_add_right _ _
        · exact Nat.le_add_right _ _
        · exact Nat.le_refl _
        · exact Nat.le_add_right _ _
      exact I1.fpOk hle (I1.hok.fresh hle)
end Z

set_option Elab.async false
set_option linter.all false
set_option maxRecDepth 100000
set_option maxHeartbeats 2000000
namespace Z
open PySem PySem.Spec PyProof.Rows L2
/-! ### enumerate and zip over data -/
def enumD (ds : List PyData) : List PyData := ds.zipIdx.map fun p => .tuple [.int (p.2 : Int), p.1]
def zipD (ds es : List PyData) : List PyData := List.zipWith (fun a b => .tuple [a, b]) ds es
section
variable {C : Cz} {ε : Ev} {L : Led} {te : TE} {ta : TA} {q : List PyData → Led → Prop}
theorem kd_of {K : PySem.W.Frag} {H : Hp} {v : V} {r : Rs} {ds : List PyData} (h : RsOk K L H v r) (s : SeqOf r ds) : ∃ (k : Kd) (xs : List V), v = k.v ∧ (∀ H', Ext (hid L H) H' → k.At K H' xs) ∧ RpAll K (hid L H) xs ds := by
  cases s with
  | lst =>
    cases h with
    | @lst a xs _ e ha => exact ⟨.l a, xs, rfl, fun H' x => SqL.of (x _ _ e), ha⟩
  | tup =>
    cases h with
    | @tup a xs _ e ha => exact ⟨.t a, xs, rfl, fun H' x => ext_t x e, ha⟩
  | str x =>
    cases h
    exact ⟨.s x, _, rfl, fun H' _ => rfl, rpAll_map _ fun c _ => .str _⟩
  | scr ns =>
    obtain ⟨a, e, hs⟩ := h
    exact ⟨.l a, _, e, fun H' x => ext_l x hs, rpAll_ints ns⟩
theorem rsAll_1 {K : PySem.W.Frag} {H : Hp} {vs : List V} {r : Rs} (o : RsAll K L H vs [r]) : ∃ v, vs = [v] ∧ RsOk K L H v r := by
  cases o with
  | cons a b =>
    cases b
    exact ⟨_, rfl, a⟩
theorem rsAll_2 {K : PySem.W.Frag} {H : Hp} {vs : List V} {r s : Rs} (o : RsAll K L H vs [r, s]) : ∃ v w, vs = [v, w] ∧ RsOk K L H v r ∧ RsOk K L H w s := by
  cases o with
  | cons a b =>
    obtain ⟨w, rfl, c⟩ := rsAll_1 b
    exact ⟨_, w, rfl, a, c⟩
theorem ci_en {K : PySem.W.Frag} (h : CA C ta ε L fun rs L1 => ∃ r ds, rs = [r] ∧ SeqOf r ds ∧ q (enumD ds) L1) (hK : C.K = K := by rfl) : CI C (iEn K ta) ε L q := fun σ H R Rl X z => by
  subst hK
  refine h σ H _ Rl X fun vs rs L1 H1 g1 k1 R1 o1 ⟨r, ds, er, hs, hq⟩ => ?_
  subst er
  obtain ⟨v, rfl, o⟩ := rsAll_1 o1
  obtain ⟨k, xs, rfl, hat, hx⟩ := kd_of o hs
  refine ⟨k, xs, rfl, hat _ hid_sub, z _ _ L1 H1 g1 k1 R1 (fun L' H' g l i => ?_) hq⟩
  have e : Ext (hid L1 H1) H' := g.ext.trans hid_sub
  have hl := rpAll_len hx
  refine ⟨fun hi => ⟨hat _ e, ?_⟩, fun d hd => ?_⟩
  · unfold enumD at hi
    rw [List.length_map, List.length_zipIdx] at hi
    omega
  · unfold enumD at hd
    rw [List.getElem?_map, List.getElem?_zipIdx] at hd
    cases e1 : ds[i]? with
    | none =>
      rw [e1] at hd
      cases hd
    | some d1 =>
      rw [e1] at hd
      cases hd
      obtain ⟨v, e2, r2⟩ := rpAll_get hx e1
      refine ⟨⟨hat _ e, (List.getElem?_eq_some_iff.mp e2).1⟩, fun w H2 ⟨T, x, ew, hT, eH, ex⟩ => ?_⟩
      subst ew eH
      rw [e2] at ex
      cases ex
      have gn : Grow H' L' (upd H' T (.tup [.int (i : Int), v])) L' := grow_new hT
      refine ⟨gn, l.new hT, .tup (SqT.of (by rw [hid_out (l.fresh hT)]; exact upd_same)) (.cons ?_ (.cons (rp_mono (g.ext.trans gn.ext) r2) .nil))⟩
      have e3 : (((0 + i : Nat) : Int)) = (i : Int) := by omega
      show Rp _ _ _ (.int (((0 + i : Nat) : Int)))
      rw [e3]
      exact .int _
theorem ci_zp {K : PySem.W.Frag} (h : CA C ta ε L fun rs L1 => ∃ r s ds es, rs = [r, s] ∧ SeqOf r ds ∧ SeqOf s es ∧ q (zipD ds es) L1) (hK : C.K = K := by rfl) : CI C (iZp K ta) ε L q := fun σ H R Rl X z => by
  subst hK
  refine h σ H _ Rl X fun vs rs L1 H1 g1 k1 R1 o1 ⟨r, s, ds, es, er, hs, hs2, hq⟩ => ?_
  subst er
  obtain ⟨v, v2, rfl, o, o2⟩ := rsAll_2 o1
  obtain ⟨k, xs, rfl, hat, hx⟩ := kd_of o hs
  obtain ⟨k2, ys, rfl, hat2, hy⟩ := kd_of o2 hs2
  refine ⟨k, k2, xs, ys, rfl, hat _ hid_sub, hat2 _ hid_sub, z _ _ L1 H1 g1 k1 R1 (fun L' H' g l i => ?_) hq⟩
  have e : Ext (hid L1 H1) H' := g.ext.trans hid_sub
  have hl := rpAll_len hx
  have hl2 := rpAll_len hy
  refine ⟨fun hi => ⟨hat _ e, hat2 _ e, ?_⟩, fun d hd => ?_⟩
  · unfold zipD at hi
    rw [List.length_zipWith] at hi
    omega
  · unfold zipD at hd
    rw [List.getElem?_zipWith] at hd
    cases e1 : ds[i]? with
    | none =>
      rw [e1] at hd
      cases hd
    | some d1 =>
      cases e2 : es[i]? with
      | none =>
        rw [e1, e2] at hd
        cases hd
      | some d2 =>
        rw [e1, e2] at hd
        cases hd
        obtain ⟨v, e3, r3⟩ := rpAll_get hx e1
        obtain ⟨u, e4, r4⟩ := rpAll_get hy e2
        refine ⟨⟨hat _ e, hat2 _ e, ?_⟩, fun w H2 ⟨T, x, y, ew, hT, eH, ex, ey⟩ => ?_⟩
        · have := (List.getElem?_eq_some_iff.mp e3).1
          have := (List.getElem?_eq_some_iff.mp e4).1
          omega
        subst ew eH
        rw [e3] at ex
        cases ex
        rw [e4] at ey
        cases ey
        have gn : Grow H' L' (upd H' T (.tup [v, u])) L' := grow_new hT
        exact ⟨gn, l.new hT, .tup (SqT.of (by rw [hid_out (l.fresh hT)]; exact upd_same)) (.cons (rp_mono (g.ext.trans gn.ext) r3) (.cons (rp_mono (g.ext.trans gn.ext) r4) .nil))⟩
end

/-! ### operators -/
def rAddZ (K : PySem.W.Frag) : R2 := fun x y H Q => rI0 (fun i j => .int (i + j)) x y H Q ∨ (∃ i j, x = .str i ∧ y = .str j ∧ i.length + j.length ≤ sizeLine ∧ Q (.str (i ++ j)) H) ∨ rCat x y H Q ∨ rCatA K x y H Q
theorem op_addZ {X : Cx} : OpR X (binaryOp .Add) (rAddZ X.K) := op_add.or (op_add_str.or (op_cat.or op_catA))
def rMulZ (K : PySem.W.Frag) : R2 := fun x y H Q => rI CMul (fun i j => .int (i * j)) x y H Q ∨ rRep x y H Q ∨ rRepT K x y H Q
theorem op_mulZ {X : Cx} : OpR X (binaryOp .Mult) (rMulZ X.K) := op_mul.or (op_rep.or op_repT)
def rLtZ : R2 := fun x y H Q => rI0 (fun i j => .bl (decide (i < j))) x y H Q ∨ ∃ i j, x = .str i ∧ y = .str j ∧ Q (.bl (decide (i.cps.toList < j.cps.toList))) H
theorem op_ltZ {X : Cx} : OpR X (compareOp .Lt) rLtZ := op_lt.or op_lt_str
def rEqZ (K : PySem.W.Frag) : R2 := fun x y H Q => rEq x y H Q ∨ rEqD K x y H Q
theorem op_eqZ {X : Cx} (hu : X.A.units + 64 < cLine) : OpR X (compareOp .Eq) (rEqZ X.K) := op_eq.or (op_eqD hu)
def rNeZ (K : PySem.W.Frag) : R2 := fun x y H Q => rNe x y H Q ∨ rNeD K x y H Q
theorem op_neZ {X : Cx} (hu : X.A.units + 64 < cLine) : OpR X (compareOp .NotEq) (rNeZ X.K) := op_ne.or (op_neD hu)
def rInZ (K : PySem.W.Frag) : R2 := fun x y H Q => (∃ (c : Nat) (z : Str), x = .str ⟨#[c]⟩ ∧ y = .str z ∧ Q (.bl (decide (c ∈ z.cps.toList))) H) ∨ rIn K false x y H Q
theorem op_inZ {X : Cx} : OpR X (compareOp .In) (rInZ X.K) := op_in_sign.or op_in_seq
def rNotInZ (K : PySem.W.Frag) : R2 := fun x y H Q => (∃ (c : Nat) (z : Str), x = .str ⟨#[c]⟩ ∧ y = .str z ∧ Q (.bl (!decide (c ∈ z.cps.toList))) H) ∨ rIn K true x y H Q
theorem op_notInZ {X : Cx} : OpR X (compareOp .NotIn) (rNotInZ X.K) := op_notIn_sign.or op_notIn_seq
def rIsZ : R2 := fun x y H Q => (y = .non ∧ Q (.bl (decide (x = .non))) H) ∨ rIsB x y H Q
theorem op_isZ {X : Cx} : OpR X (compareOp .Is) rIsZ := op_isN.or op_isBl
def rIsNotZ : R2 := fun x y H Q => (y = .non ∧ Q (.bl (!decide (x = .non))) H) ∨ rNotB x y H Q
theorem op_isNotZ {X : Cx} : OpR X (compareOp .IsNot) rIsNotZ := op_notN.or op_notBl
section
variable {C : Cz} {L : Led} {k : Rs → Led → Prop} {K : PySem.W.Frag}
/-- a value of both operands, nothing made -/
theorem od_val {r : R2} {x y z : Rs} (h : ∀ v w H, LOk C.K L H → RsOk C.K L H v x → RsOk C.K L H w y → ∃ u, RsOk C.K L H u z ∧ ∀ Q : VK, Q u H → r v w H Q) (q : k z L) : OD C r x y L k := fun v w H Q l a b f => by
  obtain ⟨u, o, g⟩ := h v w H l a b
  exact g Q (f u z L H (Grow.refl H L) (Keeps.refl L) l o q)
theorem od_int {g : Int → Int → Int} {i j : Int} (q : k (.dat (.int (g i j))) L) : OD C (rI0 fun a b => .int (g a b)) (.dat (.int i)) (.dat (.int j)) L k := od_val (fun v w H l a b => by
  cases a
  cases b
  exact ⟨.int (g i j), .int _, fun Q f => ⟨i, j, rfl, rfl, f⟩⟩) q
theorem od_intC {c : Int → Int → Prop} {g : Int → Int → Int} {i j : Int} (hc : c i j) (q : k (.dat (.int (g i j))) L) : OD C (rI c fun a b => .int (g a b)) (.dat (.int i)) (.dat (.int j)) L k := od_val (fun v w H l a b => by
  cases a
  cases b
  exact ⟨.int (g i j), .int _, fun Q f => ⟨i, j, rfl, rfl, hc, f⟩⟩) q
theorem od_cmp {g : Int → Int → Bool} {i j : Int} (q : k (.dat (.bool (g i j))) L) : OD C (rI0 fun a b => .bl (g a b)) (.dat (.int i)) (.dat (.int j)) L k := od_val (fun v w H l a b => by
  cases a
  cases b
  exact ⟨.bl (g i j), .bl _, fun Q f => ⟨i, j, rfl, rfl, f⟩⟩) q
theorem od_or1 {r r' : R2} {x y : Rs} (h : OD C r x y L k) : OD C (fun a b H Q => r a b H Q ∨ r' a b H Q) x y L k := fun v w H Q l a b f => .inl (h v w H Q l a b f)
theorem od_or2 {r r' : R2} {x y : Rs} (h : OD C r' x y L k) : OD C (fun a b H Q => r a b H Q ∨ r' a b H Q) x y L k := fun v w H Q l a b f => .inr (h v w H Q l a b f)
theorem od_add_int {i j : Int} (q : k (.dat (.int (i + j))) L) : OD C (rAddZ K) (.dat (.int i)) (.dat (.int j)) L k := od_or1 (od_int (g := fun a b => a + b) q)
theorem od_add_str {i j : Str} (h : i.length + j.length ≤ sizeLine) (q : k (.dat (.str (i ++ j))) L) : OD C (rAddZ K) (.dat (.str i)) (.dat (.str j)) L k := od_or2 (od_or1 (od_val (fun v w H l a b => by
  cases a
  cases b
  exact ⟨.str (i ++ j), .str _, fun Q f => ⟨i, j, rfl, rfl, h, f⟩⟩) q))
theorem od_add_lst {ds es : List PyData} (h : ds.length + es.length ≤ sizeLine) (q : k (.dat (.list (ds ++ es))) L) : OD C (rAddZ K) (.dat (.list ds)) (.dat (.list es)) L k := fun v w H Q l a b f => .inr (.inr (.inl (by
  cases a with
  | @lst p xs _ e ha =>
    cases b with
    | @lst p2 ys _ e2 hb =>
      refine ⟨p, p2, xs, ys, rfl, rfl, hid_sub _ _ e, hid_sub _ _ e2, by rw [rpAll_len ha, rpAll_len hb]; exact h, fun z hz => ?_⟩
      have g : Grow H L (upd H z (.lst (xs ++ ys))) L := grow_new hz
      exact f _ (.dat (.list (ds ++ es))) L _ g (Keeps.refl L) (l.new hz) (.lst (by rw [hid_out (l.fresh hz)]; exact upd_same) (rpAll_mono g.ext (rpAll_app ha hb))) q)))
theorem od_add_tup {ds es : List PyData} (h : ds.length + es.length ≤ sizeLine) (q : k (.dat (.tuple (ds ++ es))) L) (hK : C.K = K := by rfl) : OD C (rAddZ K) (.dat (.tuple ds)) (.dat (.tuple es)) L k := fun v w H Q l a b f => .inr (.inr (.inr (by
  subst hK
  cases a with
  | @tup p xs _ e ha =>
    cases b with
    | @tup p2 ys _ e2 hb =>
      refine ⟨p, p2, xs, ys, rfl, rfl, ext_t hid_sub e, ext_t hid_sub e2, by rw [rpAll_len ha, rpAll_len hb]; exact h, fun hx => ?_, fun hx hy => ?_, fun hx hy z hz => ?_⟩
      · subst hx
        cases ha
        exact f _ (.dat (.tuple es)) L H (Grow.refl H L) (Keeps.refl L) l (.tup e2 hb) q
      · subst hy
        cases hb
        rw [List.append_nil] at q
        exact f _ (.dat (.tuple ds)) L H (Grow.refl H L) (Keeps.refl L) l (.tup e ha) q
      · have g : Grow H L (upd H z (.tup (xs ++ ys))) L := grow_new hz
        exact f _ (.dat (.tuple (ds ++ es))) L _ g (Keeps.refl L) (l.new hz) (.tup (SqT.of (by rw [hid_out (l.fresh hz)]; exact upd_same)) (rpAll_mono g.ext (rpAll_app ha hb))) q)))
theorem od_mul_int {i j : Int} (h : CMul i j) (q : k (.dat (.int (i * j))) L) : OD C (rMulZ K) (.dat (.int i)) (.dat (.int j)) L k := od_or1 (od_intC (g := fun a b => a * b) h q)
theorem rpAll_rep {H : Hp} {vs : List V} {ds : List PyData} (h : RpAll K H vs ds) : ∀ n : Nat, RpAll K H (List.replicate n vs).flatten (List.replicate n ds).flatten
  | 0 => .nil
  | n + 1 => by
    rw [List.replicate_succ, List.replicate_succ, List.flatten_cons, List.flatten_cons]
    exact rpAll_app h (rpAll_rep h n)
theorem od_mul_lst {ds : List PyData} {n : Int} (h : -(2 ^ 63) ≤ n ∧ n < 2 ^ 63 ∧ ds.length * n.toNat ≤ sizeLine) (q : k (.dat (.list (List.replicate n.toNat ds).flatten)) L) : OD C (rMulZ K) (.dat (.list ds)) (.dat (.int n)) L k := fun v w H Q l a b f => .inr (.inl (by
  cases a with
  | @lst p xs _ e ha =>
    cases b
    refine ⟨p, n, xs, rfl, rfl, hid_sub _ _ e, h.1, h.2.1, by rw [rpAll_len ha]; exact h.2.2, fun z hz => ?_⟩
    have g : Grow H L (upd H z (.lst (List.replicate n.toNat xs).flatten)) L := grow_new hz
    exact f _ (.dat (.list (List.replicate n.toNat ds).flatten)) L _ g (Keeps.refl L) (l.new hz) (.lst (by rw [hid_out (l.fresh hz)]; exact upd_same) (rpAll_mono g.ext (rpAll_rep ha _))) q))
theorem od_lt_int {i j : Int} (q : k (.dat (.bool (decide (i < j)))) L) : OD C rLtZ (.dat (.int i)) (.dat (.int j)) L k := od_or1 (od_cmp (g := fun a b => decide (a < b)) q)
theorem od_lt_str {i j : Str} (q : k (.dat (.bool (decide (i.cps.toList < j.cps.toList)))) L) : OD C rLtZ (.dat (.str i)) (.dat (.str j)) L k := od_or2 (od_val (fun v w H l a b => by
  cases a
  cases b
  exact ⟨.bl _, .bl _, fun Q f => ⟨i, j, rfl, rfl, f⟩⟩) q)
/-! equality -/
theorem od_eq_int {i j : Int} (q : k (.dat (.bool (i == j))) L) : OD C (rEqZ K) (.dat (.int i)) (.dat (.int j)) L k := od_or1 (od_val (fun v w H l a b => by
  cases a
  cases b
  exact ⟨.bl (i == j), .bl _, fun Q f => ⟨rfl, by rw [dec_int]; exact f⟩⟩) q)
theorem od_eq_str {i j : Str} (q : k (.dat (.bool (i == j))) L) : OD C (rEqZ K) (.dat (.str i)) (.dat (.str j)) L k := od_or1 (od_val (fun v w H l a b => by
  cases a
  cases b
  exact ⟨.bl (i == j), .bl _, fun Q f => ⟨rfl, by rw [dec_str]; exact f⟩⟩) q)
theorem od_eq_bool {i j : Bool} (q : k (.dat (.bool (i == j))) L) : OD C (rEqZ K) (.dat (.bool i)) (.dat (.bool j)) L k := od_or1 (od_val (fun v w H l a b => by
  cases a
  cases b
  exact ⟨.bl (i == j), .bl _, fun Q f => ⟨rfl, by rw [dec_bl]; exact f⟩⟩) q)
theorem od_ne_int {i j : Int} (q : k (.dat (.bool (!(i == j)))) L) : OD C (rNeZ K) (.dat (.int i)) (.dat (.int j)) L k := od_or1 (od_val (fun v w H l a b => by
  cases a
  cases b
  exact ⟨.bl (!(i == j)), .bl _, fun Q f => ⟨rfl, by rw [dec_int]; exact f⟩⟩) q)
theorem od_ne_str {i j : Str} (q : k (.dat (.bool (!(i == j)))) L) : OD C (rNeZ K) (.dat (.str i)) (.dat (.str j)) L k := od_or1 (od_val (fun v w H l a b => by
  cases a
  cases b
  exact ⟨.bl (!(i == j)), .bl _, fun Q f => ⟨rfl, by rw [dec_str]; exact f⟩⟩) q)
theorem od_ne_bool {i j : Bool} (q : k (.dat (.bool (!(i == j)))) L) : OD C (rNeZ K) (.dat (.bool i)) (.dat (.bool j)) L k := od_or1 (od_val (fun v w H l a b => by
  cases a
  cases b
  exact ⟨.bl (!(i == j)), .bl _, fun Q f => ⟨rfl, by rw [dec_bl]; exact f⟩⟩) q)
theorem od_eq_deep {d e : PyData} (h : SeqAt.shaped d = true ∧ SeqAt.shaped e = true ∧ flatD d = true ∧ flatD e = true) (q : k (.dat (.bool (PyData.eqv d e))) L) (hK : C.K = K := by rfl) : OD C (rEqZ K) (.dat d) (.dat e) L k := od_or2 (od_val (fun v w H l a b => by
  subst hK
  exact ⟨.bl _, .bl _, fun Q f => ⟨d, e, rp_dp (rp_mono hid_sub a) h.2.2.1, rp_dp (rp_mono hid_sub b) h.2.2.2, h.1, h.2.1, f⟩⟩) q)
theorem od_ne_deep {d e : PyData} (h : SeqAt.shaped d = true ∧ SeqAt.shaped e = true ∧ flatD d = true ∧ flatD e = true) (q : k (.dat (.bool (!PyData.eqv d e))) L) (hK : C.K = K := by rfl) : OD C (rNeZ K) (.dat d) (.dat e) L k := od_or2 (od_val (fun v w H l a b => by
  subst hK
  exact ⟨.bl _, .bl _, fun Q f => ⟨d, e, rp_dp (rp_mono hid_sub a) h.2.2.1, rp_dp (rp_mono hid_sub b) h.2.2.2, h.1, h.2.1, f⟩⟩) q)
/-! in -/
theorem od_in_sign {c : Nat} {z : Str} (q : k (.dat (.bool (decide (c ∈ z.cps.toList)))) L) : OD C (rInZ K) (.dat (.str ⟨#[c]⟩)) (.dat (.str z)) L k := od_or1 (od_val (fun v w H l a b => by
  cases a
  cases b
  exact ⟨.bl _, .bl _, fun Q f => ⟨c, z, rfl, rfl, f⟩⟩) q)
theorem od_notIn_sign {c : Nat} {z : Str} (q : k (.dat (.bool (!decide (c ∈ z.cps.toList)))) L) : OD C (rNotInZ K) (.dat (.str ⟨#[c]⟩)) (.dat (.str z)) L k := od_or1 (od_val (fun v w H l a b => by
  cases a
  cases b
  exact ⟨.bl _, .bl _, fun Q f => ⟨c, z, rfl, rfl, f⟩⟩) q)
theorem od_is_bool {i j : Bool} (q : k (.dat (.bool (decide (i = j)))) L) : OD C rIsZ (.dat (.bool i)) (.dat (.bool j)) L k := od_or2 (od_val (fun v w H l a b => by
  cases a
  cases b
  exact ⟨.bl _, .bl _, fun Q f => ⟨i, j, rfl, rfl, f⟩⟩) q)
theorem od_isNot_bool {i j : Bool} (q : k (.dat (.bool (!decide (i = j)))) L) : OD C rIsNotZ (.dat (.bool i)) (.dat (.bool j)) L k := od_or2 (od_val (fun v w H l a b => by
  cases a
  cases b
  exact ⟨.bl _, .bl _, fun Q f => ⟨i, j, rfl, rfl, f⟩⟩) q)
def isNoneD : PyData → Bool
  | .none => true
  | _ => false
theorem rp_none {H : Hp} {v : V} {d : PyData} (h : Rp K H v d) : decide (v = .non) = isNoneD d := by
  cases h <;> simp [isNoneD]
theorem od_is_none {d : PyData} (q : k (.dat (.bool (isNoneD d))) L) : OD C rIsZ (.dat d) (.dat .none) L k := od_or1 (od_val (fun v w H l a b => by
  cases b
  exact ⟨.bl _, .bl _, fun Q f => ⟨rfl, by rw [rp_none a]; exact f⟩⟩) q)
theorem od_isNot_none {d : PyData} (q : k (.dat (.bool (!isNoneD d))) L) : OD C rIsNotZ (.dat d) (.dat .none) L k := od_or1 (od_val (fun v w H l a b => by
  cases b
  exact ⟨.bl _, .bl _, fun Q f => ⟨rfl, by rw [rp_none a]; exact f⟩⟩) q)
/-! items -/
theorem atI_rp {H : Hp} {xs : List V} {ds : List PyData} {i : Int} {d : PyData} (h : RpAll K H xs ds) (e : atI ds i = some d) : ∃ v, atI xs i = some v ∧ Rp K H v d := by
  unfold atI at e ⊢
  rw [rpAll_len h]
  cases e1 : ixN ds.length i with
  | none =>
    rw [e1] at e
    cases e
  | some j =>
    rw [e1] at e
    obtain ⟨v, e2, r⟩ := rpAll_get h (show ds[j]? = some d from e)
    exact ⟨v, e2, r⟩
abbrev rIxZ (K : PySem.W.Frag) : R2 := rIx K
theorem od_ix_lst {ds : List PyData} {i : Int} {d : PyData} (e : atI ds i = some d) (q : k (.dat d) L) (hK : C.K = K := by rfl) : OD C (rIx K) (.dat (.list ds)) (.dat (.int i)) L k := by
  subst hK
  refine od_or1 (od_val (fun v w H l a b => ?_) q)
  cases a with
  | @lst p xs _ e2 ha =>
    cases b
    obtain ⟨v, e3, r⟩ := atI_rp ha e
    exact ⟨v, r, fun Q f => ⟨p, xs, i, v, rfl, rfl, SqL.of (hid_sub _ _ e2), e3, f⟩⟩
theorem od_ix_tup {ds : List PyData} {i : Int} {d : PyData} (e : atI ds i = some d) (q : k (.dat d) L) (hK : C.K = K := by rfl) : OD C (rIx K) (.dat (.tuple ds)) (.dat (.int i)) L k := by
  subst hK
  refine od_or2 (od_or1 (od_val (fun v w H l a b => ?_) q))
  cases a with
  | @tup p xs _ e2 ha =>
    cases b
    obtain ⟨v, e3, r⟩ := atI_rp ha e
    exact ⟨v, r, fun Q f => ⟨p, xs, i, v, rfl, rfl, ext_t hid_sub e2, e3, f⟩⟩
theorem od_ix_str {z : Str} {i : Int} {c : Nat} (h : z.length ≤ sizeLine) (e : atI z.cps.toList i = some c) (q : k (.dat (sgn c)) L) : OD C (rIx K) (.dat (.str z)) (.dat (.int i)) L k := od_or2 (od_or2 (od_val (fun v w H l a b => by
  cases a
  cases b
  exact ⟨.str ⟨#[c]⟩, .str _, fun Q f => ⟨z, i, c, rfl, rfl, h, e, f⟩⟩) q))
theorem od_mod {i j : Int} (h : 0 < j) (q : k (.dat (.int (i % j))) L) : OD C (rI (fun _ j => 0 < j) fun i j => .int (i % j)) (.dat (.int i)) (.dat (.int j)) L k := od_intC (c := fun _ j => 0 < j) (g := fun i j => i % j) h q
theorem od_sub {i j : Int} (q : k (.dat (.int (i - j))) L) : OD C (rI0 fun i j => .int (i - j)) (.dat (.int i)) (.dat (.int j)) L k := od_int (g := fun i j => i - j) q
end

/-! ### built-in functions by values -/
section
variable {C : Cz} {ε : Ev} {L : Led} {k : Rs → Led → Prop} {K : PySem.W.Frag} {te : TE} {ta : TA}
theorem cd_val {r : List V → Hp → VK → Prop} {xs : List Rs} {z : Rs} (h : ∀ vs H, LOk C.K L H → RsAll C.K L H vs xs → ∃ u, RsOk C.K L H u z ∧ ∀ Q : VK, Q u H → r vs H Q) (q : k z L) : CD C r xs L k := fun vs H Q l o f => by
  obtain ⟨u, a, b⟩ := h vs H l o
  exact b Q (f u z L H (Grow.refl H L) (Keeps.refl L) l a q)
/-- a new list of values -/
theorem cd_lst {r : List V → Hp → VK → Prop} {xs : List Rs} {ds : List PyData} (h : ∀ vs H, LOk C.K L H → RsAll C.K L H vs xs → ∃ us, RpAll C.K (hid L H) us ds ∧ ∀ Q : VK, (∀ p, H p = none → Q (.ref p) (upd H p (.lst us))) → r vs H Q) (q : k (.dat (.list ds)) L) : CD C r xs L k := fun vs H Q l o f => by
  obtain ⟨us, a, b⟩ := h vs H l o
  refine b Q fun p hp => ?_
  have g : Grow H L (upd H p (.lst us)) L := grow_new hp
  exact f _ (.dat (.list ds)) L _ g (Keeps.refl L) (l.new hp) (.lst (by rw [hid_out (l.fresh hp)]; exact upd_same) (rpAll_mono g.ext a)) q
theorem cd_or1 {r r' : List V → Hp → VK → Prop} {xs : List Rs} (h : CD C r xs L k) : CD C (fun a H Q => r a H Q ∨ r' a H Q) xs L k := fun v H Q l a f => .inl (h v H Q l a f)
theorem cd_or2 {r r' : List V → Hp → VK → Prop} {xs : List Rs} (h : CD C r' xs L k) : CD C (fun a H Q => r a H Q ∨ r' a H Q) xs L k := fun v H Q l a f => .inr (h v H Q l a f)
/-- len -/
def rLenZ (K : PySem.W.Frag) : List V → Hp → VK → Prop := fun xs H Q => ∃ x n, xs = [x] ∧ LenV K x H n ∧ Q (.int n) H
theorem call_lenZ {X : Cx} : CallR X (.builtin "len") (rLenZ X.K) := call_len
theorem cd_len_lst {ds : List PyData} (q : k (.dat (.int (ds.length : Int))) L) : CD C (rLenZ K) [.dat (.list ds)] L k := cd_val (fun vs H l o => by
  obtain ⟨v, rfl, o1⟩ := rsAll_1 o
  cases o1 with
  | @lst p xs _ e ha => exact ⟨.int _, .int _, fun Q f => ⟨.ref p, ds.length, rfl, .inl ⟨xs, SqL.of (hid_sub _ _ e), (rpAll_len ha).symm⟩, f⟩⟩) q
theorem cd_len_tup {ds : List PyData} (q : k (.dat (.int (ds.length : Int))) L) (hK : C.K = K := by rfl) : CD C (rLenZ K) [.dat (.tuple ds)] L k := by
  subst hK
  refine cd_val (fun vs H l o => ?_) q
  obtain ⟨v, rfl, o1⟩ := rsAll_1 o
  cases o1 with
  | @tup p xs _ e ha => exact ⟨.int _, .int _, fun Q f => ⟨.ref p, ds.length, rfl, .inr ⟨xs, ext_t hid_sub e, (rpAll_len ha).symm⟩, f⟩⟩
theorem cd_len_str {z : Str} (h : z.length ≤ sizeLine) (q : k (.dat (.int (z.length : Int))) L) : CD C (rLenZ K) [.dat (.str z)] L k := cd_val (fun vs H l o => by
  obtain ⟨v, rfl, o1⟩ := rsAll_1 o
  cases o1
  exact ⟨.int _, .int _, fun Q f => ⟨.str z, z.length, rfl, ⟨h, rfl⟩, f⟩⟩) q
/-- int -/
def rIntZ : List V → Hp → VK → Prop := fun xs H Q => ((∃ i, xs = [.int i] ∧ Q (.int i) H) ∨ ∃ b, xs = [.bl b] ∧ Q (.int (if b then 1 else 0)) H) ∨ ∃ a n, xs = [.str a] ∧ PySem.intText? a = some n ∧ a.length ≤ 640 ∧ Q (.int n) H
theorem call_intZ {X : Cx} : CallR X (.type "int") rIntZ := call_int1.or call_int_str
theorem cd_int_int {i : Int} (q : k (.dat (.int i)) L) : CD C rIntZ [.dat (.int i)] L k := cd_or1 (cd_or1 (cd_val (fun vs H l o => by
  obtain ⟨v, rfl, o1⟩ := rsAll_1 o
  cases o1
  exact ⟨.int i, .int i, fun Q f => ⟨i, rfl, f⟩⟩) q))
theorem cd_int_bool {b : Bool} (q : k (.dat (.int (if b then 1 else 0))) L) : CD C rIntZ [.dat (.bool b)] L k := cd_or1 (cd_or2 (cd_val (fun vs H l o => by
  obtain ⟨v, rfl, o1⟩ := rsAll_1 o
  cases o1
  exact ⟨.int (if b then 1 else 0), .int _, fun Q f => ⟨b, rfl, f⟩⟩) q))
theorem cd_int_str {a : Str} {n : Int} (h : PySem.intText? a = some n ∧ a.length ≤ 640) (q : k (.dat (.int n)) L) : CD C rIntZ [.dat (.str a)] L k := cd_or2 (cd_val (fun vs H l o => by
  obtain ⟨v, rfl, o1⟩ := rsAll_1 o
  cases o1
  exact ⟨.int n, .int n, fun Q f => ⟨a, n, rfl, h.1, h.2, f⟩⟩) q)
/-- all, any, sum -/
theorem cd_all {bs : List Bool} (q : k (.dat (.bool (bs.all id))) L) : CD C (rAll K) [.dat (.list (bs.map PyData.bool))] L k := cd_val (fun vs H l o => by
  obtain ⟨v, rfl, o1⟩ := rsAll_1 o
  cases o1 with
  | @lst p xs _ e ha =>
    have ex := bools_of ha
    subst ex
    exact ⟨.bl _, .bl _, fun Q f => ⟨p, bs, rfl, SqL.of (hid_sub _ _ e), f⟩⟩) q
theorem cd_any {bs : List Bool} (q : k (.dat (.bool (bs.any id))) L) : CD C (rAny K) [.dat (.list (bs.map PyData.bool))] L k := cd_val (fun vs H l o => by
  obtain ⟨v, rfl, o1⟩ := rsAll_1 o
  cases o1 with
  | @lst p xs _ e ha =>
    have ex := bools_of ha
    subst ex
    exact ⟨.bl _, .bl _, fun Q f => ⟨p, bs, rfl, SqL.of (hid_sub _ _ e), f⟩⟩) q
theorem cd_sum {ns : List Int} (q : k (.dat (.int ns.sum)) L) : CD C (rSum K) [.dat (.list (ns.map PyData.int))] L k := cd_val (fun vs H l o => by
  obtain ⟨v, rfl, o1⟩ := rsAll_1 o
  cases o1 with
  | @lst p xs _ e ha =>
    have ex := ints_of ha
    subst ex
    exact ⟨.int _, .int _, fun Q f => ⟨p, ns, rfl, SqL.of (hid_sub _ _ e), f⟩⟩) q
theorem cd_abs {i : Int} (q : k (.dat (.int (if i < 0 then -i else i))) L) : CD C (fun xs H Q => ∃ i, xs = [.int i] ∧ Q (.int (if i < 0 then -i else i)) H) [.dat (.int i)] L k := cd_val (fun vs H l o => by
  obtain ⟨v, rfl, o1⟩ := rsAll_1 o
  cases o1
  exact ⟨.int _, .int _, fun Q f => ⟨i, rfl, f⟩⟩) q
/-! isinstance -/
def tyN : PyData → String
  | .none => "NoneType"
  | .bool _ => "bool"
  | .int _ => "int"
  | .str _ => "str"
  | .list _ => "list"
  | .tuple _ => "tuple"
  | .dict _ => "dict"
def isD (d : PyData) (c : String) : Bool := tyN d == c || (tyN d == "bool" && c == "int")
theorem sqT_ty {H : Hp} {a : Addr} {xs : List V} (h : SqT K H a xs) : TyX K H (.ref a) (.type "tuple") := by
  rcases h with (h | ⟨o, h⟩) | ⟨o, its, n, h1, h2, _⟩
  · exact .base (.tup h)
  · exact .fTuple h
  · exact .kTuple h1 h2
theorem rp_ty {H : Hp} {v : V} {d : PyData} (h : Rp K H v d) : TyX K H v (.type (tyN d)) := by
  cases h with
  | non => exact .base .non
  | bl b => exact .base (.bl b)
  | int i => exact .base (.int i)
  | str x => exact .base (.str x)
  | lst e _ => exact .base (.lst e)
  | tup e _ => exact sqT_ty e
  | dct e _ => exact .base (.dK e)
def okTy : List String := ["str", "int", "bool", "list", "tuple", "dict"]
theorem kit_all : (["NoneType", "bool", "int", "str", "list", "tuple", "dict"].all fun a => ["str", "int", "bool", "list", "tuple", "dict"].all fun c => kitB a c == some (a == c || (a == "bool" && c == "int"))) = true := by decide +kernel
theorem tyN_in (d : PyData) : tyN d ∈ ["NoneType", "bool", "int", "str", "list", "tuple", "dict"] := by
  cases d <;> simp [tyN]
theorem kit_d {d : PyData} {c : String} (h : c ∈ okTy) : PySem.W.kitOne K (.type (tyN d)) (.type c) = some (isD d c) := by
  refine kit_ty ?_
  have q := List.all_eq_true.mp (List.all_eq_true.mp kit_all _ (tyN_in d)) c h
  exact beq_iff_eq.mp q
theorem cd_isi {d : PyData} {c : String} (h : c ∈ okTy) (q : k (.dat (.bool (isD d c))) L) (hK : C.K = K := by rfl) : CD C (rIsi K) [.dat d, .raw (.ty c)] L k := by
  subst hK
  refine cd_val (fun vs H l o => ?_) q
  obtain ⟨v, w, rfl, o1, o2⟩ := rsAll_2 o
  have e : w = .ty c := o2
  subst e
  exact ⟨.bl _, .bl _, fun Q f => ⟨v, .ty c, .type (tyN d), .type c, isD d c, rfl, .ty c, rp_ty (rp_mono hid_sub o1), kit_d h, f⟩⟩
end

/-! ### methods -/
section
variable {C : Cz} {ε : Ev} {L : Led} {k : Rs → Led → Prop} {K : PySem.W.Frag} {te : TE} {ta : TA}
/-- a built-in's method by values -/
def MD (C : Cz) (r : V → List V → Hp → VK → Prop) (x : Rs) (xs : List Rs) (L : Led) (k : Rs → Led → Prop) : Prop :=
  ∀ (v : V) (vs : List V) (H : Hp) (Q : VK), LOk C.K L H → RsOk C.K L H v x → RsAll C.K L H vs xs → (∀ z s L' H', Grow H L H' L' → Keeps L L' → LOk C.K L' H' → RsOk C.K L' H' z s → k s L' → Q z H') → r v vs H Q
def rsTy (L : Led) : Rs → String → Prop
  | .dat d, T => tyN d = T ∧ (T = "str" ∨ T = "list" ∨ T = "dict")
  | .own _, T => T = "list"
  | _, _ => False
theorem rs_tyV {H : Hp} {v : V} {x : Rs} {T : String} (l : LOk K L H) (h : RsOk K L H v x) (t : rsTy L x T) : tyV K T v H := by
  cases x with
  | dat d =>
    obtain ⟨t1, t2⟩ := t
    have h' : Rp K H v d := rp_mono hid_sub h
    cases h' with
    | non => rw [← t1] at t2; simp [tyN] at t2
    | bl b => rw [← t1] at t2; simp [tyN] at t2
    | int i => rw [← t1] at t2; simp [tyN] at t2
    | str x => subst t1; exact rfl
    | lst e _ => subst t1; exact .inl ⟨rfl, _, SqL.of e⟩
    | tup e _ => rw [← t1] at t2; simp [tyN] at t2
    | dct e _ => subst t1; exact .inr (.inr (.inl ⟨rfl, .inl ⟨_, e⟩⟩))
  | own a =>
    obtain ⟨rfl, ha⟩ := h
    have t' : T = "list" := t
    subst t'
    obtain ⟨p, hp, rfl⟩ := List.mem_map.mp ha
    have q := l.at_ p hp
    obtain ⟨a, m⟩ := p
    cases m with
    | drw =>
      obtain ⟨ns, e⟩ := q
      exact .inl ⟨rfl, _, SqL.of e⟩
    | lst ds =>
      obtain ⟨xs, e, _⟩ := q
      exact .inl ⟨rfl, _, SqL.of e⟩
  | raw w => cases t
  | scr ns => cases t
theorem cp_bm {T : String} {r : V → List V → Hp → VK → Prop} (h : CP C te ε L fun x L1 => rsTy L1 x T ∧ CA C ta ε L1 fun xs L2 => MD C r x xs L2 k) (hK : C.K = K := by rfl) : CP C (tBM K T r te ta) ε L k := fun σ H Q R X z => by
  subst hK
  refine h σ H _ R X fun v x L1 H1 g1 k1 R1 o1 ⟨t, h1⟩ => ⟨rs_tyV R1.led o1 t, h1 σ H1 _ R1 (X.grow g1) fun vs xs L2 H2 g2 k2 R2 o2 q => ?_⟩
  exact q v vs H2 Q R2.led (o1.grow g2 k2) o2 fun u s L3 H3 g3 k3 l3 o3 q => z u s L3 H3 ((g1.trans g2).trans g3) ((k1.trans k2).trans k3) (R2.grow g3 k3 l3) o3 q
theorem cp_bm0 {T : String} {r : V → List V → Hp → VK → Prop} (h : CP C te ε L fun x L1 => rsTy L1 x T ∧ MD C r x [] L1 k) (hK : C.K = K := by rfl) : CP C (tBM0 K T r te) ε L k := fun σ H Q R X z => by
  subst hK
  refine h σ H _ R X fun v x L1 H1 g1 k1 R1 o1 ⟨t, q⟩ => ⟨rs_tyV R1.led o1 t, ?_⟩
  exact q v [] H1 Q R1.led o1 .nil fun u s L3 H3 g3 k3 l3 o3 q => z u s L3 H3 (g1.trans g3) (k1.trans k3) (R1.grow g3 k3 l3) o3 q
end
end Z

set_option Elab.async false
set_option linter.all false
set_option maxRecDepth 100000
set_option maxHeartbeats 2000000
/-! list(reversed(xs)) of a list -/
namespace ZRev
open PySem PySem.W PySem.Calls PyProof.Rows PySem.Spec
variable {prog : Program} {w : World} {A : Around} {E : Value → Shared → Prop}
theorem ext_rev {s : Shared} {R : Result → Shared → Prop} {it l : Addr} {items : Array Value} (hh : A.handled = none) (hit : s.heap.IsRevIter it l ((items.size : Int) - 1)) (hl : s.heap.IsList l items) (hne : l ≠ it) (hn : items.size ≤ sizeLine)
    (S : Addr) (hSi : S ≠ it) (hSl : S ≠ l) (res : Value) (c₀ : Nat) (hS : s.heap.get? S = some { cls := .type "list", data := .seq #[] c₀ })
    (hR : ∀ h' tk acc c, (∀ b o, b ≠ S → b ≠ it → s.heap.get? b = some o → h'.get? b = some o) → h'.get? S = some { cls := .type "list", dict := none, data := .seq acc c, slots := #[] } →
      ItemsOf (fun i v => items[items.size - 1 - i]? = some v) acc items.size → R (.ok (.ret res)) { s with heap := h', toks := tk }) :
    wpAny (model prog w) A.in1 (Builtin.List.listExtendWith (.ref S) (.ref it) res)
      (fun fin s' => match fin with
        | .done f => R (.ok f) s'
        | .again c' => c'.quiet = true ∧ codeAny (model prog w) A c' R s') (fun e s' => R (.error e) s') s := by
  have Wk := (Walks.listRev (prog := prog) (w := w) (A := A.in1) hh it l hne items).toS
  have nf : S ∉ [it, l] := by
    simp only [List.mem_cons, List.not_mem_nil, or_false, not_or]
    exact ⟨hSi, hSl⟩
  have tI : s.TypeIs (.ref it) "list_reverseiterator" := hit.typeIs
  have same : Builtin.List.listSameRef (.ref S) (.ref it) = false := by simp [Builtin.List.listSameRef, hSi]
  unfold Builtin.List.listExtendWith
  refine wpAny_bind (wpAny_typeOf tI ?_)
  rw [if_neg (by rw [same]; decide)]
  refine wpAny_bind (wpAny_pyIter_revIter hit ?_)
  refine wpAny_bind (wpAny_holding ?_)
  unfold Builtin.List.listLengthHint
  refine wpAny_bind (wpAny_specialOf tI RT.nolen_lri ?_)
  show wpAny _ A.in1 (specialOf (Value.ref it) (Str.ofString "__length_hint__") >>= _) _ _ _
  refine wpAny_bind (wpAny_specialOf tI RT.hint_lri ?_)
  generalize hd : ("list_reverseiterator.__length_hint__" : String) = nm
  wp_delta
  rw [show splitId nm = some ("list_reverseiterator", "__length_hint__") from by subst hd; decide +kernel]
  subst hd
  refine wpAny_bind (wpAny_isInstance (b := true) tI (by rw [isSubtype_type]; kernel_rfl) ?_)
  refine wpAny_pure ?_
  rw [if_neg (by decide)]
  have e0 : ((items.size : Nat) : Int) - 1 - ((0 : Nat) : Int) = (items.size : Int) - 1 := by omega
  refine wpAny_pure ⟨plainId_quiet F.plain_extend_loop _, codeAny_extend_loopS Wk hn S nf res items.size 0 _ #[] c₀ rfl (Nat.zero_le _) ⟨Nat.zero_le _, by rw [e0]; exact hit, hl⟩ hS (ItemsOf.nil _) fun s' acc c hm hS' hacc => ?_⟩
  rw [Moved.eq_with hm]
  refine hR s'.heap s'.toks acc c (fun b o hb hb2 e => hm.heap b o (fun hmem => ?_) e) hS' hacc
  rcases List.mem_cons.mp hmem with z | z
  · exact hb z
  · exact hb2 (List.mem_singleton.mp z)
theorem init_rev {s : Shared} {R : Result → Shared → Prop} {it l : Addr} {items : Array Value} (hh : A.handled = none) (hit : s.heap.IsRevIter it l ((items.size : Int) - 1)) (hl : s.heap.IsList l items) (hne : l ≠ it) (hn : items.size ≤ sizeLine)
    (S : Addr) (hSi : S ≠ it) (hSl : S ≠ l) (hS : s.heap.get? S = some { cls := .type "list", data := .seq #[] })
    (hR : ∀ h' tk acc c, (∀ b o, b ≠ S → b ≠ it → s.heap.get? b = some o → h'.get? b = some o) → h'.get? S = some { cls := .type "list", dict := none, data := .seq acc c, slots := #[] } →
      ItemsOf (fun i v => items[items.size - 1 - i]? = some v) acc items.size → R (.ok (.ret .none)) { s with heap := h', toks := tk }) :
    wpAny (model prog w) A.in1 (Builtin.«list.__init__» ⟨[.ref S, .ref it], []⟩)
      (fun fin s' => match fin with
        | .done f => R (.ok f) s'
        | .again c' => c'.quiet = true ∧ codeAny (model prog w) A c' R s') (fun e s' => R (.error e) s') s := by
  show wpAny _ _ (Builtin.List.listItems (.ref S) >>= fun old => Builtin.List.listUpdate (.ref S) (fun _ => #[]) >>= fun _ => letGo old.toList.reverse >>= fun _ => Builtin.List.listExtendWith (.ref S) (.ref it) .none) _ _ s
  refine wpAny_bind ?_
  unfold Builtin.List.listItems
  refine wpAny_bind (wpAny_seqItems hS rfl (wpAny_pure ?_))
  show wpAny _ _ (updateSeq S (fun _ => #[]) >>= fun _ => letGo (#[] : Array Value).toList.reverse >>= fun _ => Builtin.List.listExtendWith (.ref S) (.ref it) .none) _ _ s
  refine wpAny_bind (wpAny_updateSeq hS rfl ?_)
  have hS2 := Heap.get?_update_self (Obj.mapSeq (fun _ => (#[] : Array Value))) hS rfl
  have oth : ∀ b o, b ≠ S → s.heap.get? b = some o → (s.heap.update S (Obj.mapSeq (fun _ => (#[] : Array Value)))).get? b = some o := fun b o hb e => (Heap.get?_update_other _ _ (Ne.symm hb)).trans e
  refine wpAny_bind (wpAny_letGo ?_)
  exact ext_rev hh (hit.at fun o e => oth it o (Ne.symm hSi) e) (hl.at fun o e => oth l o (Ne.symm hSl) e) hne hn S hSi hSl .none _ hS2 fun h' tk acc c hk hS' hacc => hR h' tk acc c (fun b o hb hb2 e => hk b o hb hb2 (oth b o hb e)) hS' hacc
theorem call_list_rev {s : Shared} {it l : Addr} {items : Array Value} {Q : Value → Shared → Prop} (hh : A.handled = none) (hit : s.heap.IsRevIter it l ((items.size : Int) - 1)) (hl : s.heap.IsList l items) (hne : l ≠ it) (hn : items.size ≤ sizeLine)
    (hQ : ∀ h' tk acc c, (∀ b o, b ≠ it → s.heap.get? b = some o → h'.get? b = some o) → h'.get? s.heap.objs.size = some { cls := .type "list", dict := none, data := .seq acc c, slots := #[] } →
      ItemsOf (fun i v => items[items.size - 1 - i]? = some v) acc items.size → Q (.ref s.heap.objs.size) { s with heap := h', toks := tk }) :
    wpAny (model prog w) A (call (.type "list") [.ref it]) Q E s := by
  obtain ⟨oi, hoi, _⟩ := id hit
  obtain ⟨ol, hol, _⟩ := id hl
  refine callType_codes (Q₁ := fun obj s₁ => obj = .ref s.heap.objs.size ∧ s₁ = { s with heap := s.heap.push { cls := .type "list", data := .seq #[] } }) PySem.F.called_list (PySem.F.typeCall_list_1 _) PySem.F.entry_list_init (code_list_new _ ⟨rfl, rfl⟩) fun obj s₁ h₁ => ?_
  obtain ⟨rfl, rfl⟩ := h₁
  have hS : (s.heap.push { cls := .type "list", data := .seq #[] }).get? s.heap.objs.size = some { cls := .type "list", data := .seq #[] } := Heap.get?_push_size _ rfl
  refine ⟨⟨_, hS, rfl⟩, PySem.F.args_list_init_2 _ _, init_rev (A := A.in1) hh (hit.at fun o e => Heap.get?_push_of_some _ e) (hl.at fun o e => Heap.get?_push_of_some _ e) hne hn _ (Nat.ne_of_gt (Heap.lt_size hoi)) (Nat.ne_of_gt (Heap.lt_size hol)) hS fun h' tk acc c hk hS' hacc => ?_⟩
  exact ⟨rfl, hQ h' tk acc c (fun b o hb e => hk b o (Nat.ne_of_lt (Heap.lt_size e)) hb (Heap.get?_push_of_some _ e)) hS' hacc⟩
end ZRev
namespace Z
open PySem PySem.Spec PyProof.Rows L2
def tLRev (K : PySem.W.Frag) (te : TE) : TE := fun σ H Q => te σ H fun v H1 => ∃ (a : Addr) (xs : List V), v = .ref a ∧ SqL K H1 a xs ∧ ∀ q, H1 q = none → Q (.ref q) (upd H1 q (.lst xs.reverse))
theorem pe_lrev {X : Cx} {e : Expr} {te : TE} {p p2 pos pos2 : Pos} (hc : X.calm = true) (hg : Gl X "list") (hm : X.mg "list" = none) (hg2 : Gl X "reversed") (hm2 : X.mg "reversed" = none) (he : PE X e te)
    (hs : starEach [e] X.env = (false, eval e X.env) :: starEach [] X.env := by rfl)
    (hs2 : starEach [.Call (.Name "reversed" p2) [e] [] pos2] X.env = (false, eval (.Call (.Name "reversed" p2) [e] [] pos2) X.env) :: starEach [] X.env := by rfl) :
    PE X (.Call (.Name "list" p) [.Call (.Name "reversed" p2) [e] [] pos2] [] pos) (tLRev X.K te) := by
  refine ⟨fun pins s σ H Q I h => ?_⟩
  refine Call_ (ld_blt I hg hm boot_list (PyProof.Rows.callWith_type1 (args_cons (Call_ (ld_blt I hg2 hm2 PyProof.Rows.boot_reversed (PyProof.Rows.callWith_type1 (args_cons (thn (he.run pins s σ H _ I h) fun u s1 ⟨v, H1, I1, r1, q1⟩ => args_nil ?_) hs) hs rfl))) hs2) hs2 rfl))
  obtain ⟨a, xs, ev, hq, q⟩ := q1
  subst ev
  obtain rfl : u = Value.ref a := r1
  obtain ⟨its, rv, p', hz⟩ := I1.list hq
  refine call_reversed_list p'.isList (args_nil ?_)
  have I2 : Inv X pins σ H1 { s1 with heap := s1.heap.push (revObj a ((its.toArray.size : Int) - 1)) } := I1.kept (t' := s1.toks) fun b o e => Heap.get?_push_of_some _ e
  obtain ⟨f0, f1, f2, f3, f4, f5⟩ := I1.fpOk (H' := H1) (b := s1.heap.objs.size) (Nat.le_refl _) (I1.hok.fresh (Nat.le_refl _))
  have hl := p'.isList
  obtain ⟨ol, hol, _⟩ := id hl
  have hne : a ≠ s1.heap.objs.size := Nat.ne_of_lt (Heap.lt_size hol)
  have hn : its.toArray.size ≤ sizeLine := by rw [List.size_toArray, ← rv.length]; exact hz
  have hsz : (s1.heap.push (revObj a ((its.toArray.size : Int) - 1))).objs.size = s1.heap.objs.size + 1 := Heap.size_push ..
  refine ZRev.call_list_rev (s := { s1 with heap := s1.heap.push (revObj a ((its.toArray.size : Int) - 1)) }) (I1.ok.hd hc) ⟨_, Heap.get?_push_size _ rfl, rfl, rfl⟩ (hl.push _) hne hn fun h' tk acc c hk hS hi => ?_
  -- the new list stands behind the iterator's cell
  have hfree : H1 (s1.heap.objs.size + 1) = none := I1.hok.fresh (Nat.le_succ _)
  show EP X pins σ Q (.ref (s1.heap.push (revObj a ((its.toArray.size : Int) - 1))).objs.size) { s1 with heap := h', toks := tk }
  rw [hsz]
  rw [show ({ s1 with heap := s1.heap.push (revObj a ((its.toArray.size : Int) - 1)) } : Shared).heap.objs.size = s1.heap.objs.size + 1 from hsz] at hS
  refine ⟨.ref (s1.heap.objs.size + 1), upd H1 (s1.heap.objs.size + 1) (.lst xs.reverse), ?_, rfl, q _ hfree⟩
  refine I2.turnedNew (ch := [s1.heap.objs.size]) (fun b ob hb e => hk b ob (fun z => hb (by rw [z]; exact List.mem_cons_self)) e) (fun b hb => ?_) (by show (s1.heap.push _).objs.size ≤ _; rw [hsz]; exact Nat.le_refl _) ?_
  · rw [List.mem_singleton.mp hb]
    exact ⟨f0, f1, f2, f3, f4, f5⟩
  · exact ⟨by rw [List.length_reverse]; exact hz, acc.toList, c, RT.vals_rev rv hi, by rw [Array.toArray_toList]; exact hS⟩
end Z

set_option linter.all false
namespace Z
open PySem
theorem occ_one (x : Str) (c : Nat) : (Builtin.Str.occurrences x ⟨#[c]⟩ 0 x.length (x.length + 1)).length = x.cps.toList.count c := by
  have key : ∀ (n i fr : Nat) (found : Array Nat), found.size ≤ i → fr ≤ i → i + n = x.length + 1 →
      (forIn (List.range' i n) (found, fr) (StrLaws.occBody x ⟨#[c]⟩ x.length (x.length + 1))).run.fst.size = found.size + (x.cps.toList.drop i).count c := by
    intro n
    induction n with
    | zero =>
      intro i fr found hf hfr hi
      have e : x.cps.toList.drop i = [] := List.drop_eq_nil_of_le (by rw [Array.length_toList]; show x.length ≤ i; omega)
      rw [e]
      rfl
    | succ n ih =>
      intro i fr found hf hfr hi
      rw [List.range'_succ, List.forIn_cons]
      have hlen : (⟨#[c]⟩ : Str).length = 1 := rfl
      have hsub : Builtin.Str.subAt x ⟨#[c]⟩ i = ((x.cps.toList.drop i).take 1 == [c]) := StrLaws.subAt_eq x ⟨#[c]⟩ i
      by_cases hx : i < x.length
      · have hx' : i < x.cps.toList.length := by rw [Array.length_toList]; exact hx
        have ed : x.cps.toList.drop i = x.cps.toList[i] :: x.cps.toList.drop (i + 1) := List.drop_eq_getElem_cons hx'
        rw [ed] at hsub ⊢
        by_cases hc : x.cps.toList[i] = c
        · have hs : Builtin.Str.subAt x ⟨#[c]⟩ i = true := by rw [hsub, hc]; simp
          have hb : StrLaws.occBody x ⟨#[c]⟩ x.length (x.length + 1) i (found, fr) = pure (ForInStep.yield (found.push i, i + 1)) := by
            unfold StrLaws.occBody
            rw [if_pos ⟨⟨⟨by show found.size < _; omega, hfr⟩, by rw [hlen]; omega⟩, hs⟩]
            rfl
          rw [hb]
          show (forIn (List.range' (i + 1) n) (found.push i, i + 1) (StrLaws.occBody x ⟨#[c]⟩ x.length (x.length + 1))).run.fst.size = _
          rw [ih (i + 1) (i + 1) (found.push i) (by rw [Array.size_push]; omega) (Nat.le_refl _) (by omega), Array.size_push, List.count_cons, hc]
          simp
          omega
        · have hs : Builtin.Str.subAt x ⟨#[c]⟩ i = false := by rw [hsub, List.take_succ_cons, List.take_zero]; exact beq_eq_false_iff_ne.mpr (fun z => hc (List.cons.inj z).1)
          have hb : StrLaws.occBody x ⟨#[c]⟩ x.length (x.length + 1) i (found, fr) = pure (ForInStep.yield (found, fr)) := by
            unfold StrLaws.occBody
            rw [if_neg (by rw [hs]; simp)]
          rw [hb]
          show (forIn (List.range' (i + 1) n) (found, fr) (StrLaws.occBody x ⟨#[c]⟩ x.length (x.length + 1))).run.fst.size = _
          rw [ih (i + 1) fr found (by omega) (by omega) (by omega), List.count_cons, if_neg (fun z => hc (beq_iff_eq.mp z))]
          rfl
      · have e : x.cps.toList.drop i = [] := List.drop_eq_nil_of_le (by rw [Array.length_toList]; show x.length ≤ i; omega)
        have hb : StrLaws.occBody x ⟨#[c]⟩ x.length (x.length + 1) i (found, fr) = pure (ForInStep.yield (found, fr)) := by
          unfold StrLaws.occBody
          rw [if_neg (fun h => by have := h.1.2; rw [hlen] at this; omega)]
        rw [hb]
        show (forIn (List.range' (i + 1) n) (found, fr) (StrLaws.occBody x ⟨#[c]⟩ x.length (x.length + 1))).run.fst.size = _
        have hn : n = 0 := by omega
        subst hn
        rw [e]
        rfl
  rw [StrLaws.occ_eq, Array.length_toList]
  have q := key (x.length + 1) 0 0 #[] (Nat.zero_le _) (Nat.zero_le _) (by omega)
  simpa using q
end Z

set_option Elab.async false
set_option linter.all false
set_option maxRecDepth 100000
set_option maxHeartbeats 2000000
namespace Z
open PySem PySem.Spec PyProof.Rows L2
def natD (n : Nat) : PyData := .int (n : Int)
/-- the content at a is written anew -/
def up (L : Led) (a : Addr) (m : Mo) : Led := L.map fun p => if p.1 = a then (a, m) else p
theorem up_ks (L : Led) (a : Addr) (m : Mo) : (up L a m).ks = L.ks := by
  unfold up Led.ks
  rw [List.map_map]
  refine List.map_congr_left fun p _ => ?_
  show (if p.1 = a then (a, m) else p).1 = p.1
  by_cases h : p.1 = a
  · rw [if_pos h, h]
  · rw [if_neg h]
theorem up_plus {L : Led} {p : Addr} {a b : List PyData} (h : p ∉ L.ks) : up (plus L p a) p (.lst b) = plus L p b := by
  unfold up plus
  rw [List.map_append]
  congr 1
  · refine (List.map_congr_left fun q hq => ?_).trans (List.map_id L)
    have hn : q.1 ≠ p := fun z => h (by rw [← z]; exact List.mem_map.mpr ⟨q, hq, rfl⟩)
    rw [if_neg hn]
    rfl
  · simp
theorem mem_up {L : Led} {a : Addr} {m : Mo} (h : a ∈ L.ks) : (a, m) ∈ up L a m := by
  obtain ⟨p, hp, e⟩ := List.mem_map.mp h
  exact List.mem_map.mpr ⟨p, hp, if_pos e⟩
theorem mem_up_ne {L : Led} {a b : Addr} {m m' : Mo} (h : (b, m') ∈ L) (n : b ≠ a) : (b, m') ∈ up L a m := List.mem_map.mpr ⟨_, h, if_neg n⟩
theorem grow_up {H : Hp} {L : Led} {a : Addr} {m : Mo} {o : HO} (h : a ∈ L.ks) : Grow H L (upd H a o) (up L a m) :=
  ⟨fun b u e n => by rw [upd_ne (fun z : b = a => n (by rw [z]; exact h))]; exact e, fun b hb => .inl (by rw [← up_ks L a m]; exact hb)⟩
theorem keeps_up {L : Led} {a : Addr} {m : Mo} : Keeps L (up L a m) := fun x h => by rw [up_ks]; exact h
theorem LOk.uniq {K : PySem.W.Frag} {L : Led} {H : Hp} (l : LOk K L H) {a : Addr} {m m' : Mo} (h : (a, m) ∈ L) (h' : (a, m') ∈ L) : m = m' := by
  have nd := l.nd
  clear l
  unfold Led.ks at nd
  induction L with
  | nil => cases h
  | cons p r ih =>
    rw [List.map_cons, List.nodup_cons] at nd
    rcases List.mem_cons.mp h with e | h1
    · rcases List.mem_cons.mp h' with e' | h2
      · rw [← e] at e'
        exact (Prod.mk.inj e').2.symm
      · exact absurd (List.mem_map.mpr ⟨_, h2, by rw [← e]⟩) nd.1
    · rcases List.mem_cons.mp h' with e' | h2
      · exact absurd (List.mem_map.mpr ⟨_, h1, by rw [← e']⟩) nd.1
      · exact ih h1 h2 nd.2
theorem LOk.up {K : PySem.W.Frag} {L : Led} {H : Hp} {a : Addr} {ys : List V} {ds : List PyData} (l : LOk K L H) (h : a ∈ L.ks) (r : RpAll K (hid L H) ys ds) : LOk K (up L a (.lst ds)) (upd H a (.lst ys)) := by
  have ex : Ext (hid L H) (hid (Z.up L a (.lst ds)) (upd H a (.lst ys))) := (grow_up h).ext
  refine ⟨by rw [up_ks]; exact l.nd, fun p hp => ?_⟩
  obtain ⟨q, hq, e⟩ := List.mem_map.mp hp
  by_cases z : q.1 = a
  · rw [if_pos z] at e
    subst e
    exact ⟨ys, upd_same, rpAll_mono ex r⟩
  · rw [if_neg z] at e
    subst e
    have w := l.at_ q hq
    obtain ⟨b, m⟩ := q
    cases m with
    | drw =>
      obtain ⟨ns, w⟩ := w
      exact ⟨ns, by rw [upd_ne z]; exact w⟩
    | lst es =>
      obtain ⟨zs, w, y⟩ := w
      exact ⟨zs, by rw [upd_ne z]; exact w, rpAll_mono ex y⟩
section
variable {C : Cz} {ε : Ev} {L : Led} {k : Rs → Led → Prop} {K : PySem.W.Frag} {te : TE} {ta : TA} {P : Post} {t : TS}
/-! ### lists that are written -/
theorem md_append {a : Addr} {ds : List PyData} {d : PyData} (m : (a, .lst ds) ∈ L) (hz : ds.length < sizeLine) (q : k (.dat .none) (up L a (.lst (ds ++ [d])))) : MD C rAppend (.own a) [.dat d] L k := fun v vs H Q l o1 o2 f => by
  obtain ⟨rfl, ha⟩ := o1
  obtain ⟨w, rfl, o⟩ := rsAll_1 o2
  obtain ⟨xs, ex, hx⟩ := l.isLst m
  exact ⟨a, xs, w, rfl, rfl, ex, by rw [rpAll_len hx]; exact hz, f _ (.dat .none) _ _ (grow_up ha) keeps_up (l.up ha (rpAll_app hx (rpAll_one o))) .non q⟩
theorem md_pop {a : Addr} {ds : List PyData} {d : PyData} (m : (a, .lst ds) ∈ L) (e : ds[ds.length - 1]? = some d) (q : k (.dat d) (up L a (.lst ds.dropLast))) : MD C rPop (.own a) [] L k := fun v vs H Q l o1 o2 f => by
  obtain ⟨rfl, ha⟩ := o1
  cases o2
  obtain ⟨xs, ex, hx⟩ := l.isLst m
  have hl := rpAll_len hx
  obtain ⟨w, ew, rw'⟩ := rpAll_get hx e
  have g : Grow H L (upd H a (.lst xs.dropLast)) (up L a (.lst ds.dropLast)) := grow_up ha
  have hd : RpAll C.K (hid L H) xs.dropLast ds.dropLast := by
    rw [List.dropLast_eq_take, List.dropLast_eq_take, hl]
    exact rpAll_take _ hx
  exact ⟨a, xs, w, rfl, rfl, ex, by rw [hl]; exact ew, f _ (.dat d) _ _ g keeps_up (l.up ha hd) (rp_mono g.ext rw') q⟩
theorem md_reverse {a : Addr} {ds : List PyData} (m : (a, .lst ds) ∈ L) (q : k (.dat .none) (up L a (.lst ds.reverse))) : MD C rReverse (.own a) [] L k := fun v vs H Q l o1 o2 f => by
  obtain ⟨rfl, ha⟩ := o1
  cases o2
  obtain ⟨xs, ex, hx⟩ := l.isLst m
  exact ⟨a, xs, rfl, rfl, ex, f _ (.dat .none) _ _ (grow_up ha) keeps_up (l.up ha (rpAll_rev hx)) .non q⟩
theorem md_extend {a : Addr} {ds es : List PyData} (m : (a, .lst ds) ∈ L) (hz : ds.length + es.length ≤ sizeLine) (q : k (.dat .none) (up L a (.lst (ds ++ es)))) : MD C rExtend (.own a) [.dat (.list es)] L k := fun v vs H Q l o1 o2 f => by
  obtain ⟨rfl, ha⟩ := o1
  obtain ⟨w, rfl, o⟩ := rsAll_1 o2
  obtain ⟨xs, ex, hx⟩ := l.isLst m
  cases o with
  | @lst b zs _ e hy => exact ⟨a, b, xs, zs, rfl, rfl, ex, hid_sub _ _ e, by rw [rpAll_len hx, rpAll_len hy]; exact hz, f _ (.dat .none) _ _ (grow_up ha) keeps_up (l.up ha (rpAll_app hx hy)) .non q⟩
/-- xs[i] = e -/
theorem hs_setL {to ti : TE} (h : CP C te ε L fun r L1 => ∃ d, r = .dat d ∧ CP C to ε L1 fun x L2 => ∃ a, x = .own a ∧ CP C ti ε L2 fun y L3 => ∃ (ds : List PyData) (i : Int) (j : Nat), y = .dat (.int i) ∧ (a, .lst ds) ∈ L3 ∧ ixN ds.length i = some j ∧ P.nx ε (up L3 a (.lst (ds.set j d)))) :
    HS C (tAsg te (gSub to ti rSetL)) ε L P := fun σ H D R X E =>
  h σ H _ R X fun v r L1 H1 g1 k1 R1 o1 ⟨d, er, h1⟩ => h1 σ H1 _ R1 (X.grow g1) fun w x L2 H2 g2 k2 R2 o2 ⟨a, ex, h2⟩ => h2 σ H2 _ R2 ((X.grow g1).grow g2) fun u y L3 H3 g3 k3 R3 o3 ⟨ds, i, j, ey, m, ej, q⟩ => by
    subst er ex ey
    obtain ⟨rfl, _⟩ := o2
    cases o3
    obtain ⟨xs, exs, hx⟩ := R3.led.isLst m
    have ha : a ∈ L3.ks := Led.key m
    have g : Grow H3 L3 (upd H3 a (.lst (xs.set j v))) (up L3 a (.lst (ds.set j d))) := grow_up ha
    have od : Rp C.K (hid L3 H3) v d := rp_mono (g2.trans g3).ext o1
    exact ⟨a, xs, i, j, rfl, rfl, exs, by rw [rpAll_len hx]; exact ej, E.nx ε _ σ _ (((g1.trans g2).trans g3).trans g) (R3.grow g keeps_up (R3.led.up ha (rpAll_set od j hx))) q⟩
/-! an owned list is read -/
theorem cd_len_own {a : Addr} {ds : List PyData} (m : (a, .lst ds) ∈ L) (q : k (.dat (.int (ds.length : Int))) L) : CD C (rLenZ K) [.own a] L k := cd_val (fun vs H l o => by
  obtain ⟨v, rfl, o1⟩ := rsAll_1 o
  obtain ⟨rfl, ha⟩ := o1
  obtain ⟨xs, ex, hx⟩ := l.isLst m
  exact ⟨.int _, .int _, fun Q f => ⟨.ref a, ds.length, rfl, .inl ⟨xs, SqL.of ex, (rpAll_len hx).symm⟩, f⟩⟩) q
theorem od_ix_own {a : Addr} {ds : List PyData} {i : Int} {d : PyData} (m : (a, .lst ds) ∈ L) (e : atI ds i = some d) (q : k (.dat d) L) (hK : C.K = K := by rfl) : OD C (rIx K) (.own a) (.dat (.int i)) L k := by
  subst hK
  refine od_or1 (od_val (fun v w H l o1 o2 => ?_) q)
  obtain ⟨rfl, ha⟩ := o1
  cases o2
  obtain ⟨xs, ex, hx⟩ := l.isLst m
  obtain ⟨v, e3, r⟩ := atI_rp hx e
  exact ⟨v, r, fun Q f => ⟨a, xs, i, v, rfl, rfl, SqL.of ex, e3, f⟩⟩
/-- list(reversed(xs)) -/
theorem cp_lrev {a : Addr} {ds : List PyData} (h : CP C te ε L fun r L1 => r = .own a ∧ (a, .lst ds) ∈ L1 ∧ ∀ p, p ∉ L1.ks → k (.own p) (plus L1 p ds.reverse)) (hK : C.K = K := by rfl) : CP C (tLRev K te) ε L k := fun σ H Q R X z => by
  subst hK
  refine h σ H _ R X fun v r L1 H1 g1 k1 R1 o1 ⟨er, m, q⟩ => ?_
  subst er
  obtain ⟨rfl, ha⟩ := o1
  obtain ⟨xs, ex, hx⟩ := R1.led.isLst m
  refine ⟨a, xs, rfl, SqL.of ex, fun p hp => ?_⟩
  have g2 : Grow H1 L1 (upd H1 p (.lst xs.reverse)) (plus L1 p ds.reverse) := grow_own hp
  exact z _ (.own p) _ _ (g1.trans g2) (k1.trans keeps_own) (R1.grow g2 keeps_own (R1.led.own hp (rpAll_rev hx))) ⟨rfl, Led.key (List.mem_append_right _ List.mem_cons_self)⟩ (q p (R1.led.fresh hp))

/-! ### texts -/
theorem md_count1 {x : Str} {c : Nat} (q : k (.dat (.int (x.cps.toList.count c : Nat))) L) : MD C (fun x xs H Q => ∃ a b, x = .str a ∧ xs = [.str b] ∧ Q (.int (Txt.count a b)) H) (.dat (.str x)) [.dat (.str ⟨#[c]⟩)] L k := fun v vs H Q l o1 o2 f => by
  cases o1
  obtain ⟨w, rfl, o⟩ := rsAll_1 o2
  cases o
  refine ⟨x, ⟨#[c]⟩, rfl, rfl, f _ (.dat (.int (x.cps.toList.count c : Nat))) L H (Grow.refl H L) (Keeps.refl L) l ?_ q⟩
  have e : Txt.count x ⟨#[c]⟩ = (x.cps.toList.count c : Nat) := by
    unfold Txt.count
    rw [occ_one]
  rw [e]
  exact .int _
abbrev rJoinZ (K : PySem.W.Frag) : V → List V → Hp → VK → Prop := fun x xs H Q => ∃ a p, ∃ ys : List Str, x = .str a ∧ xs = [.ref p] ∧ (SqL K H p (ys.map V.str) ∨ SqT K H p (ys.map V.str)) ∧ (ys.map (·.length)).sum + ys.length * a.length ≤ 16777216 ∧ Q (.str (Txt.join a ys)) H
theorem md_join {a : Str} {ys : List Str} (hz : (ys.map (·.length)).sum + ys.length * a.length ≤ 16777216) (q : k (.dat (.str (Txt.join a ys))) L) : MD C (rJoinZ K) (.dat (.str a)) [.dat (.list (ys.map PyData.str))] L k := fun v vs H Q l o1 o2 f => by
  cases o1
  obtain ⟨w, rfl, o⟩ := rsAll_1 o2
  cases o with
  | @lst p xs _ e hx =>
    have ex := strs_of hx
    subst ex
    exact ⟨a, p, ys, rfl, rfl, .inl (SqL.of (hid_sub _ _ e)), hz, f _ (.dat (.str (Txt.join a ys))) L H (Grow.refl H L) (Keeps.refl L) l (.str _) q⟩
theorem md_joinO {a : Str} {p : Addr} {ys : List Str} (m : (p, .lst (ys.map PyData.str)) ∈ L) (hz : (ys.map (·.length)).sum + ys.length * a.length ≤ 16777216) (q : k (.dat (.str (Txt.join a ys))) L) : MD C (rJoinZ K) (.dat (.str a)) [.own p] L k := fun v vs H Q l o1 o2 f => by
  cases o1
  obtain ⟨w, rfl, o⟩ := rsAll_1 o2
  obtain ⟨rfl, ha⟩ := o
  obtain ⟨xs, ex, hx⟩ := l.isLst m
  have e2 := strs_of hx
  subst e2
  exact ⟨a, p, ys, rfl, rfl, .inl (SqL.of ex), hz, f _ (.dat (.str (Txt.join a ys))) L H (Grow.refl H L) (Keeps.refl L) l (.str _) q⟩
end
/-! text * int -/
def rRepS : R2 := fun x y H Q => ∃ (a : Str) (n : Int), x = .str a ∧ y = .int n ∧ (a.length ≤ 16 ∧ -(2 ^ 63) ≤ n ∧ n ≤ 1048576) ∧ Q (.str (Txt.mul a n)) H
theorem op_repS {X : Cx} : OpR X (binaryOp .Mult) rRepS := by
  intro pins s σ H x y v u Q I rx ry h
  obtain ⟨a, n, rfl, rfl, hz, q⟩ := h
  obtain ⟨t, rfl⟩ := rx
  obtain ⟨t', rfl⟩ := ry
  exact SB.mul (mulOk_of 16 1048576 hz.1 hz.2.2 hz.2.1 (by decide) (by decide)) fun t' k => ⟨.str _, H, I.tok _, ⟨_, rfl⟩, q⟩
def rMulY (K : PySem.W.Frag) : R2 := fun x y H Q => rMulZ K x y H Q ∨ rRepS x y H Q
theorem op_mulY {X : Cx} : OpR X (binaryOp .Mult) (rMulY X.K) := op_mulZ.or op_repS
/-! list.count of texts -/
def rCntS (K : PySem.W.Frag) : V → List V → Hp → VK → Prop := fun x xs H Q => ∃ (p : Addr) (ys : List Str) (z : Str), x = .ref p ∧ xs = [.str z] ∧ SqL K H p (ys.map V.str) ∧ Q (.int (ys.count z : Nat)) H
theorem countIn_strs (z : Str) : ∀ ys : List Str, PySem.Spec.countIn (.str z) (ys.map PyData.str) = (ys.count z : Nat)
  | [] => rfl
  | y :: r => by
    rw [List.map_cons, List.count_cons]
    unfold PySem.Spec.countIn
    rw [countIn_strs z r]
    have e : PySem.Spec.same (.str y) (.str z) = (y == z) := by simp [PySem.Spec.same]
    rw [e]
    cases h : (y == z) with
    | true =>
      rw [if_pos rfl, if_pos rfl]
      omega
    | false =>
      rw [if_neg (by decide), if_neg (by decide)]
      omega
theorem mt_cntS {X : Cx} : MtR X "list.count" (rCntS X.K) := by
  intro pins s σ H x xs v us Q I rx rxs h
  obtain ⟨p, ys, z, rfl, rfl, hs, q⟩ := h
  cases rx
  obtain ⟨u, rfl, ru⟩ := rxs.one
  obtain ⟨t, rfl⟩ := ru
  obtain ⟨its, rv, pl, hlen⟩ := I.list hs
  refine count_list_strs pl.isList rv.strs ?_
  rw [countIn_strs]
  exact ⟨.int _, H, I.tok _, ⟨_, rfl⟩, q⟩
end Z

set_option Elab.async false
set_option linter.all false
set_option maxRecDepth 100000
set_option maxHeartbeats 2000000
namespace Z
open PySem PySem.Spec PyProof.Rows L2
theorem upd_id {H : Hp} {a : Addr} {o : HO} (h : H a = some o) : upd H a o = H := by
  funext b
  unfold upd
  by_cases e : b = a
  · rw [if_pos e, e, h]
  · rw [if_neg e]
theorem rpAll_nat {K : PySem.W.Frag} {H : Hp} (ns : List Nat) : RpAll K H (ns.map natV) (ns.map natD) := rpAll_map ns fun n _ => .int n
theorem nats_of {K : PySem.W.Frag} {H : Hp} : ∀ {vs : List V} {l : List Nat}, RpAll K H vs (l.map natD) → vs = l.map natV
  | _, [], .nil => rfl
  | _, i :: r, .cons h t => by
    cases h
    rw [nats_of t] <;> rfl
section
variable {C : Cz} {ε ε' : Ev} {L L' M2 : Led} {k : Rs → Led → Prop} {K : PySem.W.Frag} {te : TE} {P : Post} {t : TS} {H H' : Hp}
/-- the draws at l are some numbers -/
theorem LOk.open_ {l : Addr} (o : LOk K L H) (m : (l, .drw) ∈ L) : ∃ ns : List Nat, LOk K (Z.up L l (.lst (ns.map natD))) H := by
  obtain ⟨ns, e⟩ := o.isDrw m
  have q := o.up (ys := ns.map natV) (ds := ns.map natD) (Led.key m) (rpAll_nat ns)
  rw [upd_id e] at q
  exact ⟨ns, q⟩
theorem grow_re {L M2 : Led} (h : L.ks = M2.ks) : Grow H L H M2 := ⟨fun _ _ e _ => e, fun a ha => .inl (by rw [h]; exact ha)⟩
theorem keeps_re {L M2 : Led} (h : L.ks = M2.ks) : Keeps L M2 := fun a ha => by rw [← h]; exact ha
/-! ### less of the ledger -/
inductive MoLe : Mo → Mo → Prop
  | same (m : Mo) : MoLe m m
  | drw (ns : List Nat) : MoLe (.lst (ns.map natD)) .drw
def Wk (L' M2 : Led) : Prop := ∃ L1 : Led, L1.Sublist L' ∧ Paired (fun p q => q.1 = p.1 ∧ MoLe p.2 q.2) L1 M2
theorem paired_ks : ∀ {L1 M2 : Led}, Paired (fun p q => q.1 = p.1 ∧ MoLe p.2 q.2) L1 M2 → M2.ks = L1.ks
  | _, _, .nil => rfl
  | _, _, .cons h t => by
    unfold Led.ks
    rw [List.map_cons, List.map_cons, h.1]
    exact congrArg _ (paired_ks t)
theorem Wk.sub (w : Wk L' M2) : ∀ a ∈ M2.ks, a ∈ L'.ks := fun a ha => by
  obtain ⟨L1, s, p⟩ := w
  rw [paired_ks p] at ha
  exact (s.map Prod.fst).subset ha
theorem Wk.ext (w : Wk L' M2) : Ext (hid L' H) (hid M2 H) := fun a o e => by
  by_cases ha : a ∈ L'.ks
  · rw [hid_in ha] at e
    cases e
  · rw [hid_out ha] at e
    rw [hid_out fun z => ha (w.sub a z)]
    exact e
theorem Wk.back (w : Wk L' M2) : ∀ q ∈ M2, ∃ m, (q.1, m) ∈ L' ∧ MoLe m q.2 := fun q hq => by
  obtain ⟨L1, s, p⟩ := w
  have key : ∀ {L1 M2 : Led}, Paired (fun p q => q.1 = p.1 ∧ MoLe p.2 q.2) L1 M2 → q ∈ M2 → ∃ m, (q.1, m) ∈ L1 ∧ MoLe m q.2 := by
    intro L1 M2 pp
    induction pp with
    | nil => intro h; cases h
    | cons h t ih =>
      intro hm
      rcases List.mem_cons.mp hm with e | e
      · subst e
        exact ⟨_, by rw [h.1]; exact List.mem_cons_self, h.2⟩
      · obtain ⟨m, a, b⟩ := ih e
        exact ⟨m, List.mem_cons_of_mem _ a, b⟩
  obtain ⟨m, a, b⟩ := key p hq
  exact ⟨m, s.subset a, b⟩
theorem LOk.wk (l : LOk K L' H) (w : Wk L' M2) : LOk K M2 H := by
  refine ⟨?_, fun q hq => ?_⟩
  · obtain ⟨L1, s, p⟩ := w
    rw [paired_ks p]
    exact (s.map Prod.fst).nodup l.nd
  · obtain ⟨m, hm, le⟩ := w.back q hq
    have o := l.at_ _ hm
    obtain ⟨a, m2⟩ := q
    have le : MoLe m m2 := le
    have o : MoOk K L' H a m := o
    generalize hm2 : m2 = mm at le
    cases le with
    | same =>
      subst hm2
      cases m2 with
      | drw => exact o
      | lst ds =>
        obtain ⟨xs, e, r⟩ := o
        exact ⟨xs, e, rpAll_mono w.ext r⟩
    | drw ns =>
      obtain ⟨xs, e, r⟩ := o
      have ex := nats_of r
      subst ex
      exact ⟨ns, e⟩
theorem Grow.wk (g : Grow H L H' L') (w : Wk L' M2) : Grow H L H' M2 := ⟨g.old, fun a ha => g.new a (w.sub a ha)⟩
theorem Grow.wk1 (g : Grow H M2 H' L) (w : Wk L' M2) : Grow H L' H' L := ⟨fun a o e n => g.old a o e fun z => n (w.sub a z), fun a ha => (g.new a ha).imp_left fun z => w.sub a z⟩
inductive RsWk (L' M2 : Led) : Rs → Rs → Prop
  | dat (d : PyData) : RsWk L' M2 (.dat d) (.dat d)
  | raw (v : V) : RsWk L' M2 (.raw v) (.raw v)
  | scr (ns : List Int) : RsWk L' M2 (.scr ns) (.scr ns)
  | own {a : Addr} (h : a ∈ M2.ks) : RsWk L' M2 (.own a) (.own a)
  | frz {a : Addr} {ds : List PyData} (m : (a, .lst ds) ∈ L') (h : a ∉ M2.ks) : RsWk L' M2 (.own a) (.dat (.list ds))
theorem RsOk.wk {v : V} {r r2 : Rs} (o : RsOk K L' H v r) (l : LOk K L' H) (w : Wk L' M2) (x : RsWk L' M2 r r2) : RsOk K M2 H v r2 := by
  cases x with
  | dat d => exact rp_mono w.ext o
  | raw v => exact o
  | scr ns =>
    obtain ⟨a, e, h⟩ := o
    exact ⟨a, e, ext_l w.ext h⟩
  | own h => exact ⟨o.1, h⟩
  | frz m h =>
    obtain ⟨rfl, _⟩ := o
    obtain ⟨xs, e, r⟩ := l.isLst m
    exact .lst (by rw [hid_out h]; exact e) (rpAll_mono w.ext r)
def EvWk (L' M2 : Led) (ε ε2 : Ev) : Prop := ε.length = ε2.length ∧ ∀ (i : Nat) (r2 : Rs), ε2[i]? = some (some r2) → ∃ r, ε[i]? = some (some r) ∧ RsWk L' M2 r r2
theorem Rel.wk {σ : L2.St} (R : Rel K L' ε σ H) (w : Wk L' M2) (e : EvWk L' M2 ε ε') : Rel K M2 ε' σ H := by
  refine ⟨R.len.trans e.1, fun i r2 hr => ?_, R.led.wk w⟩
  obtain ⟨r, e1, x⟩ := e.2 i r2 hr
  obtain ⟨v, e2, o⟩ := R.slot i r e1
  exact ⟨v, e2, o.wk R.led w x⟩
theorem hs_wk (w : Wk L' M2) (e : EvWk L' M2 ε ε') (h : HS C t ε' M2 P) : HS C t ε L' P := fun σ H D R X E =>
  h σ H D (R.wk w e) (fun c e' s' l' h' g => X c e' s' l' h' (g.wk1 w)) ⟨fun e' l' s' h' g => E.nx e' l' s' h' (g.wk1 w), fun v r l' h' g => E.rt v r l' h' (g.wk1 w), fun e' l' s' h' g => E.bk e' l' s' h' (g.wk1 w), fun e' l' s' h' g => E.ct e' l' s' h' (g.wk1 w)⟩
theorem hs_retW (h : CP C te ε L fun r L1 => ∃ M2 r2, Wk L1 M2 ∧ RsWk L1 M2 r r2 ∧ P.rt r2 M2) : HS C (tRet te) ε L P := fun σ H D R X E =>
  h σ H _ R X fun v r L1 H1 g1 k1 R1 o1 ⟨M2, r2, w, x, q⟩ => E.rt v r2 M2 H1 (g1.wk w) (R1.led.wk w) (o1.wk R1.led w x) q
theorem paired_le_refl : ∀ L : Led, Paired (fun p q => q.1 = p.1 ∧ MoLe p.2 q.2) L L
  | [] => .nil
  | p :: r => .cons ⟨rfl, .same _⟩ (paired_le_refl r)
theorem wk_of_sub (h : M2.Sublist L') : Wk L' M2 := ⟨M2, h, paired_le_refl M2⟩
theorem wk_plus {p : Addr} {ds : List PyData} : Wk (plus L p ds) L := wk_of_sub (List.sublist_append_left _ _)
theorem wk_refl : Wk L L := wk_of_sub (List.Sublist.refl _)
/-- numbers at l: draws again -/
theorem wk_drw {l : Addr} {ns : List Nat} (m : (l, .drw) ∈ L) : Wk (up L l (.lst (ns.map natD))) (up L l .drw) := by
  refine ⟨_, List.Sublist.refl _, ?_⟩
  clear m
  unfold up
  induction L with
  | nil => exact .nil
  | cons p r ih =>
    refine .cons ?_ ih
    show (if p.1 = l then (l, Mo.drw) else p).1 = (if p.1 = l then (l, Mo.lst (ns.map natD)) else p).1 ∧ MoLe (if p.1 = l then (l, Mo.lst (ns.map natD)) else p).2 (if p.1 = l then (l, Mo.drw) else p).2
    by_cases h : p.1 = l
    · rw [if_pos h, if_pos h]
      exact ⟨rfl, .drw ns⟩
    · rw [if_neg h, if_neg h]
      exact ⟨rfl, .same _⟩
theorem up_up {l : Addr} {m m' : Mo} : up (up L l m) l m' = up L l m' := by
  unfold up
  rw [List.map_map]
  refine List.map_congr_left fun p _ => ?_
  show (if (if p.1 = l then (l, m) else p).1 = l then (l, m') else (if p.1 = l then (l, m) else p)) = _
  by_cases h : p.1 = l
  · rw [if_pos h, if_pos rfl, if_pos h]
  · rw [if_neg h, if_neg h]
theorem up_self {l : Addr} {m : Mo} (u : ∀ m', (l, m') ∈ L → m' = m) : up L l m = L := by
  unfold up
  refine (List.map_congr_left fun p hp => ?_).trans (List.map_id L)
  by_cases h : p.1 = l
  · rw [if_pos h]
    obtain ⟨a, m2⟩ := p
    have h' : a = l := h
    subst h'
    rw [u m2 hp]
    rfl
  · rw [if_neg h]
    rfl
theorem wk_back {l : Addr} {ns : List Nat} (e : up L l .drw = L) : Wk (up L l (.lst (ns.map natD))) L := by
  have w : Wk (up L l (.lst (ns.map natD))) (up L l .drw) := by
    refine ⟨_, List.Sublist.refl _, ?_⟩
    unfold up
    clear e
    induction L with
    | nil => exact .nil
    | cons p r ih =>
      refine .cons ?_ ih
      show (if p.1 = l then (l, Mo.drw) else p).1 = (if p.1 = l then (l, Mo.lst (ns.map natD)) else p).1 ∧ MoLe (if p.1 = l then (l, Mo.lst (ns.map natD)) else p).2 (if p.1 = l then (l, Mo.drw) else p).2
      by_cases h : p.1 = l
      · rw [if_pos h, if_pos h]
        exact ⟨rfl, .drw ns⟩
      · rw [if_neg h, if_neg h]
        exact ⟨rfl, .same _⟩
  rw [e] at w
  exact w
theorem hs_open {l : Addr} (m : (l, .drw) ∈ L) (h : ∀ ns : List Nat, up L l .drw = L → HS C t ε (up L l (.lst (ns.map natD))) P) : HS C t ε L P := fun σ H D R X E => by
  obtain ⟨ns, o⟩ := R.led.open_ m
  have g : Grow H L H (up L l (.lst (ns.map natD))) := grow_re (up_ks _ _ _).symm
  exact h ns (up_self fun m' hm => R.led.uniq hm m) σ H D (R.grow g (keeps_re (up_ks _ _ _).symm) o) (X.grow g) (E.grow g)
/-- an owned list is given up at the statement: all names of it are data -/
def frz (p : Addr) (ds : List PyData) : Option Rs → Option Rs
  | some (.own a) => if a = p then some (.dat (.list ds)) else some (.own a)
  | r => r
theorem hs_frz {p : Addr} {ds : List PyData} (hp : p ∉ L.ks) (ho : ∀ a, some (Rs.own a) ∈ ε → a = p ∨ a ∈ L.ks) (h : HS C t (ε.map (frz p ds)) L P) : HS C t ε (plus L p ds) P := by
  refine hs_wk wk_plus ⟨by rw [List.length_map], fun i r2 hr => ?_⟩ h
  rw [List.getElem?_map] at hr
  cases e : ε[i]? with
  | none =>
    rw [e] at hr
    cases hr
  | some o =>
    rw [e] at hr
    cases o with
    | none => cases hr
    | some r =>
      refine ⟨r, rfl, ?_⟩
      cases r with
      | dat d => cases hr; exact .dat d
      | raw v => cases hr; exact .raw v
      | scr ns => cases hr; exact .scr ns
      | own a =>
        have hr' : frz p ds (some (.own a)) = some r2 := by
          have := hr
          simpa using this
        have hr' : (if a = p then some (Rs.dat (.list ds)) else some (.own a)) = some r2 := hr'
        by_cases z : a = p
        · rw [if_pos z] at hr'
          cases hr'
          subst z
          exact .frz (List.mem_append_right _ List.mem_cons_self) hp
        · rw [if_neg z] at hr'
          cases hr'
          rcases ho a (List.mem_of_getElem? e) with q | q
          · exact absurd q z
          · exact .own q
end
end Z

set_option Elab.async false
set_option linter.all false
set_option maxRecDepth 100000
set_option maxHeartbeats 2000000
/-! errors: raise, try .. except Base as e, a def called with the error in the suite -/
namespace Z
open PySem PySem.Spec PyProof.Rows L2
/-- what a def promises that is called within an except suite with the error itself: a its address, D its class -/
structure FnQ (P : Program) (w : World) (K : PySem.W.Frag) (mg : Str → Option Value) (base : Heap) (k : Nat) (f : Addr) (fd : FuncData) (ps : List Str) (sp : Addr → Addr → Sp) : Prop where
  len : ∀ a D vs H Q E, sp a D vs H Q E → vs.length = ps.length
  run : ∀ (A : Around) (outer : List Env) (s : Shared) (H : Hp) (args : Args) (us : List Value) (vs : List V) (Q : VK) (p : Addr × Obj) (D : Addr), L2H.RoomH k A → L2H.PinOk outer H s p → Zc (.ref D) none p.2 → (∃ fs, p.2.data = .fields fs) →
    Env0 P w K mg base A outer s H → BindsTo s fd args (ps.zip us) → Vals vs us → sp p.1 D vs H Q E0 → codeAny (model P w) A (.call (.ref f) args) (CR CX0 outer P w H s Q E0) s
section
variable {P : Program} {w : World} {K : PySem.W.Frag} {mg : Str → Option Value} {base : Heap}
theorem fn_q {k : Nat} {f : Addr} {fd : FuncData} {x qual : Str} {st : Stmt} {N ps : List Str} {sp : Addr → Addr → Sp} (F : Fun K x qual st f fd) (S : FnScope N ps (defScope st)) (len : ∀ a D vs H Q E, sp a D vs H Q E → vs.length = ps.length)
    (body : ∀ (cdv : Value) (A : Around) (outer : List Env) (s : Shared) (H : Hp) (vs : List V) (Q : VK) (p : Addr × Obj) (D : Addr), L2H.RoomH k (A.deeper (envOfC qual (defScope st) s.heap.objs.size f cdv)) → Zc (.ref D) none p.2 → (∃ fs, p.2.data = .fields fs) → sp p.1 D vs H Q E0 →
      ∃ t, PSs (L2H.cxH CX0 P w K mg base N qual (defScope st) f cdv A outer s H E0 p) (defBody st) t ∧ t { nx := fun _ H' => Q .non H', rt := Q } (L2.start N vs) H) :
    FnQ P w K mg base (k + 1) f fd ps sp := by
  obtain ⟨oc, od, kV, doc, pm, an, cdv, ct, osl, rfl, lk, hcd⟩ := F.ex
  refine ⟨len, fun A outer s H args us vs Q p D hr hpin hz hfs e0 hb r hsp => ?_⟩
  have old : ∀ b o, base.get? b = some o → s.heap.get? b = some o := fun b o e => (e0.bs b o e).1
  have inK : K.In s.heap := e0.mod.kin.keeps old
  have par : ∀ y ∈ ps.zip us, (defScope st).names.lookup y.1 = some .local ∨ ((defScope st).names.lookup y.1 = some .cell ∧ ((cellsFrom (s.heap.objs.size + 1) (defScope st).names []).lookup y.1).isSome = true) := fun ⟨n, v⟩ hy => by
    rcases S.par n (List.of_mem_zip hy).1 with q | q
    · exact .inl q
    · exact .inr ⟨q, PySem.W.cellsFrom_some _ _ _ (.inl q)⟩
  refine codeAny_call_function hr.depth (inK _ _ lk) rfl S.co S.gen rfl (PySem.W.codeRec_of inK hcd) (hb _ _ _ _ (wpAny_newFunctionEnv_cells S.kind par fun env he s1 x => ?_))
  subst he
  refine ⟨(e0.mod.nolimit.keeps old).keeps x.toInCall.keep, codeAny_func ?_⟩
  obtain ⟨t, ht, hq⟩ := body cdv A outer s H vs Q p D (hr.deeper _) hz hfs hsp
  have J : Inv (L2H.cxH CX0 P w K mg base N qual (defScope st) f cdv A outer s H E0 p) [] (L2.start N vs) H s1 := L2H.inv_startH S hpin e0 (len _ _ _ _ _ _ hsp) r x
  refine wpAny_mono (ht.run [] s1 (L2.start N vs) H _ J hq) (fun fl s2 h2 => ?_) fun e s2 h2 => h2
  have done : ∀ {σ2 : L2.St} {H2 : Hp} {v : V} {u : Value}, Inv (L2H.cxH CX0 P w K mg base N qual (defScope st) f cdv A outer s H E0 p) [] σ2 H2 s2 → RelV v u → Q v H2 → CE outer P w H s Q u s2 := fun {σ2 H2 v u} I rv q => ⟨v, H2, I.os, I.bare, I.base, I.hok, rv, q⟩
  cases fl with
  | ret u => exact let ⟨v, σ2, H2, I, rv, q⟩ := h2; done I rv q
  | next => exact let ⟨σ2, H2, I, q⟩ := h2; done (v := V.non) (u := Value.none) I rfl q
  | brk => exact let ⟨_, _, _, q⟩ := h2; False.elim q
  | cont => exact let ⟨_, _, _, q⟩ := h2; False.elim q
end
/-- its call in the suite that holds the error at a -/
def tCallQ (sp : Addr → Addr → Sp) (a : Addr) (cls : Value) (d : Option Addr) (t : TA) : TE := fun σ H Q => d = none ∧ ∃ D, cls = .ref D ∧ t σ H fun vs H1 => sp a D vs H1 Q E0
theorem pe_callQ {X : Cx} {k : Nat} {f : Addr} {fd : FuncData} {ps : List Str} {sp : Addr → Addr → Sp} {x : Str} {q pos : Pos} {e : Expr} {es : List Expr} {t : TA} {a : Addr} {oe : Obj} {cls : Value} {d : Option Addr} {pn : List (Addr × Obj)}
    (F : FnQ X.prog X.w X.K X.mg X.base k f fd ps sp) (hr : L2H.RoomH k (X.A.mark (some (.ref a)))) (hz : Zc cls d oe) (hfs : ∃ vs, oe.data = .fields vs) (hg : Gl X x) (hm : X.mg x = some (.ref f)) (hk : PySem.W.keepIn X.K (.ref f) = true) (hb : Binds X.K fd ps [])
    (ha : PA (X.suite a ((a, oe) :: pn)) (e :: es) t) (hdb : (x == ("__debug__" : Str)) = false := by decide) (he : starEach (e :: es) X.env = (false, eval e X.env) :: starEach es X.env := by rfl) (hpl : (backTo pos (starEach es X.env)).any (·.1) = false := by rfl) :
    PE (X.suite a ((a, oe) :: pn)) (.Call (.Name x q) (e :: es) [] pos) (tCallQ sp a cls d t) := by
  refine ⟨fun pins s σ H Q I h => ?_⟩
  obtain ⟨rfl, D, rfl, h⟩ := h
  refine wpAny_Call_Name_kw (ld_glob (X := X.suite a ((a, oe) :: pn)) I hg hm ?_ hdb)
  refine PySem.W.callWith_K (h₀ := X.base) I.ok.mod.kin hk (thn (ha.run pos pins s σ H _ I h) fun us s1 ⟨vs, H1, I1, r, q⟩ => ⟨I1.kIn, ?_⟩) he hpl
  have hl : us.length = ps.length := by
    rw [← r.length]
    exact F.len _ _ _ _ _ _ q
  have b := hb s1 us I1.kIn (by rw [List.append_nil]; exact hl)
  rw [List.append_nil] at b
  have P1 := I1.pin (a, oe) (List.mem_append_left _ List.mem_cons_self)
  have pin : L2H.PinOk X.stack H1 s1 (a, oe) := ⟨P1.1, P1.2.1, fun hm => (List.mem_cons.mp (I1.stkSub a hm)).elim P1.2.2.1 P1.2.2.2.1, P1.2.2.2.2⟩
  refine wpAny_call (codeAny_mono (F.run (X.A.mark (some (.ref a))) X.stack s1 H1 ⟨us, []⟩ us vs Q (a, oe) D hr pin hz hfs I1.env0 b r q) fun res s2 hq => ?_)
  cases res with
  | error e => exact False.elim hq
  | ok fl =>
    cases fl with
    | ret u => exact I1.after hq
    | next => exact False.elim hq
    | brk => exact False.elim hq
    | cont => exact False.elim hq
/-- isinstance(e, c) in such a def -/
theorem call_isQ {X : Cx} {p : Addr × Obj} {D : Addr} (C : ExcC X.K D) (hp : p ∈ X.pn) (hz : Zc (.ref D) none p.2) (hf : ∃ vs, p.2.data = .fields vs) : CallR X (.builtin "isinstance") (rIsE X.K D p.1) := by
  intro pins s σ H xs us Q I r h
  obtain ⟨c, cv, b, rfl, hcv, e, q⟩ := h
  obtain ⟨u1, u2, rfl, r1, r2⟩ := Vals.two r
  obtain rfl : u1 = Value.ref p.1 := r1
  have ec := hcv _ r2
  subst ec
  obtain ⟨hget, _⟩ := I.pin p (List.mem_append_left _ hp)
  obtain ⟨vs, hv⟩ := hf
  obtain ⟨pa, po⟩ := p
  obtain ⟨oc, od, oda, osl⟩ := po
  obtain ⟨h1, h2⟩ := hz
  dsimp only at h1 h2 hv hget
  subst h1 h2 hv
  have J : PySem.W.InstAt s.heap pa ⟨.ref D, none, .fields vs, osl⟩ D none := ⟨hget, rfl, rfl, trivial⟩
  exact PySem.W.kia_one (PySem.W.handS_kitx_exc C.hg C.hk C.hs C.hd C.ha C.hn C.ht C.hm) I.kIn J e (fun z => nomatch z) fun tk => ⟨.bl b, H, I.kept (t' := tk) fun _ _ z => z, rfl, q⟩
/-- the flags of an error of the class D: isinstance with each of the classes cs -/
def spFlags (K : PySem.W.Frag) (cs : List Addr) : Addr → Addr → Sp := fun a D vs H Q _ => vs = [.ref a] ∧ ExcC K D ∧ ∃ bs : List Bool, Paired (fun c b => PySem.W.kitOne K (.ref D) (.ref c) = some b) cs bs ∧ ∀ p, H p = none → Q (.ref p) (upd H p (.lst (bs.map V.bl)))

section
variable {C : Cz} {ε : Ev} {L : Led} {k : Rs → Led → Prop} {ta : TA} {P : Post}
/-- raise -/
theorem hs_raise {c : Addr} (h : C.kx c ε L) : HS C (fun _ σ H => C.W (.ref c) none σ H) ε L P := fun σ H D R X E => X c ε σ L H (Grow.refl H L) R h
/-- try: .. except c₀ as n (slot i) -/
theorem hs_tryAs {K : PySem.W.Frag} {c₀ : Value} {i : Nat} {tb : WX → TS} {ts : Addr → Value → Option Addr → TS} {Wout : WX} (kx : KX) (hb : ∀ W, HS ⟨C.K, W, kx⟩ (tb W) ε L P)
    (hx : ∀ c ε' L', kx c ε' L' → PySem.W.exmOne K (.ref c) c₀ = some true ∧ ∀ a, HS C (ts a (.ref c) none) (ε'.set i (some (.raw (.ref a)))) L' { nx := fun e l => P.nx (e.set i none) l, rt := P.rt, bk := fun e l => P.bk (e.set i none) l, ct := fun e l => P.ct (e.set i none) l }) (hK : C.K = K := by rfl) :
    HS C (fun D σ H => tb (wAs K c₀ i ts Wout D) D σ H) ε L P := fun σ H D R X E => by
  subst hK
  refine hb (wAs C.K c₀ i ts Wout D) σ H D R (fun c e' s' l' h' g r q => ?_) E
  obtain ⟨hm, hs⟩ := hx c e' l' q
  refine ⟨true, hm, fun _ a ha => ?_, fun z => nomatch z⟩
  exact hs a _ h' _ (rel_set r rfl) (X.grow g) ⟨fun e2 l2 s2 h2 g2 r2 q2 => (E.grow g).nx _ l2 _ h2 g2 (rel_none r2 i) q2, (E.grow g).rt, fun e2 l2 s2 h2 g2 r2 q2 => (E.grow g).bk _ l2 _ h2 g2 (rel_none r2 i) q2, fun e2 l2 s2 h2 g2 r2 q2 => (E.grow g).ct _ l2 _ h2 g2 (rel_none r2 i) q2⟩
/-- flags(e) in the suite -/
theorem cp_flags {K : PySem.W.Frag} {cs : List Addr} {a c : Addr} {bs : List Bool} (x : ExcC K c) (hp : Paired (fun c' b => PySem.W.kitOne K (.ref c) (.ref c') = some b) cs bs) (h : CA C ta ε L fun rs L1 => rs = [.raw (.ref a)] ∧ k (.dat (.list (bs.map PyData.bool))) L1) : CP C (tCallQ (spFlags K cs) a (.ref c) none ta) ε L k := fun σ H Q R X z =>
  ⟨rfl, c, rfl, h σ H _ R X fun vs rs L1 H1 g1 k1 R1 o1 ⟨e, q⟩ => by
    subst e
    obtain ⟨v, rfl, o⟩ := rsAll_1 o1
    have o' : v = .ref a := o
    subst o'
    refine ⟨rfl, x, bs, hp, fun p hp => ?_⟩
    have g2 : Grow H1 L1 (upd H1 p (.lst (bs.map V.bl))) L1 := grow_new hp
    exact z _ (.dat (.list (bs.map PyData.bool))) L1 _ (g1.trans g2) k1 (R1.grow g2 (Keeps.refl _) (R1.led.new hp)) (.lst (by rw [hid_out (R1.led.fresh hp)]; exact upd_same) (rpAll_bools bs)) q⟩
end
end Z

set_option Elab.async false
set_option linter.all false
set_option maxRecDepth 100000
set_option maxHeartbeats 2000000
namespace Z
open PySem PySem.Spec PyProof.Rows L2
def rtOk (L : Led) (k : Rs → Led → Prop) (r : Rs) (L' : Led) : Prop := ∃ L2 r2, Wk L' L2 ∧ RsWk L' L2 r r2 ∧ Keeps L L2 ∧ k r2 L2
theorem rt_dat {L : Led} {k : Rs → Led → Prop} {d : PyData} (h : k (.dat d) L) : rtOk L k (.dat d) L := ⟨L, _, wk_refl, .dat d, Keeps.refl L, h⟩
/-- behind local lists -/
theorem rt_sub {L L' : Led} {k : Rs → Led → Prop} {d : PyData} (s : L.Sublist L') (h : k (.dat d) L) : rtOk L k (.dat d) L' := ⟨L, _, wk_of_sub s, .dat d, Keeps.refl L, h⟩
theorem rt_plus {L : Led} {k : Rs → Led → Prop} {d : PyData} {p : Addr} {ds : List PyData} (h : k (.dat d) L) : rtOk L k (.dat d) (plus L p ds) := rt_sub (List.sublist_append_left _ _) h
/-- a local list is handed out -/
theorem rt_own {L : Led} {k : Rs → Led → Prop} {p : Addr} {ds : List PyData} (hp : p ∉ L.ks) (h : k (.dat (.list ds)) L) : rtOk L k (.own p) (plus L p ds) := ⟨L, _, wk_plus, .frz (List.mem_append_right _ List.mem_cons_self) hp, Keeps.refl L, h⟩
theorem rt_draws {L : Led} {k : Rs → Led → Prop} {l : Addr} {ns : List Nat} {d : PyData} (e : up L l .drw = L) (h : k (.dat d) L) : rtOk L k (.dat d) (up L l (.lst (ns.map natD))) := ⟨L, _, wk_back e, .dat d, Keeps.refl L, h⟩
def dPost (L : Led) (k : Rs → Led → Prop) : Post := { nx := fun _ L' => rtOk L k (.dat .none) L', rt := rtOk L k }
theorem run_body {C : Cz} {t : TS} {H : Hp} {N : List Str} {vs : List V} {rs : List Rs} {L : Led} {k : Rs → Led → Prop} {Q : VK} (h : HS C t (ev0 N.length rs) L (dPost L k)) (o : RsAll C.K L H vs rs) (l : LOk C.K L H) (X : ExOk C L H)
    (z : ∀ v r L' H', Grow H L H' L' → Keeps L L' → LOk C.K L' H' → RsOk C.K L' H' v r → k r L' → Q v H') : t { nx := fun _ H' => Q .non H', rt := Q } (L2.start N vs) H :=
  h _ H _ (rel_start o l) X ⟨fun e L' s H' g r ⟨L2, r2, a, b, c, d⟩ => z .non r2 L2 H' (g.wk a) c (r.led.wk a) (RsOk.wk (r := .dat .none) .non r.led a b) d, fun v r L' H' g l o ⟨L2, r2, a, b, c, d⟩ => z v r2 L2 H' (g.wk a) c (l.wk a) (o.wk l a b) d, fun _ _ _ _ _ _ f => f.elim, fun _ _ _ _ _ _ f => f.elim⟩
theorem rsAll_len {K : PySem.W.Frag} {L : Led} {H : Hp} {vs : List V} {rs : List Rs} (h : RsAll K L H vs rs) : vs.length = rs.length := Paired.length h
section
variable {P : Program} {w : World} {K : PySem.W.Frag} {mg : Str → Option Value} {base : Heap} {x qual : Str} {st : Stmt} {f : Addr} {fd : FuncData} {N ps : List Str} {k : Nat} {d : DSp}
/-- a def that raises nothing -/
theorem fn_z (F : Fun K x qual st f fd) (S : FnScope N ps (defScope st)) (len : ∀ rs L k x, d rs L k x → rs.length = ps.length)
    (body : ∀ (cdv : Value) (A : Around) (outer : List Env) (s : Shared) (H : Hp) (E : XK), Room k (A.deeper (envOfC qual (defScope st) s.heap.objs.size f cdv)) →
      ∃ t, PSs (cxOf CX0 P w K mg base N qual (defScope st) f cdv A outer s H E).nox (defBody st) t ∧ ∀ rs L q x, d rs L q x → HS (C0 K) t (ev0 N.length rs) L (dPost L q)) :
    FnOk P w K mg base CX0 (k + 1) f fd ps (lift K d) := by
  refine F.ok S (fun vs H Q E h => ?_) (fun cdv A outer s H vs Q E hr h => ?_)
  · obtain ⟨rs, L, q, x, o, _, hd, _⟩ := h
    rw [rsAll_len o]
    exact len rs L q x hd
  · obtain ⟨rs, L, q, x, o, l, hd, z, _⟩ := h
    obtain ⟨t, ht, hb⟩ := body cdv A outer s H E hr
    exact ⟨t, ht, run_body (hb rs L q x hd) o l exOk0 z⟩
/-- a def that may raise -/
theorem fn_zX (F : Fun K x qual st f fd) (S : FnScope N ps (defScope st)) (len : ∀ rs L k x, d rs L k x → rs.length = ps.length)
    (body : ∀ (cdv : Value) (A : Around) (outer : List Env) (s : Shared) (H : Hp) (E : XK), Room k (A.deeper (envOfC qual (defScope st) s.heap.objs.size f cdv)) →
      ∃ t, PSs (cxOf (L2.CX P w) P w K mg base N qual (defScope st) f cdv A outer s H E) (defBody st) t ∧
        ∀ rs L q x, d rs L q x → HS ⟨K, fun cls d _ H => E cls d H, fun c _ L' => Keeps L L' ∧ x c L'⟩ t (ev0 N.length rs) L (dPost L q)) :
    FnOk P w K mg base (L2.CX P w) (k + 1) f fd ps (lift K d) := by
  refine F.okX S (fun vs H Q E h => ?_) (fun cdv A outer s H vs Q E hr h => ?_)
  · obtain ⟨rs, L, q, x, o, _, hd, _⟩ := h
    rw [rsAll_len o]
    exact len rs L q x hd
  · obtain ⟨rs, L, q, x, o, l, hd, z, zx⟩ := h
    obtain ⟨t, ht, hb⟩ := body cdv A outer s H E hr
    exact ⟨t, ht, run_body (hb rs L q x hd) o l (fun c e s' L' H' g r f => zx c L' H' g f.1 r.led f.2) z⟩
end

/-- a def of the text as it stands: where, its row, how its arguments bind -/
structure DefAt (K : PySem.W.Frag) (mg : Str → Option Value) (x : Str) (st : Stmt) (ps : List Str) (f : Addr) (fd : FuncData) : Prop where
  g : mg x = some (.ref f)
  F : Fun K x x st f fd
  b : Binds K fd ps []
/-- a def that keeps its promise, as its callers want it -/
def Has (P : Program) (w : World) (K : PySem.W.Frag) (mg : Str → Option Value) (base : Heap) (k : Nat) (x : Str) (ps : List Str) (d : DSp) : Prop :=
  ∃ f fd, mg x = some (.ref f) ∧ PySem.W.keepIn K (.ref f) = true ∧ Binds K fd ps [] ∧ FnOk P w K mg base CX0 k f fd ps (lift K d)
def HasX (P : Program) (w : World) (K : PySem.W.Frag) (mg : Str → Option Value) (base : Heap) (k : Nat) (x : Str) (ps : List Str) (d : DSp) : Prop :=
  ∃ f fd, mg x = some (.ref f) ∧ PySem.W.keepIn K (.ref f) = true ∧ Binds K fd ps [] ∧ FnOk P w K mg base (L2.CX P w) k f fd ps (lift K d)
theorem ite_b {b : Bool} {A B : Prop} (h1 : b = true → A) (h2 : b = false → B) : if b = true then A else B := by
  cases b with
  | true => exact h1 rfl
  | false => exact h2 rfl
theorem ite_t {A B : Prop} (h : A) : if true = true then A else B := h
theorem ite_f {A B : Prop} (h : B) : if false = true then A else B := by
  rw [if_neg (by decide)]
  exact h
/-! more operators -/
def rGtZ : R2 := rI0 fun i j => .bl (decide (j < i))
theorem op_gtZ {X : Cx} : OpR X (compareOp .Gt) rGtZ := op_gt
def rLeZ : R2 := rI0 fun i j => .bl (decide (i ≤ j))
theorem op_leZ {X : Cx} : OpR X (compareOp .LtE) rLeZ := op_le
def rGeZ : R2 := rI0 fun i j => .bl (decide (j ≤ i))
theorem op_geZ {X : Cx} : OpR X (compareOp .GtE) rGeZ := op_ge
section
variable {C : Cz} {L : Led} {k : Rs → Led → Prop} {K : PySem.W.Frag}
theorem od_gt {i j : Int} (q : k (.dat (.bool (decide (j < i)))) L) : OD C rGtZ (.dat (.int i)) (.dat (.int j)) L k := od_cmp (g := fun a b => decide (b < a)) q
theorem od_le {i j : Int} (q : k (.dat (.bool (decide (i ≤ j)))) L) : OD C rLeZ (.dat (.int i)) (.dat (.int j)) L k := od_cmp (g := fun a b => decide (a ≤ b)) q
theorem od_ge {i j : Int} (q : k (.dat (.bool (decide (j ≤ i)))) L) : OD C rGeZ (.dat (.int i)) (.dat (.int j)) L k := od_cmp (g := fun a b => decide (b ≤ a)) q
theorem od_fdiv {i j : Int} (h : CDivW i j) (q : k (.dat (.int (i / j))) L) : OD C (rI CDivW fun i j => .int (i / j)) (.dat (.int i)) (.dat (.int j)) L k := od_intC (c := CDivW) (g := fun i j => i / j) h q
theorem od_pow {i j : Int} (h : CPow i j) (q : k (.dat (.int (i ^ j.toNat))) L) : OD C (rI CPow fun i j => .int (i ^ j.toNat)) (.dat (.int i)) (.dat (.int j)) L k := od_intC (c := CPow) (g := fun i j => i ^ j.toNat) h q
theorem od_repS {a : Str} {n : Int} (h : a.length ≤ 16 ∧ -(2 ^ 63) ≤ n ∧ n ≤ 1048576) (q : k (.dat (.str (Txt.mul a n))) L) : OD C (rMulY K) (.dat (.str a)) (.dat (.int n)) L k := od_or2 (od_val (fun v w H l x y => by
  cases x
  cases y
  exact ⟨.str _, .str _, fun Q f => ⟨a, n, rfl, rfl, h, f⟩⟩) q)
theorem od_mulY_int {i j : Int} (h : CMul i j) (q : k (.dat (.int (i * j))) L) : OD C (rMulY K) (.dat (.int i)) (.dat (.int j)) L k := od_or1 (od_mul_int h q)
theorem od_mulY_lst {ds : List PyData} {n : Int} (h : -(2 ^ 63) ≤ n ∧ n < 2 ^ 63 ∧ ds.length * n.toNat ≤ sizeLine) (q : k (.dat (.list (List.replicate n.toNat ds).flatten)) L) : OD C (rMulY K) (.dat (.list ds)) (.dat (.int n)) L k := od_or1 (od_mul_lst h q)
theorem cd_neg {i : Int} (q : k (.dat (.int (-i))) L) : CD C (fun vs H Q => ∃ v, vs = [v] ∧ rU (fun i => .int (-i)) v H Q) [.dat (.int i)] L k := cd_val (fun vs H l o => by
  obtain ⟨v, rfl, o1⟩ := rsAll_1 o
  cases o1
  exact ⟨.int (-i), .int _, fun Q f => ⟨_, rfl, i, rfl, f⟩⟩) q
theorem md_cntS {a : Addr} {ys : List Str} {z : Str} (m : (a, .lst (ys.map PyData.str)) ∈ L) (q : k (.dat (.int (ys.count z : Nat))) L) (hK : C.K = K := by rfl) : MD C (rCntS K) (.own a) [.dat (.str z)] L k := fun v vs H Q l o1 o2 f => by
  obtain ⟨rfl, ha⟩ := o1
  obtain ⟨w, rfl, o⟩ := rsAll_1 o2
  cases o
  obtain ⟨xs, ex, hx⟩ := l.isLst m
  have e2 := strs_of hx
  subst e2
  exact ⟨a, ys, z, rfl, rfl, SqL.of ex, f _ (.dat (.int (ys.count z : Nat))) L H (Grow.refl H L) (Keeps.refl L) l (.int _) q⟩
end
end Z

set_option Elab.async false
set_option linter.all false
set_option maxRecDepth 100000
set_option maxHeartbeats 2000000
/-! plain lemmas for walks -/
namespace Z
open PySem PySem.Spec PyProof.Rows L2
theorem atI_int {α : Type} {xs : List α} {i : Int} (h0 : 0 ≤ i) (h1 : i < xs.length) : ∃ d, atI xs i = some d ∧ d ∈ xs ∧ xs[i.toNat]? = some d := by
  have hi : i.toNat < xs.length := by omega
  have e : xs[i.toNat]? = some xs[i.toNat] := List.getElem?_eq_getElem hi
  have q := atI_nat e
  rw [Int.toNat_of_nonneg h0] at q
  exact ⟨_, q, List.getElem_mem hi, e⟩
theorem natD_of {i : Int} (h : 0 ≤ i) : PyData.int i = natD i.toNat := by
  unfold natD
  rw [Int.toNat_of_nonneg h]
theorem natD_app (ms : List Nat) {i : Int} (h : 0 ≤ i) : ms.map natD ++ [PyData.int i] = (ms ++ [i.toNat]).map natD := by
  rw [List.map_append, natD_of h]
  rfl
theorem plus_mem {L : Led} {p : Addr} {ds : List PyData} : (p, Mo.lst ds) ∈ plus L p ds := List.mem_append_right _ List.mem_cons_self
theorem plus_old {L : Led} {p a : Addr} {ds : List PyData} {m : Mo} (h : (a, m) ∈ L) : (a, m) ∈ plus L p ds := List.mem_append_left _ h
theorem rng_get {lo : Int} {n i : Nat} {d : PyData} (h : (rng lo n)[i]? = some d) : d = .int (lo + (i : Int)) ∧ i < n := by
  unfold rng at h
  rw [List.getElem?_map] at h
  by_cases hi : i < n
  · rw [List.getElem?_range hi] at h
    cases h
    exact ⟨rfl, hi⟩
  · rw [List.getElem?_eq_none (by rw [List.length_range]; omega)] at h
    cases h
theorem rng_len {lo : Int} {n : Nat} : (rng lo n).length = n := by
  unfold rng
  rw [List.length_map, List.length_range]
theorem rng_mem {lo : Int} {n : Nat} {d : PyData} (h : d ∈ rng lo n) : ∃ i : Nat, i < n ∧ d = .int (lo + (i : Int)) := by
  obtain ⟨i, hi, e⟩ := List.mem_map.mp h
  exact ⟨i, List.mem_range.mp hi, e.symm⟩
theorem map_get {α : Type} {f : α → PyData} {l : List α} {i : Nat} {d : PyData} (h : (l.map f)[i]? = some d) : ∃ x, l[i]? = some x ∧ d = f x := by
  rw [List.getElem?_map] at h
  cases e : l[i]? with
  | none =>
    rw [e] at h
    cases h
  | some x =>
    rw [e] at h
    cases h
    exact ⟨x, rfl, rfl⟩
theorem sz (n : Nat) (h : n < 16777216 := by omega) : n < sizeLine := by
  rw [sizeLine_eq]
  exact h
theorem szl (n : Nat) (h : n ≤ 16777216 := by omega) : n ≤ sizeLine := by
  rw [sizeLine_eq]
  exact h
end Z

set_option Elab.async false
set_option linter.all false
set_option maxRecDepth 100000
set_option maxHeartbeats 2000000
namespace Z
open PySem PySem.Spec PyProof.Rows L2
section
variable {C : Cz} {ε ε' : Ev} {L : Led} {k : Rs → Led → Prop} {wi wi1 : TI} {g g1 : TG} {tt tt1 : TT} {te : TE} {vs vs1 : List Nat} {K : PySem.W.Frag}
/-- [e for target in iter if ..], written on later -/
theorem cp_lcO (h : CI C wi ε L fun ds L1 => ds.length < sizeLine ∧ ∃ I : Nat → List PyData → Prop, I 0 [] ∧
      (∀ i d acc p, ds[i]? = some d → I i acc → p ∉ L1.ks → CG (C0 C.K) g (.dat d) (wipeE ε vs) (plus L1 p acc) fun ε2 L2 => L2 = plus L1 p acc ∧
        CT (C0 C.K) tt ε2 L2 fun b L3 => L3 = plus L1 p acc ∧ if b = true then CP (C0 C.K) te ε2 L3 fun r L4 => L4 = plus L1 p acc ∧ ∃ y, r = .dat y ∧ I (i + 1) (acc ++ [y]) else I (i + 1) acc) ∧
      ∀ acc, I ds.length acc → ∀ p, p ∉ L1.ks → k (.own p) (plus L1 p acc)) (ho : GOwn g vs) : CP C (tLc wi g tt te vs) ε L k := fun σ H Q R X z =>
  h σ H _ R X fun J ds L1 H1 g1 k1 R1 J1 ⟨hsz, I, i0, hs, hd⟩ D hD => by
    have hDn : D ∉ L1.ks := R1.led.fresh hD
    refine ⟨fun i m H' => m = ds.length - i ∧ i ≤ ds.length ∧ ∃ acc, acc.length ≤ i ∧ I i acc ∧ Grow H1 L1 H' (plus L1 D acc) ∧ LOk C.K (plus L1 D acc) H', ⟨_, rfl, Nat.zero_le _, [], Nat.le_refl _, i0, grow_own hD, R1.led.own hD .nil⟩, ?_⟩
    rintro i m H' ⟨rfl, hi, acc, hal, hI, g', l'⟩
    obtain ⟨js, jg⟩ := J1 _ H' g' l' i
    have RW : Rel C.K (plus L1 D acc) (wipeE ε vs) (wipe σ vs) H' := (rel_wipe R1 vs).grow g' keeps_own l'
    by_cases hl : i < ds.length
    · have hx : ds[i]? = some ds[i] := List.getElem?_eq_getElem hl
      obtain ⟨j1, j2⟩ := jg _ hx
      refine .inr ⟨j1, fun H2 => i + 1 ≤ ds.length ∧ ∃ acc2, acc2.length ≤ i + 1 ∧ I (i + 1) acc2 ∧ Grow H1 L1 H2 (plus L1 D acc2) ∧ LOk C.K (plus L1 D acc2) H2, fun H2 ⟨a, b⟩ => ⟨ds.length - (i + 1), by omega, rfl, a, b⟩, fun v H2 y => ?_⟩
      obtain ⟨g2, l2, rp⟩ := j2 v H2 y
      have key := hs i _ acc D hx hI hDn v (wipe σ vs) H2 (fun σ3 H3 => tt σ3 H3 fun b H4 => if b = true then te σ3 H4 fun y H5 => ∃ acc, H5 D = some (.lst acc) ∧ acc.length < sizeLine ∧ (i + 1 ≤ ds.length ∧ ∃ acc2, acc2.length ≤ i + 1 ∧ I (i + 1) acc2 ∧ Grow H1 L1 (upd H5 D (.lst (acc ++ [y]))) (plus L1 D acc2) ∧ LOk C.K (plus L1 D acc2) (upd H5 D (.lst (acc ++ [y])))) else (i + 1 ≤ ds.length ∧ ∃ acc2, acc2.length ≤ i + 1 ∧ I (i + 1) acc2 ∧ Grow H1 L1 H4 (plus L1 D acc2) ∧ LOk C.K (plus L1 D acc2) H4)) (RW.grow g2 (Keeps.refl _) l2) rp fun ε3 L3 σ3 H3 g3 k3 R3 q3 => ?_
      · have q := ho v (wipe σ vs) H2 _ key
        rw [wipe_wipe] at q
        exact q
      obtain ⟨e3, q3⟩ := q3
      subst e3
      refine q3 σ3 H3 _ R3 exOk0 fun b L4 H4 g4 k4 R4 q4 => ?_
      obtain ⟨e4, q4⟩ := q4
      subst e4
      have gg := g'.trans (g2.trans (g3.trans g4))
      cases b with
      | false =>
        rw [if_neg (by decide)] at q4 ⊢
        exact ⟨hl, acc, Nat.le_succ_of_le hal, q4, gg, R4.led⟩
      | true =>
        rw [if_pos rfl] at q4 ⊢
        refine q4 σ3 H4 _ R4 exOk0 fun w r L5 H5 g5 k5 R5 o5 q5 => ?_
        obtain ⟨e5, yd, er, q5⟩ := q5
        subst e5 er
        obtain ⟨xs, ex, hxs⟩ := R5.led.isLst (List.mem_append_right _ List.mem_cons_self)
        refine ⟨xs, ex, by rw [rpAll_len hxs]; omega, hl, acc ++ [yd], by rw [List.length_append]; exact Nat.succ_le_succ hal, q5, (gg.trans g5).trans grow_app, R5.led.app ex o5⟩
    · have e : i = ds.length := by omega
      subst e
      exact .inl ⟨js rfl, z (.ref D) (.own D) (plus L1 D acc) H' (g1.trans g') (k1.trans keeps_own) (R1.grow g' keeps_own l') ⟨rfl, Led.key plus_mem⟩ (hd acc hI D hDn)⟩
theorem cp_lcFO (f : PyData → Option PyData) (h : CI C wi ε L fun ds L1 => ds.length < sizeLine ∧
      (∀ d ∈ ds, ∀ acc p, p ∉ L1.ks → CG (C0 C.K) g (.dat d) (wipeE ε vs) (plus L1 p acc) fun ε2 L2 => L2 = plus L1 p acc ∧
        CT (C0 C.K) tt ε2 L2 fun b L3 => L3 = plus L1 p acc ∧ if b = true then CP (C0 C.K) te ε2 L3 fun r L4 => L4 = plus L1 p acc ∧ ∃ y, r = .dat y ∧ f d = some y else f d = none) ∧
      ∀ p, p ∉ L1.ks → k (.own p) (plus L1 p (ds.filterMap f))) (ho : GOwn g vs) : CP C (tLc wi g tt te vs) ε L k := by
  refine cp_lcO ?_ ho
  refine fun σ H R Rl X z => h σ H R Rl X fun J ds L' H' g1 k1 R1 J1 ⟨a, b, c⟩ => z J ds L' H' g1 k1 R1 J1 ⟨a, fun i acc => acc = (ds.take i).filterMap f, rfl, fun i d acc p hd hI hp => ?_, fun acc hI => ?_⟩
  · have hm : d ∈ ds := List.mem_of_getElem? hd
    have ht : ds.take (i + 1) = ds.take i ++ [d] := by rw [List.take_add_one, hd] <;> rfl
    intro v σ2 H2 Q2 R2 o2 z2
    refine b d hm acc p hp v σ2 H2 Q2 R2 o2 fun ε3 L3 σ3 H3 g3 k3 R3 ⟨e3, q3⟩ => z2 ε3 L3 σ3 H3 g3 k3 R3 ⟨e3, CT.mono q3 fun bb L4 ⟨e4, q4⟩ => ⟨e4, ?_⟩⟩
    cases bb with
    | true =>
      rw [if_pos rfl] at q4 ⊢
      exact CP.mono q4 fun r L5 ⟨e5, y, er, ey⟩ => ⟨e5, y, er, (by show acc ++ [y] = (ds.take (i + 1)).filterMap f; rw [ht, List.filterMap_append, hI, List.filterMap_cons, ey]; rfl)⟩
    | false =>
      rw [if_neg (by decide)] at q4 ⊢
      show acc = (ds.take (i + 1)).filterMap f
      rw [ht, List.filterMap_append, hI, List.filterMap_cons, q4]
      show _ = _ ++ []
      rw [List.append_nil]
  · have e : acc = (ds.take ds.length).filterMap f := hI
    rw [e, List.take_length]
    exact c
/-! an owned list is looked at as data -/
theorem rel_take {σ : L2.St} {H H1 : Hp} {p : Addr} {ds : List PyData} (R : Rel K (plus L p ds) ε σ H) (hp : p ∉ L.ks) (hL : ∀ q ∈ L, q.2 = Mo.drw) (g : Grow H L H1 L) (l1 : LOk K L H1) : Grow H (plus L p ds) H1 (plus L p ds) ∧ Rel K (plus L p ds) ε σ H1 := by
  have G : Grow H (plus L p ds) H1 (plus L p ds) := ⟨fun a o e n => g.old a o e fun z => n (keeps_own a z), fun a ha => .inl ha⟩
  refine ⟨G, R.grow G (Keeps.refl _) ⟨R.led.nd, fun q hq => ?_⟩⟩
  rcases List.mem_append.mp hq with h | h
  · have o := l1.at_ q h
    have hd := hL q h
    obtain ⟨a, m⟩ := q
    subst hd
    exact o
  · have e := List.mem_singleton.mp h
    subst e
    obtain ⟨ys, e3, e4⟩ := R.led.isLst (plus_mem (L := L) (p := p) (ds := ds))
    exact ⟨ys, g.old p _ e3 hp, rpAll_mono G.ext e4⟩
theorem ct_view {kb : Bool → Led → Prop} {p : Addr} {ds : List PyData} (hp : p ∉ L.ks) (hL : ∀ q ∈ L, q.2 = Mo.drw) (e : EvWk (plus L p ds) L ε ε') (h : CT (C0 C.K) tt ε' L fun b L1 => L1 = L ∧ kb b (plus L p ds)) : CT C tt ε (plus L p ds) kb := fun σ H Q R X z => by
  refine h σ H Q (R.wk wk_plus e) exOk0 fun b L1 H1 g1 k1 R1 q => ?_
  obtain ⟨rfl, q⟩ := q
  obtain ⟨G, R2⟩ := rel_take R hp hL g1 R1.led
  exact z b _ H1 G (Keeps.refl _) R2 q
/-- and in a call that answers yes or no -/
theorem cp_view {p : Addr} {ds : List PyData} (hp : p ∉ L.ks) (hL : ∀ q ∈ L, q.2 = Mo.drw) (e : EvWk (plus L p ds) L ε ε') (h : CP (C0 C.K) te ε' L fun r L1 => L1 = L ∧ ∃ b : Bool, r = .dat (.bool b) ∧ k (.dat (.bool b)) (plus L p ds)) : CP C te ε (plus L p ds) k := fun σ H Q R X z => by
  refine h σ H Q (R.wk wk_plus e) exOk0 fun v r L1 H1 g1 k1 R1 o1 q => ?_
  obtain ⟨rfl, b, rfl, q⟩ := q
  obtain ⟨G, R2⟩ := rel_take R hp hL g1 R1.led
  cases o1
  exact z _ (.dat (.bool b)) _ H1 G (Keeps.refl _) R2 (.bl b) q
/-- a written list is handed out -/
theorem rt_ownK {k : Rs → Led → Prop} {p : Addr} {ds : List PyData} (h : k (.own p) (plus L p ds)) : rtOk L k (.own p) (plus L p ds) := ⟨_, _, wk_refl, .own (Led.key plus_mem), keeps_own, h⟩
theorem rt_ownD {k : Rs → Led → Prop} {p p2 : Addr} {ds : List PyData} {ns : List Nat} (h : k (.own p2) (L ++ [(p2, .drw)])) : rtOk L k (.own p2) (plus (plus L p ds) p2 (ns.map natD)) := by
  refine ⟨_, _, ⟨plus L p2 (ns.map natD), ?_, ?_⟩, .own (Led.key (List.mem_append_right _ List.mem_cons_self)), keeps_own, h⟩
  · exact List.Sublist.append (List.sublist_append_left _ _) (List.Sublist.refl _)
  · have key : ∀ L : Led, Paired (fun p q => q.1 = p.1 ∧ MoLe p.2 q.2) (plus L p2 (ns.map natD)) (L ++ [(p2, .drw)]) := by
      intro L
      induction L with
      | nil => exact .cons ⟨rfl, .drw ns⟩ .nil
      | cons q r ih => exact .cons ⟨rfl, .same _⟩ ih
    exact key L
/-! a text's signs -/
theorem sgn_len (c : Nat) : (⟨#[c]⟩ : Str).length = 1 := rfl
theorem str_of (z : Str) : (⟨z.cps.toList.toArray⟩ : Str) = z := rfl
def ofL (l : List Nat) : Str := ⟨l.toArray⟩
theorem ofL_app (a : List Nat) (c : Nat) : ofL a ++ ofL [c] = ofL (a ++ [c]) := by
  show (⟨a.toArray ++ #[c]⟩ : Str) = ⟨(a ++ [c]).toArray⟩
  congr 1
  simp
theorem ofL_len (a : List Nat) : (ofL a).length = a.length := rfl
end
end Z

set_option Elab.async false
set_option linter.all false
set_option maxRecDepth 100000
set_option maxHeartbeats 2000000
namespace Z
open PySem PySem.Spec PyProof.Rows L2
section
variable {C : Cz} {ε ε' : Ev} {L : Led} {k : Rs → Led → Prop} {wi wi1 : TI} {g g1 : TG} {tt tt1 : TT} {te : TE} {vs vs1 : List Nat} {K : PySem.W.Frag}
/-- over a source that is a map -/
theorem cp_lcM (α : Type) (h : CI C wi ε L fun ds L1 => ds.length < sizeLine ∧ ∃ (l : List α) (g0 : α → PyData) (f : α → Option PyData), ds = l.map g0 ∧
      (∀ x ∈ l, ∀ acc p, p ∉ L1.ks → CG (C0 C.K) g (.dat (g0 x)) (wipeE ε vs) (plus L1 p acc) fun ε2 L2 => L2 = plus L1 p acc ∧
        CT (C0 C.K) tt ε2 L2 fun b L3 => L3 = plus L1 p acc ∧ if b = true then CP (C0 C.K) te ε2 L3 fun r L4 => L4 = plus L1 p acc ∧ ∃ y, r = .dat y ∧ f x = some y else f x = none) ∧
      k (.dat (.list (l.filterMap f))) L1) (ho : GOwn g vs) : CP C (tLc wi g tt te vs) ε L k := by
  refine cp_lc ?_ ho
  refine fun σ H R Rl X z => h σ H R Rl X fun J ds L' H' g1 k1 R1 J1 ⟨a, l, g0, f, el, b, c⟩ => z J ds L' H' g1 k1 R1 J1 ⟨a, fun i acc => acc = (l.take i).filterMap f, rfl, fun i d acc p hd hI hp => ?_, fun acc hI => ?_⟩
  · subst el
    obtain ⟨x, hx, rfl⟩ := map_get hd
    have hm : x ∈ l := List.mem_of_getElem? hx
    have ht : l.take (i + 1) = l.take i ++ [x] := by rw [List.take_add_one, hx] <;> rfl
    intro v σ2 H2 Q2 R2 o2 z2
    refine b x hm acc p hp v σ2 H2 Q2 R2 o2 fun ε3 L3 σ3 H3 g3 k3 R3 ⟨e3, q3⟩ => z2 ε3 L3 σ3 H3 g3 k3 R3 ⟨e3, CT.mono q3 fun bb L4 ⟨e4, q4⟩ => ⟨e4, ?_⟩⟩
    cases bb with
    | true =>
      rw [if_pos rfl] at q4 ⊢
      exact CP.mono q4 fun r L5 ⟨e5, y, er, ey⟩ => ⟨e5, y, er, (by show acc ++ [y] = (l.take (i + 1)).filterMap f; rw [ht, List.filterMap_append, hI, List.filterMap_cons, ey]; rfl)⟩
    | false =>
      rw [if_neg (by decide)] at q4 ⊢
      show acc = (l.take (i + 1)).filterMap f
      rw [ht, List.filterMap_append, hI, List.filterMap_cons, q4]
      show _ = _ ++ []
      rw [List.append_nil]
  · subst el
    have e : acc = (l.take (l.map g0).length).filterMap f := hI
    rw [e, List.length_map, List.take_length]
    exact c
theorem cp_lcMO (α : Type) (h : CI C wi ε L fun ds L1 => ds.length < sizeLine ∧ ∃ (l : List α) (g0 : α → PyData) (f : α → Option PyData), ds = l.map g0 ∧
      (∀ x ∈ l, ∀ acc p, p ∉ L1.ks → CG (C0 C.K) g (.dat (g0 x)) (wipeE ε vs) (plus L1 p acc) fun ε2 L2 => L2 = plus L1 p acc ∧
        CT (C0 C.K) tt ε2 L2 fun b L3 => L3 = plus L1 p acc ∧ if b = true then CP (C0 C.K) te ε2 L3 fun r L4 => L4 = plus L1 p acc ∧ ∃ y, r = .dat y ∧ f x = some y else f x = none) ∧
      ∀ p, p ∉ L1.ks → k (.own p) (plus L1 p (l.filterMap f))) (ho : GOwn g vs) : CP C (tLc wi g tt te vs) ε L k := by
  refine cp_lcO ?_ ho
  refine fun σ H R Rl X z => h σ H R Rl X fun J ds L' H' g1 k1 R1 J1 ⟨a, l, g0, f, el, b, c⟩ => z J ds L' H' g1 k1 R1 J1 ⟨a, fun i acc => acc = (l.take i).filterMap f, rfl, fun i d acc p hd hI hp => ?_, fun acc hI => ?_⟩
  · subst el
    obtain ⟨x, hx, rfl⟩ := map_get hd
    have hm : x ∈ l := List.mem_of_getElem? hx
    have ht : l.take (i + 1) = l.take i ++ [x] := by rw [List.take_add_one, hx] <;> rfl
    intro v σ2 H2 Q2 R2 o2 z2
    refine b x hm acc p hp v σ2 H2 Q2 R2 o2 fun ε3 L3 σ3 H3 g3 k3 R3 ⟨e3, q3⟩ => z2 ε3 L3 σ3 H3 g3 k3 R3 ⟨e3, CT.mono q3 fun bb L4 ⟨e4, q4⟩ => ⟨e4, ?_⟩⟩
    cases bb with
    | true =>
      rw [if_pos rfl] at q4 ⊢
      exact CP.mono q4 fun r L5 ⟨e5, y, er, ey⟩ => ⟨e5, y, er, (by show acc ++ [y] = (l.take (i + 1)).filterMap f; rw [ht, List.filterMap_append, hI, List.filterMap_cons, ey]; rfl)⟩
    | false =>
      rw [if_neg (by decide)] at q4 ⊢
      show acc = (l.take (i + 1)).filterMap f
      rw [ht, List.filterMap_append, hI, List.filterMap_cons, q4]
      show _ = _ ++ []
      rw [List.append_nil]
  · subst el
    have e : acc = (l.take (l.map g0).length).filterMap f := hI
    rw [e, List.length_map, List.take_length]
    exact c
theorem ct_yes {kb : Bool → Led → Prop} (q : kb true L) : CT C tYes ε L kb := fun σ H Q R X z => z true L H (Grow.refl H L) (Keeps.refl L) R q
end
/-- both ways lead on from J -/
theorem hs_join {C : Cz} {ε : Ev} {L : Led} {t u : TS} {P : Post} {b : Bool} (J : Ev → Led → Prop) (h : if b = true then HS C t ε L { P with nx := J } else HS C u ε L { P with nx := J }) (h2 : ∀ e l, J e l → P.nx e l) : if b = true then HS C t ε L P else HS C u ε L P := by
  cases b with
  | true =>
    rw [if_pos rfl] at h ⊢
    exact h.mono h2 (fun _ _ z => z) (fun _ _ z => z) fun _ _ z => z
  | false =>
    rw [if_neg (by decide)] at h ⊢
    exact h.mono h2 (fun _ _ z => z) (fun _ _ z => z) fun _ _ z => z
theorem fm_bool {α : Type} (g : α → Bool) : ∀ l : List α, l.filterMap (fun c => some (PyData.bool (g c))) = (l.map g).map PyData.bool
  | [] => rfl
  | a :: r => by
    rw [List.filterMap_cons, List.map_cons, List.map_cons, ← fm_bool g r]
theorem fm_int {α : Type} (g : α → Int) : ∀ l : List α, l.filterMap (fun c => some (PyData.int (g c))) = (l.map g).map PyData.int
  | [] => rfl
  | a :: r => by
    rw [List.filterMap_cons, List.map_cons, List.map_cons, ← fm_int g r]
theorem fm_str {α : Type} (g : α → Str) : ∀ l : List α, l.filterMap (fun c => some (PyData.str (g c))) = (l.map g).map PyData.str
  | [] => rfl
  | a :: r => by
    rw [List.filterMap_cons, List.map_cons, List.map_cons, ← fm_str g r]
/-- those that pass -/
theorem fm_if {α β : Type} (p : α → Bool) (g : α → β) : ∀ l : List α, l.filterMap (fun c => if p c = true then some (g c) else none) = (l.filter p).map g
  | [] => rfl
  | a :: r => by
    rw [List.filterMap_cons, List.filter_cons]
    cases h : p a with
    | true =>
      rw [if_pos rfl, if_pos rfl, List.map_cons, ← fm_if p g r]
    | false =>
      rw [if_neg (by decide), if_neg (by decide), fm_if p g r]
/-! the same rules, where the place's constants are named -/
section
variable {X : Cx} {K : PySem.W.Frag}
theorem opK {o : Value → Value → Sem Value} {r : PySem.W.Frag → R2} (h : OpR X o (r X.K)) (e : X.K = K) : OpR X o (r K) := e ▸ h
theorem ixK {r : PySem.W.Frag → R2} (h : IxR X (r X.K)) (e : X.K = K) : IxR X (r K) := e ▸ h
theorem callK {f : Value} {r : PySem.W.Frag → List V → Hp → VK → Prop} (h : CallR X f (r X.K)) (e : X.K = K) : CallR X f (r K) := e ▸ h
theorem mtK {m : String} {r : PySem.W.Frag → V → List V → Hp → VK → Prop} (h : MtR X m (r X.K)) (e : X.K = K) : MtR X m (r K) := e ▸ h
theorem pg_tupK {es : List Expr} {k : Nat} {t : TGs} {n : Nat} {pos : Pos} (e : X.K = K) (hc : X.calm = true) (h : PGs X es t)
    (hn : (assignEach es X.env).length = n := by rfl) (hst : (assignEach es X.env).findIdx? (·.1) = none := by rfl) : PG X (.Tuple es k pos) (gTup K n t) := by
  subst e
  exact pg_tup hc h hn hst
theorem pi_sqK {tg e : Expr} {te : TE} (ek : X.K = K) (he : PE X e te) : PI X tg e (iSq K te) := by
  subst ek
  exact pi_sq he
theorem pi_enK {e : Expr} {ta : TA} {p pos tpos : Pos} {elts : List Expr} {kk : Nat} (ek : X.K = K) (hg : Gl X "enumerate") (hm : X.mg "enumerate" = none) (ha : PA X [e] ta) (hs : starEach [e] X.env = [(false, eval e X.env)] := by rfl) :
    PI X (.Tuple elts kk tpos) (.Call (.Name "enumerate" p) [e] [] pos) (iEn K ta) := by
  subst ek
  exact pi_en hg hm ha hs
theorem pi_zpK {e e2 : Expr} {ta : TA} {p pos tpos : Pos} {elts : List Expr} {kk : Nat} (ek : X.K = K) (hg : Gl X "zip") (hm : X.mg "zip" = none) (ha : PA X [e, e2] ta)
    (hs : starEach [e, e2] X.env = (false, eval e X.env) :: starEach [e2] X.env := by rfl) (hpl : (backTo pos (starEach [e2] X.env)).any (·.1) = false := by rfl) :
    PI X (.Tuple elts kk tpos) (.Call (.Name "zip" p) [e, e2] [] pos) (iZp K ta) := by
  subst ek
  exact pi_zp hg hm ha hs hpl
theorem pe_bm0K {T : String} {name : Str} {id : String} {r : V → List V → Hp → VK → Prop} {o : Expr} {tO : TE} {apos cpos : Pos} (ek : X.K = K) (pa : PlainAttrs T) (slot : Slot T name id) (hty : typeOf (.builtin id) = pure (.type "method_descriptor")) (hm : MtR X id r) (ho : PE X o tO)
    (hbase : attributeBase o name X.env (eval o X.env) = eval o X.env := by rfl) (hline : (apos.endLine == cpos.line) = true := by rfl) : PE X (.Call (.Attribute o name apos) [] [] cpos) (tBM0 K T r tO) := by
  subst ek
  exact pe_bm0 pa slot hty hm ho hbase hline
theorem pe_bmK {T : String} {name : Str} {id : String} {r : V → List V → Hp → VK → Prop} {o e : Expr} {es : List Expr} {tO : TE} {t : TA} {apos cpos : Pos} (ek : X.K = K) (pa : PlainAttrs T) (slot : Slot T name id) (hty : typeOf (.builtin id) = pure (.type "method_descriptor")) (hm : MtR X id r) (ho : PE X o tO) (ha : PA X (e :: es) t)
    (hbase : attributeBase o name X.env (eval o X.env) = eval o X.env := by rfl)
    (hfew : ((backTo cpos (starEach (e :: es) X.env)).all (fun x => !x.1) && (backToKw cpos (keywordEach [] X.env)).all (fun x => x.1.isSome)
      && decide ((e :: es).length + ([] : List Keyword).length + (if ([] : List Keyword).isEmpty then 0 else 1) < 30)) = true := by rfl)
    (hline : (apos.endLine == cpos.line) = true := by rfl) (hs : starEach (e :: es) X.env = (false, eval e X.env) :: starEach es X.env := by rfl) (hplain : (backTo cpos (starEach es X.env)).any (·.1) = false := by rfl) :
    PE X (.Call (.Attribute o name apos) (e :: es) [] cpos) (tBM K T r tO t) := by
  subst ek
  exact pe_bm pa slot hty hm ho ha hbase hfew hline hs hplain
end
end Z

set_option Elab.async false
set_option linter.all false
set_option maxRecDepth 100000
set_option maxHeartbeats 2000000
namespace Z
open PySem PySem.Spec PyProof.Rows L2
/-- a class of errors of the text's own, with no __init__ of its own -/
structure ErrAt (K : PySem.W.Frag) (mg : Str → Option Value) (x : Str) (C : Addr) : Prop where
  g : mg x = some (.ref C)
  x : PySem.W.excIn K C [.type "ValueError", .type "Exception", .type "BaseException", .type "object"] "ValueError.__new__" = true
  k : PySem.W.keepIn K (.ref C) = true
  s1 : PySem.W.subIn K (.ref C) (.type "BaseException") = some true
  s2 : PySem.W.typeIn K (.ref C) = some (.type "type")
/-- what an error of the class D answers to isinstance, class by class -/
def FlagsAt (K : PySem.W.Frag) (D : Addr) (cs : List Addr) (bs : List Bool) : Prop := ExcC K D ∧ Paired (fun c b => PySem.W.kitOne K (.ref D) (.ref c) = some b) cs bs
/-- a def that keeps its promise where an error is caught -/
def HasQ (P : Program) (w : World) (K : PySem.W.Frag) (mg : Str → Option Value) (base : Heap) (k : Nat) (x : Str) (ps : List Str) (sp : Addr → Addr → Sp) : Prop :=
  ∃ f fd, mg x = some (.ref f) ∧ PySem.W.keepIn K (.ref f) = true ∧ Binds K fd ps [] ∧ FnQ P w K mg base k f fd ps sp
/-- what _law_same takes: n deep -/
def okD : Nat → PyData → Prop
  | _, .dict _ => False
  | 0, .list _ => False
  | 0, .tuple _ => False
  | n + 1, .list ds => ds.length ≤ 1000000 ∧ ∀ d ∈ ds, okD n d
  | n + 1, .tuple ds => ds.length ≤ 1000000 ∧ ∀ d ∈ ds, okD n d
  | _, _ => True
theorem okD_str : ∀ (n : Nat) (x : Str), okD n (.str x)
  | 0, _ => trivial
  | _ + 1, _ => trivial
theorem okD_int : ∀ (n : Nat) (x : Int), okD n (.int x)
  | 0, _ => trivial
  | _ + 1, _ => trivial
theorem okD_bool : ∀ (n : Nat) (x : Bool), okD n (.bool x)
  | 0, _ => trivial
  | _ + 1, _ => trivial
theorem okD_none : ∀ (n : Nat), okD n .none
  | 0 => trivial
  | _ + 1 => trivial
def dSame : Nat → DSp
  | 0 => fun _ _ _ _ => False
  | n + 1 => fun rs L k _ => ∃ d, rs = [.dat d, .dat d] ∧ okD n d ∧ k (.dat (.bool true)) L
section
variable {C : Cz} {ε : Ev} {L : Led} {k : Rs → Led → Prop} {K : PySem.W.Frag}
theorem cp_join {b : Bool} {ta tb : TE} (J : Rs → Led → Prop) (h : if b = true then CP C ta ε L J else CP C tb ε L J) (h2 : ∀ r l, J r l → k r l) : if b = true then CP C ta ε L k else CP C tb ε L k := by
  cases b with
  | true =>
    rw [if_pos rfl] at h ⊢
    exact h.mono h2
  | false =>
    rw [if_neg (by decide)] at h ⊢
    exact h.mono h2
theorem ct_join {b : Bool} {tt : TT} {kb : Bool → Led → Prop} (J : Bool → Led → Prop) (h : if b = true then CT C tt ε L J else J false L) (h2 : ∀ b l, J b l → kb b l) : if b = true then CT C tt ε L kb else kb false L := by
  cases b with
  | true =>
    rw [if_pos rfl] at h ⊢
    exact h.mono h2
  | false =>
    rw [if_neg (by decide)] at h ⊢
    exact h2 _ _ h
theorem od_same (d : PyData) (h : ∀ ds, d ≠ .list ds) (h2 : ∀ ds, d ≠ .tuple ds) (h3 : ∀ ds, d ≠ .dict ds) (h4 : d ≠ .none) (q : k (.dat (.bool true)) L) : OD C (rEqZ K) (.dat d) (.dat d) L k := by
  cases d with
  | none => exact absurd rfl h4
  | bool b => exact od_eq_bool (by rw [beq_self_eq_true]; exact q)
  | int b => exact od_eq_int (by rw [beq_self_eq_true]; exact q)
  | str b => exact od_eq_str (by rw [beq_self_eq_true]; exact q)
  | list b => exact absurd rfl (h _)
  | tuple b => exact absurd rfl (h2 _)
  | dict b => exact absurd rfl (h3 _)
end
inductive OW (L' M2 : Led) : Option Rs → Option Rs → Prop
  | no (o : Option Rs) : OW L' M2 o none
  | mk {r r2 : Rs} (h : RsWk L' M2 r r2) : OW L' M2 (some r) (some r2)
theorem evwk_mk {L' M2 : Led} : ∀ {ε ε2 : Ev}, Paired (OW L' M2) ε ε2 → EvWk L' M2 ε ε2
  | _, _, .nil => ⟨rfl, fun i r2 h => by simp at h⟩
  | _, _, .cons (a := o) (b := o2) h t => by
    obtain ⟨e1, e2⟩ := evwk_mk t
    refine ⟨by rw [List.length_cons, List.length_cons, e1], fun i r2 hr => ?_⟩
    cases i with
    | zero =>
      have hr : o2 = some r2 := by simpa using hr
      subst hr
      cases h with
      | mk h => exact ⟨_, rfl, h⟩
    | succ i =>
      obtain ⟨r, a, b⟩ := e2 i r2 (by simpa using hr)
      exact ⟨r, by simpa using a, b⟩
theorem EvWk.set {L' M2 : Led} {ε ε2 : Ev} (h : EvWk L' M2 ε ε2) (i : Nat) (d : PyData) : EvWk L' M2 (ε.set i (some (.dat d))) (ε2.set i (some (.dat d))) := by
  refine ⟨by rw [List.length_set, List.length_set, h.1], fun j r2 hr => ?_⟩
  by_cases e : i = j
  · subst e
    by_cases hl : i < ε2.length
    · rw [List.getElem?_set_self hl] at hr
      cases hr
      exact ⟨_, by rw [List.getElem?_set_self (by rw [h.1]; exact hl)], .dat d⟩
    · rw [List.getElem?_eq_none (by rw [List.length_set]; omega)] at hr
      cases hr
  · rw [List.getElem?_set_ne e] at hr
    obtain ⟨r, a, b⟩ := h.2 j r2 hr
    exact ⟨r, by rw [List.getElem?_set_ne e]; exact a, b⟩
theorem roomQ {j k : Nat} {A : Around} {v : Option Value} (r : Room k A) (h : j ≤ k) : L2H.RoomH j (A.mark v) := ⟨(r.mono h).dp, (r.mono h).un⟩
end Z

set_option Elab.async false
set_option linter.all false
set_option maxRecDepth 100000
set_option maxHeartbeats 2000000
namespace Z
open PySem PySem.Spec PyProof.Rows L2
/-! the head's facts, as the walks want them -/
section
variable {K : PySem.W.Frag} {h : Heap} {mg : Str → Option Value}
theorem fun_of {x qual : Str} {st : Stmt} {f : Addr} {fd : FuncData} (F : FunD K x qual (defArgs st) (defBody st) (defScope st) [] [] f fd) : Fun K x qual st f fd := by
  obtain ⟨oc, od, dV, kV, doc, pm, an, cdv, ct, osl, e, lk, hcd, hd, _⟩ := F.ex
  rcases hd with ⟨_, e2⟩ | ⟨e2, _⟩
  · subst e2
    exact ⟨⟨oc, od, kV, doc, pm, an, cdv, ct, osl, e, lk, hcd⟩, F.kp⟩
  · exact absurd rfl e2
def excB (K : PySem.W.Frag) (C : Addr) : Bool :=
  He.eqO (PySem.W.findIn K (.ref C) "__getattribute__") (some (some (.builtin "BaseException.__getattribute__"))) && (He.eqO (PySem.W.findIn K (.ref C) "__getattr__") (some none) && (decide (PySem.W.subIn K (.ref C) (.type "BaseException") = some true) &&
  (PySem.W.hasDictIn K C && (He.eqO (PySem.W.findIn K (.ref C) "__class__") (some (some (.builtin "object.__class__"))) && (He.eqO (PySem.W.specialIn K (.builtin "object.__class__") "__get__") (some (some (.builtin "getset_descriptor.__get__"))) &&
  (decide (PySem.W.takesIn K (.builtin "object.__class__") = some true) && decide (PySem.W.mroIn K C (.type "object") = some true)))))))
theorem excB_ok {C : Addr} (c : excB K C = true) : ExcC K C := by
  obtain ⟨c1, c⟩ := He.ba c
  obtain ⟨c2, c⟩ := He.ba c
  obtain ⟨c3, c⟩ := He.ba c
  obtain ⟨c4, c⟩ := He.ba c
  obtain ⟨c5, c⟩ := He.ba c
  obtain ⟨c6, c⟩ := He.ba c
  obtain ⟨c7, c8⟩ := He.ba c
  exact ⟨He.eqO_ok c1, He.eqO_ok c2, of_decide_eq_true c3, c4, He.eqO_ok c5, He.eqO_ok c6, of_decide_eq_true c7, of_decide_eq_true c8⟩
def flagsB (K : PySem.W.Frag) (x : Str) (cs : List (Str × Bool)) : Bool := excB K (He.ga K x) && cs.all fun p => decide (PySem.W.kitOne K (.ref (He.ga K x)) (.ref (He.ga K p.1)) = some p.2)
theorem flags_ok {x : Str} {cs : List (Str × Bool)} (c : flagsB K x cs = true) : FlagsAt K (He.ga K x) (cs.map fun p => He.ga K p.1) (cs.map Prod.snd) := by
  obtain ⟨c1, c2⟩ := He.ba c
  refine ⟨excB_ok c1, ?_⟩
  clear c c1
  induction cs with
  | nil => exact .nil
  | cons p r ih =>
    rw [List.all_cons] at c2
    obtain ⟨c3, c4⟩ := He.ba c2
    exact .cons (of_decide_eq_true c3) (ih c4)
theorem err_ok (X : K.In h) (G : h.Ns mainGlobals mg) {x : Str} (c : (He.Fa.exc x).ok K = true) (g : (He.Fa.glo x).ok K = true) : ErrAt K mg x (He.ga K x) := by
  obtain ⟨c1, c2, c3, c4⟩ := He.exc_ok c
  exact ⟨He.glo_ok X G g, c1, c2, c3, c4⟩
end
theorem law_start {K : PySem.W.Frag} (d : DSp) {H : Hp} {a : Addr} {ns : List Int} (hd : ∀ (k : Rs → Led → Prop) (x : Addr → Led → Prop), k (.dat (.bool true)) [] → d [.scr ns] [] k x) (hS : SqL K H a (ns.map V.int)) : lift K d [.ref a] H (fun v _ => v = .bl true) fun _ _ _ => False := by
  refine ⟨[.scr ns], [], fun r _ => r = .dat (.bool true), fun _ _ => False, .cons ⟨a, rfl, ?_⟩ .nil, ⟨List.nodup_nil, fun _ h => nomatch h⟩, hd _ _ rfl, fun v r L' H' _ _ _ o e => ?_, fun _ _ _ _ _ _ f => f⟩
  · have e : hid [] H = H := funext fun b => hid_out (fun h => nomatch h)
    rw [e]
    exact hS
  · subst e
    cases o
    rfl
end Z

set_option Elab.async false
set_option linter.all false
set_option maxRecDepth 100000
set_option maxHeartbeats 4000000
namespace W04
open PySem PySem.Spec PyProof.Rows L2 Z
def top (i : Nat) : Stmt := PySem.Challenge.pw_humpyard_k04_whole_damaged_numbers.main.body.getD i (.Pass ⟨0, 0, 0, 0⟩)
/-! numbers of wagons, as lists of signs -/
def figs : List Nat := [48, 49, 50, 51, 52, 53, 54, 55, 56, 57]
def FIG : Str := "0123456789"
theorem FIG_eq : FIG.cps.toList = figs := by decide +kernel
def wt (i : Nat) (f : Int) : Int := if i % 2 = 1 then f else if f < 5 then 2 * f else 2 * f - 9
def sumW : Nat → List Nat → Int
  | _, [] => 0
  | i, c :: t => wt i ((c : Int) - 48) + sumW (i + 1) t
def sound (l : List Nat) : Bool := decide (sumW 0 l % 10 = 0)
def ch (c : Nat) : List Nat := if c = 63 then figs else [c]
def stepX (found : List (List Nat)) (c : Nat) : List (List Nat) := found.flatMap fun s => (ch c).map fun d => s ++ [d]
def ex : List Nat → List (List Nat)
  | [] => [[]]
  | c :: t => (ch c).flatMap fun d => (ex t).map (d :: ·)
theorem fm_congr {α β : Type} {f g : α → List β} : ∀ (l : List α), (∀ x ∈ l, f x = g x) → l.flatMap f = l.flatMap g
  | [], _ => rfl
  | a :: r, h => by
    rw [List.flatMap_cons, List.flatMap_cons, h a List.mem_cons_self, fm_congr r fun x hx => h x (List.mem_cons_of_mem _ hx)]
theorem foldl_ex : ∀ (l : List Nat) (F : List (List Nat)), l.foldl stepX F = F.flatMap fun s => (ex l).map (s ++ ·)
  | [], F => by
    simp [ex]
  | c :: t, F => by
    rw [List.foldl_cons, foldl_ex t]
    unfold stepX
    rw [List.flatMap_assoc]
    refine fm_congr _ fun s _ => ?_
    rw [List.flatMap_map, ex, List.map_flatMap]
    refine fm_congr _ fun d _ => ?_
    rw [List.map_map]
    refine List.map_congr_left fun x _ => ?_
    simp
theorem foldl_ex0 (l : List Nat) : l.foldl stepX [[]] = ex l := by
  rw [foldl_ex]
  simp
theorem ex_len : ∀ {l x : List Nat}, x ∈ ex l → x.length = l.length
  | [], x, h => by
    rw [ex, List.mem_singleton] at h
    subst h
    rfl
  | c :: t, x, h => by
    rw [ex, List.mem_flatMap] at h
    obtain ⟨d, _, h⟩ := h
    obtain ⟨y, hy, rfl⟩ := List.mem_map.mp h
    rw [List.length_cons, List.length_cons, ex_len hy]
def okS (c : Nat) : Prop := c ∈ figs ∨ c = 63
theorem ex_fig : ∀ {l x : List Nat}, (∀ c ∈ l, okS c) → x ∈ ex l → ∀ c ∈ x, c ∈ figs
  | [], x, _, h, c, hc => by
    rw [ex, List.mem_singleton] at h
    subst h
    cases hc
  | a :: t, x, ok, h, c, hc => by
    rw [ex, List.mem_flatMap] at h
    obtain ⟨d, hd, h⟩ := h
    obtain ⟨y, hy, rfl⟩ := List.mem_map.mp h
    rcases List.mem_cons.mp hc with e | e
    · subst e
      unfold ch at hd
      split at hd
      · exact hd
      · rename_i na
        rw [List.mem_singleton] at hd
        subst hd
        exact (ok _ List.mem_cons_self).resolve_right na
    · exact ex_fig (fun z hz => ok z (List.mem_cons_of_mem _ hz)) hy c e
theorem ex_size : ∀ l : List Nat, (ex l).length = 10 ^ l.count 63
  | [] => rfl
  | c :: t => by
    rw [ex, List.count_cons]
    have key : ∀ ds : List Nat, (ds.flatMap fun d => (ex t).map (d :: ·)).length = ds.length * (ex t).length := by
      intro ds
      induction ds with
      | nil => simp
      | cons a r ih =>
        rw [List.flatMap_cons, List.length_append, ih, List.length_map, List.length_cons, Nat.add_mul, Nat.one_mul, Nat.add_comm]
    rw [key, ex_size t]
    by_cases h : c = 63
    · subst h
      show 10 * 10 ^ t.count 63 = _
      rw [if_pos (by decide), Nat.pow_succ, Nat.mul_comm]
    · have e : ch c = [c] := if_neg h
      rw [e, if_neg (by simpa using h)]
      show 1 * _ = _
      rw [Nat.one_mul, Nat.add_zero]
theorem ex_none : ∀ l : List Nat, l.count 63 = 0 → ex l = [l]
  | [], _ => rfl
  | c :: t, h => by
    rw [List.count_cons] at h
    have hc : c ≠ 63 := fun z => by
      subst z
      simp at h
    have ht : t.count 63 = 0 := by omega
    have e : ch c = [c] := if_neg hc
    rw [ex, e, ex_none t ht]
    rfl
def cnt (i : Nat) (a : Int) (l : List Nat) : Nat := ((ex l).filter fun x => decide ((a + sumW i x) % 10 = 0)).length
theorem cnt_map (i : Nat) (a : Int) (d : Nat) (F : List (List Nat)) : ((F.map (d :: ·)).filter fun x => decide ((a + sumW i x) % 10 = 0)).length = (F.filter fun x => decide ((a + wt i ((d : Int) - 48) + sumW (i + 1) x) % 10 = 0)).length := by
  rw [List.filter_map, List.length_map]
  congr 2
  funext x
  show decide ((a + (wt i ((d : Int) - 48) + sumW (i + 1) x)) % 10 = 0) = _
  rw [← Int.add_assoc]
theorem ten (i : Nat) (r : Int) : (figs.map fun d : Nat => if (r + wt i ((d : Int) - 48)) % 10 = 0 then 1 else 0).sum = 1 := by
  have e : ∀ w : Int, (r + w) % 10 = (r % 10 + w) % 10 := fun w => by omega
  have h : r % 10 = 0 ∨ r % 10 = 1 ∨ r % 10 = 2 ∨ r % 10 = 3 ∨ r % 10 = 4 ∨ r % 10 = 5 ∨ r % 10 = 6 ∨ r % 10 = 7 ∨ r % 10 = 8 ∨ r % 10 = 9 := by omega
  unfold wt
  by_cases p : i % 2 = 1
  · simp only [if_pos p, e]
    rcases h with h | h | h | h | h | h | h | h | h | h <;> rw [h] <;> decide
  · simp only [if_neg p, e]
    rcases h with h | h | h | h | h | h | h | h | h | h <;> rw [h] <;> decide
theorem cnt_cons (i : Nat) (a : Int) (c : Nat) (t : List Nat) : cnt i a (c :: t) = ((ch c).map fun d : Nat => cnt (i + 1) (a + wt i ((d : Int) - 48)) t).sum := by
  unfold cnt
  rw [ex]
  induction ch c with
  | nil => rfl
  | cons d r ih => rw [List.flatMap_cons, List.filter_append, List.length_append, ih, cnt_map, List.map_cons, List.sum_cons]
theorem cnt_none (i : Nat) (a : Int) (l : List Nat) (h : l.count 63 = 0) : cnt i a l = if (a + sumW i l) % 10 = 0 then 1 else 0 := by
  unfold cnt
  rw [ex_none l h]
  by_cases e : (a + sumW i l) % 10 = 0
  · rw [if_pos e, List.filter_cons_of_pos (by simpa using e)]
    rfl
  · rw [if_neg e, List.filter_cons_of_neg (by simpa using e)]
    rfl
theorem cnt_pow : ∀ (l : List Nat) (i : Nat) (a : Int), 0 < l.count 63 → cnt i a l = 10 ^ (l.count 63 - 1)
  | [], _, _, h => by simp at h
  | c :: t, i, a, h => by
    rw [cnt_cons]
    rw [List.count_cons] at h ⊢
    by_cases hc : c = 63
    · subst hc
      have e : ch 63 = figs := rfl
      rw [e]
      rw [if_pos (by decide)] at h ⊢
      by_cases ht : t.count 63 = 0
      · rw [ht]
        have : (figs.map fun d : Nat => cnt (i + 1) (a + wt i ((d : Int) - 48)) t) = figs.map fun d : Nat => if ((a + sumW (i + 1) t) + wt i ((d : Int) - 48)) % 10 = 0 then 1 else 0 := by
          refine List.map_congr_left fun d _ => ?_
          rw [cnt_none _ _ _ ht]
          have e2 : a + wt i ((d : Int) - 48) + sumW (i + 1) t = a + sumW (i + 1) t + wt i ((d : Int) - 48) := by omega
          rw [e2]
        rw [this, ten]
      · have : (figs.map fun d : Nat => cnt (i + 1) (a + wt i ((d : Int) - 48)) t) = figs.map fun _ => 10 ^ (t.count 63 - 1) := List.map_congr_left fun d _ => cnt_pow t (i + 1) _ (by omega)
        rw [this]
        have e3 : t.count 63 + 1 - 1 = (t.count 63 - 1) + 1 := by omega
        rw [e3, Nat.pow_succ]
        simp [figs]
        omega
    · have e : ch c = [c] := if_neg hc
      rw [e]
      rw [if_neg (by simpa using hc)] at h ⊢
      show cnt (i + 1) _ t + 0 = _
      rw [cnt_pow t (i + 1) _ (by omega)]
      rfl
theorem sound_count (l : List Nat) (h : 0 < l.count 63) : ((ex l).filter sound).length = 10 ^ (l.count 63 - 1) := by
  have q := cnt_pow l 0 0 h
  unfold cnt at q
  have e : (fun x : List Nat => decide ((0 + sumW 0 x) % 10 = 0)) = sound := by
    funext x
    unfold sound
    rw [Int.zero_add]
  rw [e] at q
  exact q
theorem fig_int : ∀ c ∈ figs, PySem.intText? ⟨#[c]⟩ = some ((c : Int) - 48) := by decide +kernel
theorem fig_rng : ∀ c ∈ figs, 48 ≤ c ∧ c ≤ 57 := by decide
theorem sumW_app : ∀ (l : List Nat) (i c : Nat), sumW i (l ++ [c]) = sumW i l + wt (i + l.length) ((c : Int) - 48)
  | [], i, c => by simp [sumW]
  | a :: t, i, c => by
    rw [List.cons_append, sumW, sumW, sumW_app t, List.length_cons]
    have e : i + 1 + t.length = i + (t.length + 1) := by omega
    rw [e, Int.add_assoc]

end W04

set_option Elab.async false
set_option linter.all false
set_option maxRecDepth 100000
set_option maxHeartbeats 4000000
namespace W04
open PySem PySem.Spec PyProof.Rows L2 Z
local macro_rules | `(tactic| walk_at "z") => `(tactic| first
  | with_reducible refine hs_seq ?_
  | with_reducible refine hs_asg ?_
  | with_reducible refine hs_ret ?_
  | with_reducible refine hs_if ?_
  | with_reducible refine hs_drop ?_
  | with_reducible refine hs_next ?_
  | ((with_reducible refine cp_var (r := ?zr) ?zh ?_); (case zh => exact rfl))
  | with_reducible refine cp_int ?_
  | with_reducible refine cp_str ?_
  | with_reducible refine cp_bl ?_
  | with_reducible refine cp_non ?_
  | with_reducible refine cp_ref ?_
  | with_reducible refine cp_ty ?_
  | with_reducible refine cp_op ?_
  | with_reducible refine cp_un ?_
  | with_reducible refine cp_cb ?_
  | with_reducible refine ca_nil ?_
  | with_reducible refine ca_cons ?_
  | with_reducible refine cp_andV ?_
  | with_reducible refine cp_orV ?_
  | with_reducible refine cp_notV ?_
  | with_reducible refine cp_if ?_
  | with_reducible refine cp_call ?_
  | with_reducible refine cp_callS ?_
  | with_reducible refine ct_test ?_
  | with_reducible refine ct_b ?_
  | with_reducible refine ct_and ?_
  | with_reducible refine ct_or ?_
  | with_reducible refine ct_not ?_
  | with_reducible refine ct_yes ?_
  | with_reducible refine cg_name ?_
  | with_reducible refine cp_lst ?_
  | with_reducible refine cp_tup ?_
  | refine cp_bm ?_
  | refine cp_bm0 ?_
  | refine ⟨(show rsTy _ (Rs.own _) _ from rfl), ?_⟩
  | refine ⟨(show rsTy _ (Rs.dat _) _ from ⟨rfl, by decide⟩), ?_⟩
  | refine od_add_int ?_
  | refine od_sub ?_
  | refine od_lt_int ?_
  | refine od_gt ?_
  | refine od_le ?_
  | refine od_ge ?_
  | refine od_eq_int ?_
  | refine od_eq_str ?_
  | refine od_eq_bool ?_
  | refine od_ne_int ?_
  | refine od_ne_str ?_
  | refine od_ne_bool ?_
  | refine od_mod (by decide) ?_
  | refine od_pow ⟨by decide, by decide, by decide⟩ ?_
  | refine od_fdiv ⟨by decide, by decide⟩ ?_
  | refine od_mulY_int (.inr ⟨by decide, by decide⟩) ?_
  | refine od_mulY_int (.inl ⟨by decide, by decide⟩) ?_
  | refine od_in_sign ?_
  | refine od_notIn_sign ?_
  | refine od_is_bool ?_
  | refine od_isNot_bool ?_
  | refine od_is_none ?_
  | refine od_isNot_none ?_
  | refine cd_len_lst ?_
  | refine cd_len_tup ?_
  | refine cd_int_int ?_
  | refine cd_int_bool ?_
  | refine cd_abs ?_
  | refine cd_neg ?_
  | refine cd_isi (by decide) ?_
  | refine ⟨_, rfl, ?_⟩
  | refine ⟨_, _, rfl, ?_⟩
  | refine ⟨[], rfl, szl _ (by decide), ?_⟩
  | refine ⟨[_], rfl, szl _ (by decide), ?_⟩
  | refine ⟨[_, _], rfl, szl _ (by decide), ?_⟩
  | refine ⟨[_, _, _], rfl, szl _ (by decide), ?_⟩
  | refine ⟨[_, _, _, _], rfl, szl _ (by decide), ?_⟩
  | refine ⟨[_, _, _, _, _], rfl, szl _ (by decide), ?_⟩
  | refine ⟨[_, _, _, _, _, _], rfl, szl _ (by decide), ?_⟩
  | refine ⟨[_, _, _, _, _, _, _], rfl, szl _ (by decide), ?_⟩
  | refine ⟨[_, _, _, _, _, _, _, _], rfl, szl _ (by decide), ?_⟩
  | refine ⟨[_, _, _, _, _, _, _, _, _], rfl, szl _ (by decide), ?_⟩)
section
variable {P : Program} {w : World} {K : PySem.W.Frag} {mg : Str → Option Value} {base : Heap}
abbrev s__law_take : Stmt := top 20
theorem sc__law_take : FnScope ["draws", "bound"] ["draws", "bound"] (defScope s__law_take) := ⟨rfl, rfl, rfl, by decide +kernel, rfl, by decide +kernel, by decide +kernel⟩
abbrev ps__law_take : List Str := ["draws", "bound"]
def dTake : DSp := fun rs L k _ => ∃ l b, rs = [.own l, .dat (.int b)] ∧ (l, .drw) ∈ L ∧ 0 < b ∧ ∀ n : Int, 0 ≤ n → n < b → k (.dat (.int n)) L
theorem ok__law_take {f : Addr} {fd : FuncData} (D : DefAt K mg "_law_take" s__law_take ps__law_take f fd) (B_len : mg "len" = none) (B_int : mg "int" = none) : Has P w K mg base 1 "_law_take" ps__law_take dTake := by
  refine ⟨f, fd, D.g, D.F.kp, D.b, fn_z D.F sc__law_take (fun rs L k x h => ?_) fun cdv A outer s H E hr => ?_⟩
  · obtain ⟨l, b, rfl, _⟩ := h
    rfl
  · have nd := sc__law_take.nd
    refine ⟨_, (pss_cons (ps_if (pt_cmpR (op_eqZ hr.units) (pe_callB call_lenZ (by rfl) B_len (by decide +kernel) (pa_cons (pv 0) pa_nil)) pe_int (nomark _)) (pss_one (ps_ret pe_int)) pss_nil)
    (pss_one (ps_ret (pe_op op_mod (pe_callTy call_intZ (by rfl) B_int (by decide +kernel) (pa_cons (pe_bm0 PySem.F.plainAttrs_list PySem.F.slot_list_pop PySem.F.type_list_pop mt_pop (pv 0)) pa_nil)) (pv 1))))), fun rs L q x h => ?_⟩
    obtain ⟨l, b, rfl, m, hb, hq⟩ := h
    refine hs_open m fun ns eu => ?_
    have mm := mem_up (L := L) (a := l) (m := .lst (ns.map natD)) (Led.key m)
    repeat walk_at "z"
    refine cd_len_own mm ?_
    repeat walk_at "z"
    refine ite_b (fun hc => ?_) fun hc => ?_
    · repeat walk_at "z"
      exact rt_draws eu (hq 0 (Int.le_refl 0) hb)
    · have hne : ns ≠ [] := fun z => by
        subst z
        simp at hc
      obtain ⟨n, hn⟩ : ∃ n, ns.getLast? = some n := by
        cases e : ns.getLast? with
        | none => exact absurd (List.getLast?_eq_none_iff.mp e) hne
        | some n => exact ⟨n, rfl⟩
      repeat walk_at "z"
      refine md_pop mm (d := natD n) ?_ ?_
      · rw [List.length_map, List.getElem?_map, ← List.getLast?_eq_getElem?, hn]
        rfl
      · rw [← List.map_dropLast, up_up]
        repeat walk_at "z"
        refine od_mod hb ?_
        exact rt_draws eu (hq _ (Int.emod_nonneg _ (by omega)) (Int.emod_lt_of_pos _ hb))
abbrev s__law_pick : Stmt := top 21
theorem sc__law_pick : FnScope ["draws", "some"] ["draws", "some"] (defScope s__law_pick) := ⟨rfl, rfl, rfl, by decide +kernel, rfl, by decide +kernel, by decide +kernel⟩
abbrev ps__law_pick : List Str := ["draws", "some"]
def dPick : DSp := fun rs L k _ => ∃ l, (l, .drw) ∈ L ∧ ((∃ z : Str, rs = [.own l, .dat (.str z)] ∧ 0 < z.length ∧ z.length ≤ 100000 ∧ ∀ c ∈ z.cps.toList, k (.dat (sgn c)) L) ∨
  ∃ ds, rs = [.own l, .dat (.list ds)] ∧ ds ≠ [] ∧ ∀ d ∈ ds, k (.dat d) L)
theorem ok__law_pick {f : Addr} {fd : FuncData} (D : DefAt K mg "_law_pick" s__law_pick ps__law_pick f fd) (B_len : mg "len" = none) (H_take : Has P w K mg base 1 "_law_take" ps__law_take dTake) : Has P w K mg base 2 "_law_pick" ps__law_pick dPick := by
  obtain ⟨_, _, g__law_take, kp__law_take, b__law_take, G__law_take⟩ := H_take
  refine ⟨f, fd, D.g, D.F.kp, D.b, fn_z D.F sc__law_pick (fun rs L k x h => ?_) fun cdv A outer s H E hr => ?_⟩
  · obtain ⟨l, _, ⟨z, rfl, _⟩ | ⟨z, rfl, _⟩⟩ := h <;> rfl
  · have nd := sc__law_pick.nd
    refine ⟨_, (pss_one (ps_ret (pe_ix ix_seq (pv 1) (pe_call G__law_take (hr.mono (by decide)) (by rfl) g__law_take kp__law_take b__law_take .nil pass0 (pa_cons (pv 0) (pa_cons (pe_callB call_lenZ (by rfl) B_len (by decide +kernel) (pa_cons (pv 1) pa_nil)) pa_nil))) (fun _ _ => rfl)))), fun rs L q x h => ?_⟩
    obtain ⟨l, m, ⟨z, rfl, h0, h1, hq⟩ | ⟨ds, rfl, hne, hq⟩⟩ := h
    · repeat walk_at "z"
      refine cd_len_str (szl _) ?_
      repeat walk_at "z"
      refine ⟨m, by omega, fun n n0 n1 => ?_⟩
      have hl : z.cps.toList.length = z.length := Array.length_toList
      obtain ⟨c, e, hc, _⟩ := atI_int (xs := z.cps.toList) n0 (by rw [hl]; exact n1)
      exact od_ix_str (szl _) e (rt_dat (hq c hc))
    · repeat walk_at "z"
      have hp : 0 < ds.length := List.length_pos_iff.mpr hne
      refine ⟨m, by omega, fun n n0 n1 => ?_⟩
      obtain ⟨d, e, hd, _⟩ := atI_int n0 n1
      exact od_ix_lst e (rt_dat (hq d hd))
abbrev s__law_draws : Stmt := top 19
theorem sc__law_draws : FnScope ["script", "draws", "seed", "cell", "number", "k"] ["script"] (defScope s__law_draws) := ⟨rfl, rfl, rfl, by decide +kernel, rfl, by decide +kernel, by decide +kernel⟩
abbrev ps__law_draws : List Str := ["script"]
def dDraws : DSp := fun rs L k _ => ∃ ns : List Int, rs = [.scr ns] ∧ ns.length ≤ 63 ∧ ∀ p, p ∉ L.ks → k (.own p) (L ++ [(p, .drw)])
theorem ok__law_draws {f : Addr} {fd : FuncData} (D : DefAt K mg "_law_draws" s__law_draws ps__law_draws f fd) (B_int : mg "int" = none) (B_abs : mg "abs" = none) (B_range : mg "range" = none) (B_list : mg "list" = none) (B_reversed : mg "reversed" = none) : Has P w K mg base 1 "_law_draws" ps__law_draws dDraws := by
  refine ⟨f, fd, D.g, D.F.kp, D.b, fn_z D.F sc__law_draws (fun rs L k x h => ?_) fun cdv A outer s H E hr => ?_⟩
  · obtain ⟨ns, rfl, _⟩ := h
    rfl
  · have nd := sc__law_draws.nd
    refine ⟨_, (pss_cons (ps_set (i := 1) nd rfl (by first | exact .inl rfl | exact .inr rfl) (pe_lst pa_nil))
    (pss_cons (ps_set (i := 2) nd rfl (by first | exact .inl rfl | exact .inr rfl) pe_int)
    (pss_cons (ps_for PassesOwn.never rfl (pi_sq (pv 0)) (pg_name (i := 3) nd rfl (by first | exact .inl rfl | exact .inr rfl))
      (pss_cons (ps_set (i := 4) nd rfl (by first | exact .inl rfl | exact .inr rfl) (pe_callB call_abs (by rfl) B_abs (by decide +kernel) (pa_cons (pe_callTy call_intZ (by rfl) B_int (by decide +kernel) (pa_cons (pv 3) pa_nil)) pa_nil)))
      (pss_cons (ps_set (i := 2) nd rfl (by first | exact .inl rfl | exact .inr rfl) (pe_op op_mod (pe_callTy call_intZ (by rfl) B_int (by decide +kernel) (pa_cons (pe_op op_addZ (pe_op op_addZ (pe_op op_mulY (pv 2) pe_int) (pv 4)) pe_int) pa_nil)) pe_int))
      (pss_cons (ps_if (pt_cmpR op_ltZ (pv 4) (pe_op op_pow pe_int pe_int) (nomark _)) (pss_cons (ps_expr (pe_bm PySem.F.plainAttrs_list PySem.F.slot_list_append PySem.F.type_list_append mt_append (pv 1) (pa_cons (pe_op op_mod (pe_callTy call_intZ (by rfl) B_int (by decide +kernel) (pa_cons (pv 4) pa_nil)) pe_int) pa_nil)))
        (pss_cons (ps_expr (pe_bm PySem.F.plainAttrs_list PySem.F.slot_list_append PySem.F.type_list_append mt_append (pv 1) (pa_cons (pe_op op_mod (pe_callTy call_intZ (by rfl) B_int (by decide +kernel) (pa_cons (pv 2) pa_nil)) pe_int) pa_nil)))
        (pss_one (ps_set (i := 4) nd rfl (by first | exact .inl rfl | exact .inr rfl) pe_int)))) pss_nil)
      (pss_one (ps_for PassesOwn.never rfl (pi_range1 (by rfl) B_range (pa_cons pe_int pa_nil)) (pg_name (i := 5) nd rfl (by first | exact .inl rfl | exact .inr rfl))
        (pss_one (ps_if (pt_cmpR op_gtZ (pv 4) pe_int (nomark _)) (pss_cons (ps_expr (pe_bm PySem.F.plainAttrs_list PySem.F.slot_list_append PySem.F.type_list_append mt_append (pv 1) (pa_cons (pe_op op_mod (pe_callTy call_intZ (by rfl) B_int (by decide +kernel) (pa_cons (pv 4) pa_nil)) pe_int) pa_nil)))
          (pss_one (ps_set (i := 4) nd rfl (by first | exact .inl rfl | exact .inr rfl) (pe_op op_fdivW (pv 4) pe_int)))) pss_nil))))))))
    (pss_cons (ps_for PassesOwn.never rfl (pi_range1 (by rfl) B_range (pa_cons pe_int pa_nil)) (pg_name (i := 5) nd rfl (by first | exact .inl rfl | exact .inr rfl))
      (pss_cons (ps_set (i := 2) nd rfl (by first | exact .inl rfl | exact .inr rfl) (pe_op op_mod (pe_callTy call_intZ (by rfl) B_int (by decide +kernel) (pa_cons (pe_op op_addZ (pe_op op_mulY (pv 2) pe_int) pe_int) pa_nil)) pe_int))
      (pss_one (ps_expr (pe_bm PySem.F.plainAttrs_list PySem.F.slot_list_append PySem.F.type_list_append mt_append (pv 1) (pa_cons (pe_op op_fdivW (pv 2) pe_int) pa_nil))))))
    (pss_one (ps_ret (pe_lrev rfl (by rfl) B_list (by rfl) B_reversed (pv 1)))))))), fun rs L q x h => ?_⟩
    obtain ⟨ns, rfl, hn, hq⟩ := h
    refine hs_seq ?_
    refine hs_asg ?_
    refine cp_lstO ?_
    refine ca_nil ?_
    refine ⟨[], rfl, szl _ (by decide), fun p hp => ?_⟩
    repeat walk_at "z"
    refine hs_for ?_
    refine ci_sq ?_
    refine cp_var rfl ?_
    refine ⟨_, .scr ns, fun i ε' L' => ∃ (ms : List Nat) (s : Int) (c nm kk : Option Rs), 0 ≤ s ∧ ms.length ≤ 62 * i ∧ ε' = [some (.scr ns), some (.own p), some (.dat (.int s)), c, nm, kk] ∧ L' = plus L p (ms.map natD), ⟨[], 11, _, _, _, by decide, Nat.zero_le _, rfl, rfl⟩, ?_, ?_⟩
    · rintro i d ε' L' hd ⟨ms, s, c, nm, kk, hs, hl, rfl, rfl⟩
      obtain ⟨n, hn', rfl⟩ := map_get hd
      refine cg_name ?_
      repeat walk_at "z"
      have hN : 0 ≤ (if n < 0 then -n else n) := by split <;> omega
      generalize (if n < 0 then -n else n) = N at hN ⊢
      have hS : 0 ≤ (s * 48271 + N + 1) % 2147483647 := Int.emod_nonneg _ (by decide)
      generalize (s * 48271 + N + 1) % 2147483647 = S at hS ⊢
      have hi : i < ns.length := (List.getElem?_eq_some_iff.mp hn').1
      refine hs_join (fun ε' L' => ∃ (ms : List Nat) (N : Int), 0 ≤ N ∧ ms.length ≤ 62 * i + 2 ∧ ε' = [some (.scr ns), some (.own p), some (.dat (.int S)), some (.dat (.int n)), some (.dat (.int N)), kk] ∧ L' = plus L p (ms.map natD)) (ite_b (fun hc => ?_) fun hc => ?_) ?_
      · repeat walk_at "z"
        refine md_append plus_mem (sz _ (by rw [List.length_map]; omega)) ?_
        rw [up_plus hp, natD_app ms (Int.emod_nonneg _ (by decide))]
        repeat walk_at "z"
        refine md_append plus_mem (sz _ (by rw [List.length_map, List.length_append, List.length_singleton]; omega)) ?_
        rw [up_plus hp, natD_app _ (Int.emod_nonneg _ (by decide))]
        repeat walk_at "z"
        exact ⟨_, 0, Int.le_refl 0, by rw [List.length_append, List.length_append, List.length_singleton, List.length_singleton]; omega, rfl, rfl⟩
      · repeat walk_at "z"
        exact ⟨ms, N, hN, by omega, rfl, rfl⟩
      · rintro ε' L' ⟨ms, N, hN, hl, rfl, rfl⟩
        refine hs_for ?_
        refine ci_range1 ?_
        repeat walk_at "z"
        refine ⟨by decide, fun j ε' L' => ∃ (ms : List Nat) (N : Int) (kk : Option Rs), 0 ≤ N ∧ ms.length ≤ 62 * i + 2 + j ∧ ε' = [some (.scr ns), some (.own p), some (.dat (.int S)), some (.dat (.int n)), some (.dat (.int N)), kk] ∧ L' = plus L p (ms.map natD), ⟨ms, N, _, hN, hl, rfl, rfl⟩, ?_, ?_⟩
        · rintro j d ε' L' hd ⟨ms, N, kk, hN, hl, rfl, rfl⟩
          obtain ⟨rfl, hj⟩ := rng_get hd
          have hj' : j < 60 := hj
          refine cg_name ?_
          repeat walk_at "z"
          refine ite_b (fun hc => ?_) fun hc => ?_
          · repeat walk_at "z"
            refine md_append plus_mem (sz _ (by rw [List.length_map]; omega)) ?_
            rw [up_plus hp, natD_app _ (Int.emod_nonneg _ (by decide))]
            repeat walk_at "z"
            exact ⟨_, _, _, Int.ediv_nonneg hN (by decide), by rw [List.length_append, List.length_singleton]; omega, rfl, rfl⟩
          · repeat walk_at "z"
            exact ⟨ms, N, _, hN, by omega, rfl, rfl⟩
        · rintro ε' L' ⟨ms, N, kk, hN, hl, rfl, rfl⟩
          rw [rng_len] at hl
          have hl' : ms.length ≤ 62 * i + 2 + 60 := hl
          exact ⟨ms, S, _, _, _, hS, by omega, rfl, rfl⟩
    · rintro ε' L' ⟨ms, s, c, nm, kk, hs, hl, rfl, rfl⟩
      rw [List.length_map] at hl
      repeat walk_at "z"
      refine hs_for ?_
      refine ci_range1 ?_
      repeat walk_at "z"
      refine ⟨by decide, fun j ε' L' => ∃ (ms : List Nat) (s : Int) (kk : Option Rs), 0 ≤ s ∧ ms.length ≤ 62 * 63 + j ∧ ε' = [some (.scr ns), some (.own p), some (.dat (.int s)), c, nm, kk] ∧ L' = plus L p (ms.map natD), ⟨ms, s, _, hs, by omega, rfl, rfl⟩, ?_, ?_⟩
      · rintro j d ε' L' hd ⟨ms, s, kk, hs, hl, rfl, rfl⟩
        obtain ⟨rfl, hj⟩ := rng_get hd
        have hj' : j < 200 := hj
        refine cg_name ?_
        repeat walk_at "z"
        have hS : 0 ≤ (s * 48271 + 69621) % 2147483647 := Int.emod_nonneg _ (by decide)
        refine md_append plus_mem (sz _ (by rw [List.length_map]; omega)) ?_
        rw [up_plus hp, natD_app _ (Int.ediv_nonneg hS (by decide))]
        repeat walk_at "z"
        exact ⟨_, _, _, hS, by rw [List.length_append, List.length_singleton]; omega, rfl, rfl⟩
      · rintro ε' L' ⟨ms, s, kk, hs, hl, rfl, rfl⟩
        repeat walk_at "z"
        refine cp_lrev (a := p) (ds := ms.map natD) ?_
        repeat walk_at "z"
        refine ⟨rfl, plus_mem, fun p2 hp2 => ?_⟩
        rw [← List.map_reverse]
        exact rt_ownD (hq p2 fun z => hp2 (keeps_own _ z))
abbrev s_has_signs : Stmt := top 11
theorem sc_has_signs : FnScope ["value", "length", "signs", "sign"] ["value", "length", "signs"] (defScope s_has_signs) := ⟨rfl, rfl, rfl, by decide +kernel, rfl, by decide +kernel, by decide +kernel⟩
abbrev ps_has_signs : List Str := ["value", "length", "signs"]
def memS (z : Str) (c : Nat) : Bool := decide (c ∈ z.cps.toList)
def hsD (v : PyData) (n : Int) (z : Str) : Bool := match v with
  | .str s => ((s.length : Int) == n) && s.cps.toList.all (memS z)
  | _ => false
def dSigns : DSp := fun rs L k _ => ∃ v n z, rs = [.dat v, .dat (.int n), .dat (.str z)] ∧ (∀ s, v = .str s → s.length ≤ 100000) ∧ k (.dat (.bool (hsD v n z))) L
theorem ok_has_signs {f : Addr} {fd : FuncData} (D : DefAt K mg "has_signs" s_has_signs ps_has_signs f fd) (B_len : mg "len" = none) (B_isinstance : mg "isinstance" = none) (B_str : mg "str" = none) (B_all : mg "all" = none) : Has P w K mg base 1 "has_signs" ps_has_signs dSigns := by
  refine ⟨f, fd, D.g, D.F.kp, D.b, fn_z D.F sc_has_signs (fun rs L k x h => ?_) fun cdv A outer s H E hr => ?_⟩
  · obtain ⟨v, n, z, rfl, _⟩ := h
    rfl
  · have nd := sc_has_signs.nd
    refine ⟨_, (pss_one (ps_ret (pe_and (pe_callB call_isi (by rfl) B_isinstance (by decide +kernel) (pa_cons (pv 0) (pa_cons (pe_bltn (v := .ty "str") (by rfl) B_str (by decide +kernel) rfl) pa_nil))) (pe_and (pe_cmpR (op_eqZ hr.units) (pe_callB call_lenZ (by rfl) B_len (by decide +kernel) (pa_cons (pv 0) pa_nil)) (pv 1) (nomark _)) (pe_one (pe_callB (cr_all rfl) (by rfl) B_all (by decide +kernel) (pa_cons (pe_lc (own := [("sign", 3)]) rfl nd (pi_sq (pv 0)) (blkOk_by (own := [("sign", 3)]) (N := ["value", "length", "signs", "sign"]) (sc := defScope s_has_signs) (by decide +kernel)) (fun _ _ _ _ _ => (pg_name (i := 3) nd rfl (by first | exact .inl rfl | exact .inr rfl))) (fun _ _ _ _ _ => pts_nil) (fun _ _ _ _ _ => (pe_cmpR (opK (r := rInZ) (K := K) op_inZ (by rfl)) (pv 3) (pv 2) (by rfl)))) pa_nil))))))), fun rs L q x h => ?_⟩
    obtain ⟨v, n, z, rfl, hs, hq⟩ := h
    repeat walk_at "z"
    refine ite_b (fun hc => ?_) fun hc => ?_
    · obtain ⟨s, rfl⟩ : ∃ s, v = .str s := by
        cases v <;> first | exact ⟨_, rfl⟩ | exact absurd hc (by simp [isD, tyN])
      have hl := hs s rfl
      repeat walk_at "z"
      refine cd_len_str (szl _) ?_
      repeat walk_at "z"
      refine ite_b (fun hc2 => ?_) fun hc2 => ?_
      · repeat walk_at "z"
        refine cp_lcM Nat ?_ gown_name
        refine ci_sq ?_
        repeat walk_at "z"
        refine ⟨_, .str s, sz _ (by rw [List.length_map, Array.length_toList]; exact Nat.lt_of_le_of_lt hl (by decide)), s.cps.toList, sgn, fun c => some (.bool (memS z c)), rfl, fun c hc acc p hp => ?_, ?_⟩
        · refine cg_name ⟨rfl, ct_yes ⟨rfl, ite_t ?_⟩⟩
          repeat walk_at "z"
          exact ⟨rfl, _, rfl, rfl⟩
        · repeat walk_at "z"
          rw [fm_bool]
          refine cd_all ?_
          have e : hsD (.str s) n z = (s.cps.toList.map (memS z)).all id := by
            show (_ && _) = _
            rw [hc2, Bool.true_and, List.all_map]
            rfl
          rw [e] at hq
          exact rt_dat hq
      · have e : hsD (.str s) n z = false := by
          show (_ && _) = _
          rw [hc2, Bool.false_and]
        rw [e] at hq
        exact rt_dat hq
    · have e : hsD v n z = false := by
        cases v <;> first | rfl | exact absurd hc (by simp [isD, tyN])
      rw [e] at hq
      exact rt_dat hq

abbrev s_is_number : Stmt := top 12
theorem sc_is_number : FnScope ["value"] ["value"] (defScope s_is_number) := ⟨rfl, rfl, rfl, by decide +kernel, rfl, by decide +kernel, by decide +kernel⟩
abbrev ps_is_number : List Str := ["value"]
def isNum (v : PyData) : Bool := hsD v 12 FIG
def dNum : DSp := fun rs L k _ => ∃ v, rs = [.dat v] ∧ (∀ s, v = .str s → s.length ≤ 100000) ∧ k (.dat (.bool (isNum v))) L
theorem ok_is_number {f : Addr} {fd : FuncData} (D : DefAt K mg "is_number" s_is_number ps_is_number f fd) {tL tF : Tok} (c_LONG : mg "LONG" = some (.int 12 tL)) (c_FIGURES : mg "FIGURES" = some (.str "0123456789" tF)) (H_1 : Has P w K mg base 1 "has_signs" ps_has_signs dSigns) : Has P w K mg base 2 "is_number" ps_is_number dNum := by
  obtain ⟨_, _, g_has_signs, kp_has_signs, b_has_signs, G_has_signs⟩ := H_1
  refine ⟨f, fd, D.g, D.F.kp, D.b, fn_z D.F sc_is_number (fun rs L k x h => ?_) fun cdv A outer s H E hr => ?_⟩
  · obtain ⟨v, rfl, _⟩ := h
    rfl
  · have nd := sc_is_number.nd
    refine ⟨_, (pss_one (ps_ret (pe_call G_has_signs (hr.mono (by decide)) (by rfl) g_has_signs kp_has_signs b_has_signs .nil pass0 (pa_cons (pv 0) (pa_cons (pe_glob (v := .int 12) (by rfl) c_LONG ⟨_, rfl⟩) (pa_cons (pe_glob (v := .str "0123456789") (by rfl) c_FIGURES ⟨_, rfl⟩) pa_nil)))))), fun rs L q x h => ?_⟩
    obtain ⟨v, rfl, hs, hq⟩ := h
    repeat walk_at "z"
    exact ⟨_, _, _, rfl, hs, rt_dat hq⟩
abbrev s_weight_of : Stmt := top 13
theorem sc_weight_of : FnScope ["at", "figure"] ["at", "figure"] (defScope s_weight_of) := ⟨rfl, rfl, rfl, by decide +kernel, rfl, by decide +kernel, by decide +kernel⟩
abbrev ps_weight_of : List Str := ["at", "figure"]
def dWt : DSp := fun rs L k _ => ∃ (i : Nat) (n : Int), rs = [.dat (.int (i : Int)), .dat (.int n)] ∧ k (.dat (.int (wt i n))) L
theorem ok_weight_of {f : Addr} {fd : FuncData} (D : DefAt K mg "weight_of" s_weight_of ps_weight_of f fd) : Has P w K mg base 1 "weight_of" ps_weight_of dWt := by
  refine ⟨f, fd, D.g, D.F.kp, D.b, fn_z D.F sc_weight_of (fun rs L k x h => ?_) fun cdv A outer s H E hr => ?_⟩
  · obtain ⟨i, n, rfl, _⟩ := h
    rfl
  · have nd := sc_weight_of.nd
    refine ⟨_, (pss_cons (ps_if (pt_cmpR (op_eqZ hr.units) (pe_op op_mod (pv 0) pe_int) pe_int (nomark _)) (pss_one (ps_ret (pv 1))) pss_nil)
    (pss_one (ps_ret (pe_ifExp (pt_cmpR op_ltZ (pv 1) pe_int (nomark _)) (pe_op op_mulY pe_int (pv 1)) (pe_op op_sub (pe_op op_mulY pe_int (pv 1)) pe_int))))), fun rs L q x h => ?_⟩
    obtain ⟨i, n, rfl, hq⟩ := h
    repeat walk_at "z"
    refine ite_b (fun hc => ?_) fun hc => ?_
    · repeat walk_at "z"
      have e : i % 2 = 1 := by
        have := of_decide_eq_true hc
        omega
      unfold wt at hq
      rw [if_pos e] at hq
      exact rt_dat hq
    · have e : ¬ i % 2 = 1 := by
        have := of_decide_eq_false hc
        omega
      unfold wt at hq
      rw [if_neg e] at hq
      repeat walk_at "z"
      refine ite_b (fun hd => ?_) fun hd => ?_
      · have e2 : n < 5 := of_decide_eq_true hd
        rw [if_pos e2] at hq
        repeat walk_at "z"
        exact rt_dat hq
      · have e2 : ¬ n < 5 := of_decide_eq_false hd
        rw [if_neg e2] at hq
        repeat walk_at "z"
        exact rt_dat hq

end
end W04

set_option Elab.async false
set_option linter.all false
set_option maxRecDepth 100000
set_option maxHeartbeats 4000000
namespace W04
open PySem PySem.Spec PyProof.Rows L2 Z
local macro_rules | `(tactic| walk_at "z") => `(tactic| first
  | with_reducible refine hs_seq ?_
  | with_reducible refine hs_asg ?_
  | with_reducible refine hs_ret ?_
  | with_reducible refine hs_if ?_
  | with_reducible refine hs_drop ?_
  | with_reducible refine hs_next ?_
  | ((with_reducible refine cp_var (r := ?zr) ?zh ?_); (case zh => exact rfl))
  | with_reducible refine cp_int ?_
  | with_reducible refine cp_str ?_
  | with_reducible refine cp_bl ?_
  | with_reducible refine cp_non ?_
  | with_reducible refine cp_ref ?_
  | with_reducible refine cp_ty ?_
  | with_reducible refine cp_op ?_
  | with_reducible refine cp_un ?_
  | with_reducible refine cp_cb ?_
  | with_reducible refine ca_nil ?_
  | with_reducible refine ca_cons ?_
  | with_reducible refine cp_andV ?_
  | with_reducible refine cp_orV ?_
  | with_reducible refine cp_notV ?_
  | with_reducible refine cp_if ?_
  | with_reducible refine cp_call ?_
  | with_reducible refine cp_callS ?_
  | with_reducible refine ct_test ?_
  | with_reducible refine ct_b ?_
  | with_reducible refine ct_and ?_
  | with_reducible refine ct_or ?_
  | with_reducible refine ct_not ?_
  | with_reducible refine ct_yes ?_
  | with_reducible refine cg_name ?_
  | with_reducible refine cp_lst ?_
  | with_reducible refine cp_tup ?_
  | refine cp_bm ?_
  | refine cp_bm0 ?_
  | refine ⟨(show rsTy _ (Rs.own _) _ from rfl), ?_⟩
  | refine ⟨(show rsTy _ (Rs.dat _) _ from ⟨rfl, by decide⟩), ?_⟩
  | refine od_add_int ?_
  | refine od_sub ?_
  | refine od_lt_int ?_
  | refine od_gt ?_
  | refine od_le ?_
  | refine od_ge ?_
  | refine od_eq_int ?_
  | refine od_eq_str ?_
  | refine od_eq_bool ?_
  | refine od_ne_int ?_
  | refine od_ne_str ?_
  | refine od_ne_bool ?_
  | refine od_mod (by decide) ?_
  | refine od_pow ⟨by decide, by decide, by decide⟩ ?_
  | refine od_fdiv ⟨by decide, by decide⟩ ?_
  | refine od_mulY_int (.inr ⟨by decide, by decide⟩) ?_
  | refine od_mulY_int (.inl ⟨by decide, by decide⟩) ?_
  | refine od_in_sign ?_
  | refine od_notIn_sign ?_
  | refine od_is_bool ?_
  | refine od_isNot_bool ?_
  | refine od_is_none ?_
  | refine od_isNot_none ?_
  | refine cd_len_lst ?_
  | refine cd_len_tup ?_
  | refine cd_int_int ?_
  | refine cd_int_bool ?_
  | refine cd_abs ?_
  | refine cd_neg ?_
  | refine cd_isi (by decide) ?_
  | refine ⟨_, rfl, ?_⟩
  | refine ⟨_, _, rfl, ?_⟩
  | refine ⟨[], rfl, szl _ (Nat.le_trans (Nat.le_of_eq (show _ = 0 from rfl)) (by decide)), ?_⟩
  | refine ⟨[_], rfl, szl _ (Nat.le_trans (Nat.le_of_eq (show _ = 1 from rfl)) (by decide)), ?_⟩
  | refine ⟨[_, _], rfl, szl _ (Nat.le_trans (Nat.le_of_eq (show _ = 2 from rfl)) (by decide)), ?_⟩
  | refine ⟨[_, _, _], rfl, szl _ (Nat.le_trans (Nat.le_of_eq (show _ = 3 from rfl)) (by decide)), ?_⟩
  | refine ⟨[_, _, _, _], rfl, szl _ (Nat.le_trans (Nat.le_of_eq (show _ = 4 from rfl)) (by decide)), ?_⟩
  | refine ⟨[_, _, _, _, _], rfl, szl _ (Nat.le_trans (Nat.le_of_eq (show _ = 5 from rfl)) (by decide)), ?_⟩
  | refine ⟨[_, _, _, _, _, _], rfl, szl _ (Nat.le_trans (Nat.le_of_eq (show _ = 6 from rfl)) (by decide)), ?_⟩
  | refine ⟨[_, _, _, _, _, _, _], rfl, szl _ (Nat.le_trans (Nat.le_of_eq (show _ = 7 from rfl)) (by decide)), ?_⟩
  | refine ⟨[_, _, _, _, _, _, _, _], rfl, szl _ (Nat.le_trans (Nat.le_of_eq (show _ = 8 from rfl)) (by decide)), ?_⟩
  | refine ⟨[_, _, _, _, _, _, _, _, _], rfl, szl _ (Nat.le_trans (Nat.le_of_eq (show _ = 9 from rfl)) (by decide)), ?_⟩)
section
variable {P : Program} {w : World} {K : PySem.W.Frag} {mg : Str → Option Value} {base : Heap}
theorem sum_zip : ∀ (l : List Nat) (k : Nat), ((l.zipIdx k).map fun p : Nat × Nat => wt p.2 ((p.1 : Int) - 48)).sum = sumW k l
  | [], _ => rfl
  | c :: t, k => by
    rw [List.zipIdx_cons, List.map_cons, List.sum_cons, sum_zip t (k + 1), sumW]
theorem q_eq (c : Nat) : ((⟨#[c]⟩ : Str) == "?") = decide (c = 63) := by
  have e : ("?" : Str) = ⟨#[63]⟩ := by decide +kernel
  rw [e]
  by_cases h : c = 63
  · subst h
    decide
  · rw [decide_eq_false h]
    refine beq_eq_false_iff_ne.mpr fun z => h ?_
    have := congrArg Str.cps z
    simpa using this
abbrev s_sum_by : Stmt := top 14
theorem sc_sum_by : FnScope ["number", "at", "figure"] ["number"] (defScope s_sum_by) := ⟨rfl, rfl, rfl, by decide +kernel, rfl, by decide +kernel, by decide +kernel⟩
abbrev ps_sum_by : List Str := ["number"]
def dSum : DSp := fun rs L k _ => ∃ z : Str, rs = [.dat (.str z)] ∧ z.length ≤ 100000 ∧ (∀ c ∈ z.cps.toList, c ∈ figs) ∧ k (.dat (.int (sumW 0 z.cps.toList))) L
theorem ok_sum_by {f : Addr} {fd : FuncData} (D : DefAt K mg "sum_by" s_sum_by ps_sum_by f fd) (B_sum : mg "sum" = none) (B_enumerate : mg "enumerate" = none) (B_int : mg "int" = none) (H_1 : Has P w K mg base 1 "weight_of" ps_weight_of dWt) : Has P w K mg base 2 "sum_by" ps_sum_by dSum := by
  obtain ⟨_, _, g_weight_of, kp_weight_of, b_weight_of, G_weight_of⟩ := H_1
  refine ⟨f, fd, D.g, D.F.kp, D.b, fn_z D.F sc_sum_by (fun rs L k x h => ?_) fun cdv A outer s H E hr => ?_⟩
  · obtain ⟨v, rfl, _⟩ := h
    rfl
  · have nd := sc_sum_by.nd
    refine ⟨_, (pss_one (ps_ret (pe_callB (cr_sum rfl) (by rfl) B_sum (by decide +kernel) (pa_cons (pe_lc (own := [("at", 1), ("figure", 2)]) rfl nd (pi_en (by rfl) B_enumerate (pa_cons (pv 0) pa_nil)) (blkOk_by (own := [("at", 1), ("figure", 2)]) (N := ["number", "at", "figure"]) (sc := defScope s_sum_by) (by decide +kernel)) (fun _ _ _ _ _ => (pg_tupK (K := K) (n := 2) (by rfl) rfl (pgs_cons (pg_name (i := 1) nd rfl (by first | exact .inl rfl | exact .inr rfl)) (pgs_cons (pg_name (i := 2) nd rfl (by first | exact .inl rfl | exact .inr rfl)) pgs_nil)))) (fun _ _ _ _ _ => pts_nil) (fun _ _ _ _ _ => (pe_call G_weight_of (hr.mono (by decide)) (by rfl) g_weight_of kp_weight_of b_weight_of .nil pass0 (pa_cons (pv 1) (pa_cons (pe_callTy call_intZ (by rfl) B_int (by decide +kernel) (pa_cons (pv 2) pa_nil)) pa_nil))))) pa_nil)))), fun rs L q x h => ?_⟩
    obtain ⟨z, rfl, hl, hf, hq⟩ := h
    have hl' : z.cps.toList.length ≤ 100000 := by rw [Array.length_toList]; exact hl
    repeat walk_at "z"
    refine cp_lcM (Nat × Nat) ?_ gown_tup2
    refine ci_en ?_
    repeat walk_at "z"
    refine ⟨_, _, rfl, .str z, ?_, z.cps.toList.zipIdx, fun p => .tuple [.int (p.2 : Int), sgn p.1], fun p => some (.int (wt p.2 ((p.1 : Int) - 48))), ?_, fun p hp acc a ha => ?_, ?_⟩
    · refine sz _ ?_
      unfold enumD
      rw [List.length_map, List.length_zipIdx, List.length_map]
      omega
    · unfold enumD
      rw [List.zipIdx_map, List.map_map]
      rfl
    · have hc : p.1 ∈ figs := hf _ (by
        obtain ⟨_, _, e⟩ := List.mem_zipIdx hp
        rw [e]
        exact List.getElem_mem _)
      refine cg_tup2 ⟨rfl, ct_yes ⟨rfl, ite_t ?_⟩⟩
      repeat walk_at "z"
      refine cd_int_str ⟨fig_int _ hc, (show 1 ≤ 640 by decide)⟩ ?_
      repeat walk_at "z"
      exact ⟨rfl, _, rfl, rfl⟩
    · repeat walk_at "z"
      rw [fm_int]
      refine cd_sum ?_
      rw [sum_zip]
      exact rt_dat hq
abbrev s_is_sound : Stmt := top 15
theorem sc_is_sound : FnScope ["value"] ["value"] (defScope s_is_sound) := ⟨rfl, rfl, rfl, by decide +kernel, rfl, by decide +kernel, by decide +kernel⟩
abbrev ps_is_sound : List Str := ["value"]
def isSnd : PyData → Bool
  | .str s => isNum (.str s) && sound s.cps.toList
  | _ => false
def dSnd : DSp := fun rs L k _ => ∃ v, rs = [.dat v] ∧ (∀ s, v = .str s → s.length ≤ 100000) ∧ k (.dat (.bool (isSnd v))) L
theorem num_str {v : PyData} (h : isNum v = true) : ∃ s, v = .str s ∧ s.length = 12 ∧ ∀ c ∈ s.cps.toList, c ∈ figs := by
  obtain ⟨s, rfl⟩ : ∃ s, v = .str s := by
    cases v <;> first | exact ⟨_, rfl⟩ | exact absurd h Bool.false_ne_true
  unfold isNum hsD at h
  rw [Bool.and_eq_true] at h
  refine ⟨s, rfl, ?_, fun c hc => ?_⟩
  · have := beq_iff_eq.mp h.1
    omega
  · have := List.all_eq_true.mp h.2 c hc
    unfold memS at this
    rw [FIG_eq] at this
    exact of_decide_eq_true this
theorem num_of {s : Str} (h : s.length = 12) (hf : ∀ c ∈ s.cps.toList, c ∈ figs) : isNum (.str s) = true := by
  unfold isNum hsD
  rw [Bool.and_eq_true]
  refine ⟨by rw [h]; rfl, List.all_eq_true.mpr fun c hc => ?_⟩
  unfold memS
  rw [FIG_eq]
  exact decide_eq_true (hf c hc)
theorem ok_is_sound {f : Addr} {fd : FuncData} (D : DefAt K mg "is_sound" s_is_sound ps_is_sound f fd) (H_1 : Has P w K mg base 2 "is_number" ps_is_number dNum) (H_2 : Has P w K mg base 2 "sum_by" ps_sum_by dSum) : Has P w K mg base 3 "is_sound" ps_is_sound dSnd := by
  obtain ⟨_, _, g_is_number, kp_is_number, b_is_number, G_is_number⟩ := H_1
  obtain ⟨_, _, g_sum_by, kp_sum_by, b_sum_by, G_sum_by⟩ := H_2
  refine ⟨f, fd, D.g, D.F.kp, D.b, fn_z D.F sc_is_sound (fun rs L k x h => ?_) fun cdv A outer s H E hr => ?_⟩
  · obtain ⟨v, rfl, _⟩ := h
    rfl
  · have nd := sc_is_sound.nd
    refine ⟨_, (pss_one (ps_ret (pe_and (pe_call G_is_number (hr.mono (by decide)) (by rfl) g_is_number kp_is_number b_is_number .nil pass0 (pa_cons (pv 0) pa_nil)) (pe_one (pe_cmpR (op_eqZ hr.units) (pe_op op_mod (pe_call G_sum_by (hr.mono (by decide)) (by rfl) g_sum_by kp_sum_by b_sum_by .nil pass0 (pa_cons (pv 0) pa_nil)) pe_int) pe_int (nomark _)))))), fun rs L q x h => ?_⟩
    obtain ⟨v, rfl, hl, hq⟩ := h
    repeat walk_at "z"
    refine ⟨hl, _, rfl, ite_b (fun hc => ?_) fun hc => ?_⟩
    · obtain ⟨s, rfl, h1, h2⟩ := num_str hc
      repeat walk_at "z"
      refine ⟨hl s rfl, h2, ?_⟩
      repeat walk_at "z"
      have e : isSnd (.str s) = (sumW 0 s.cps.toList % 10 == 0) := by
        show (_ && _) = _
        rw [hc, Bool.true_and]
        rfl
      rw [e] at hq
      exact rt_dat hq
    · have e : isSnd v = false := by
        cases v <;> first | rfl | (show (_ && _) = _; rw [hc, Bool.false_and])
      rw [e] at hq
      exact rt_dat hq
abbrev s__law_is_sound : Stmt := top 24
theorem sc__law_is_sound : FnScope ["number", "found", "k", "figure"] ["number"] (defScope s__law_is_sound) := ⟨rfl, rfl, rfl, by decide +kernel, rfl, by decide +kernel, by decide +kernel⟩
abbrev ps__law_is_sound : List Str := ["number"]
def dLSnd : DSp := fun rs L k _ => ∃ z : Str, rs = [.dat (.str z)] ∧ z.length ≤ 100000 ∧ (∀ c ∈ z.cps.toList, c ∈ figs) ∧ k (.dat (.bool (sound z.cps.toList))) L
theorem ok__law_is_sound {f : Addr} {fd : FuncData} (D : DefAt K mg "_law_is_sound" s__law_is_sound ps__law_is_sound f fd) (B_range : mg "range" = none) (B_len : mg "len" = none) (B_int : mg "int" = none) : Has P w K mg base 1 "_law_is_sound" ps__law_is_sound dLSnd := by
  refine ⟨f, fd, D.g, D.F.kp, D.b, fn_z D.F sc__law_is_sound (fun rs L k x h => ?_) fun cdv A outer s H E hr => ?_⟩
  · obtain ⟨v, rfl, _⟩ := h
    rfl
  · have nd := sc__law_is_sound.nd
    refine ⟨_, (pss_cons (ps_set (i := 1) nd rfl (by first | exact .inl rfl | exact .inr rfl) pe_int)
    (pss_cons (ps_for PassesOwn.never rfl (pi_range1 (by rfl) B_range (pa_cons (pe_callB call_lenZ (by rfl) B_len (by decide +kernel) (pa_cons (pv 0) pa_nil)) pa_nil)) (pg_name (i := 2) nd rfl (by first | exact .inl rfl | exact .inr rfl))
      (pss_cons (ps_set (i := 3) nd rfl (by first | exact .inl rfl | exact .inr rfl) (pe_callTy call_intZ (by rfl) B_int (by decide +kernel) (pa_cons (pe_ix ix_seq (pv 0) (pv 2) (fun _ _ => rfl)) pa_nil)))
      (pss_cons (ps_if (pt_cmpR (op_eqZ hr.units) (pe_op op_mod (pe_callTy call_intZ (by rfl) B_int (by decide +kernel) (pa_cons (pv 2) pa_nil)) pe_int) pe_int (nomark _)) (pss_one (ps_set (i := 3) nd rfl (by first | exact .inl rfl | exact .inr rfl) (pe_ix ix_seq (pe_lst (pa_cons (pe_op op_mulY pe_int (pv 3)) (pa_cons (pe_op op_sub (pe_op op_mulY pe_int (pv 3)) pe_int) pa_nil))) (pe_callTy call_intZ (by rfl) B_int (by decide +kernel) (pa_cons (pe_cmpR op_gtZ (pe_op op_mulY pe_int (pv 3)) pe_int (nomark _)) pa_nil)) (fun _ _ => rfl)))) pss_nil)
      (pss_one (ps_set (i := 1) nd rfl (by first | exact .inl rfl | exact .inr rfl) (pe_op op_addZ (pv 1) (pv 3)))))))
    (pss_one (ps_ret (pe_cmpR (op_eqZ hr.units) (pe_op op_mod (pe_callTy call_intZ (by rfl) B_int (by decide +kernel) (pa_cons (pv 1) pa_nil)) pe_int) pe_int (nomark _)))))), fun rs L q x h => ?_⟩
    obtain ⟨z, rfl, hl, hf, hq⟩ := h
    have hl2 : z.cps.toList.length = z.length := Array.length_toList
    repeat walk_at "z"
    refine hs_for ?_
    refine ci_range1 ?_
    repeat walk_at "z"
    refine cd_len_str (szl _) ?_
    repeat walk_at "z"
    refine ⟨by omega, fun i ε' L' => ∃ kk fg, ε' = [some (.dat (.str z)), some (.dat (.int (sumW 0 (z.cps.toList.take i)))), kk, fg] ∧ L' = L, ⟨_, _, rfl, rfl⟩, ?_, ?_⟩
    · rintro i d ε' L' hd ⟨kk, fg, rfl, rfl⟩
      obtain ⟨rfl, hi⟩ := rng_get hd
      have hi' : i < z.cps.toList.length := by omega
      have ec : z.cps.toList[i]? = some z.cps.toList[i] := List.getElem?_eq_getElem hi'
      generalize z.cps.toList[i] = c at ec
      have hc : c ∈ figs := hf c (List.mem_of_getElem? ec)
      have hr := fig_rng c hc
      have et : sumW 0 (z.cps.toList.take (i + 1)) = sumW 0 (z.cps.toList.take i) + wt i ((c : Int) - 48) := by
        rw [List.take_add_one, ec]
        show sumW 0 (_ ++ [c]) = _
        rw [sumW_app, List.length_take, Nat.zero_add, Nat.min_eq_left (by omega)]
      rw [Int.zero_add]
      refine cg_name ?_
      repeat walk_at "z"
      refine od_ix_str (szl _) (atI_nat ec) ?_
      repeat walk_at "z"
      refine cd_int_str ⟨fig_int _ hc, (show 1 ≤ 640 by decide)⟩ ?_
      repeat walk_at "z"
      refine ite_b (fun he => ?_) fun he => ?_
      · have e2 : ¬ i % 2 = 1 := by
          have := beq_iff_eq.mp he
          omega
        repeat walk_at "z"
        refine od_ix_lst (d := .int (wt i ((c : Int) - 48))) ?_ ?_
        · unfold wt
          rw [if_neg e2]
          by_cases h5 : (c : Int) - 48 < 5
          · rw [if_pos h5, decide_eq_false (by omega)]
            rfl
          · rw [if_neg h5, decide_eq_true (by omega)]
            rfl
        · repeat walk_at "z"
          rw [← et]
          exact ⟨_, _, rfl, rfl⟩
      · have e2 : i % 2 = 1 := by
          have := beq_eq_false_iff_ne.mp he
          omega
        have e3 : wt i ((c : Int) - 48) = (c : Int) - 48 := if_pos e2
        rw [e3] at et
        repeat walk_at "z"
        rw [← et]
        exact ⟨_, _, rfl, rfl⟩
    · rintro ε' L' ⟨kk, fg, rfl, rfl⟩
      rw [rng_len]
      have e : z.cps.toList.take (Int.toNat z.length) = z.cps.toList := List.take_of_length_le (by omega)
      rw [e]
      repeat walk_at "z"
      exact rt_dat hq

end
end W04

set_option Elab.async false
set_option linter.all false
set_option maxRecDepth 100000
set_option maxHeartbeats 4000000
namespace W04
open PySem PySem.Spec PyProof.Rows L2 Z
local macro_rules | `(tactic| walk_at "z") => `(tactic| first
  | with_reducible refine hs_seq ?_
  | with_reducible refine hs_asg ?_
  | with_reducible refine hs_ret ?_
  | with_reducible refine hs_if ?_
  | with_reducible refine hs_drop ?_
  | with_reducible refine hs_next ?_
  | ((with_reducible refine cp_var (r := ?zr) ?zh ?_); (case zh => exact rfl))
  | with_reducible refine cp_int ?_
  | with_reducible refine cp_str ?_
  | with_reducible refine cp_bl ?_
  | with_reducible refine cp_non ?_
  | with_reducible refine cp_ref ?_
  | with_reducible refine cp_ty ?_
  | with_reducible refine cp_op ?_
  | with_reducible refine cp_un ?_
  | with_reducible refine cp_cb ?_
  | with_reducible refine ca_nil ?_
  | with_reducible refine ca_cons ?_
  | with_reducible refine cp_andV ?_
  | with_reducible refine cp_orV ?_
  | with_reducible refine cp_notV ?_
  | with_reducible refine cp_if ?_
  | with_reducible refine cp_call ?_
  | with_reducible refine cp_callS ?_
  | with_reducible refine ct_test ?_
  | with_reducible refine ct_b ?_
  | with_reducible refine ct_and ?_
  | with_reducible refine ct_or ?_
  | with_reducible refine ct_not ?_
  | with_reducible refine ct_yes ?_
  | with_reducible refine cg_name ?_
  | with_reducible refine cp_lst ?_
  | with_reducible refine cp_tup ?_
  | refine cp_bm ?_
  | refine cp_bm0 ?_
  | refine ⟨(show rsTy _ (Rs.own _) _ from rfl), ?_⟩
  | refine ⟨(show rsTy _ (Rs.dat _) _ from ⟨rfl, by decide⟩), ?_⟩
  | refine od_add_int ?_
  | refine od_sub ?_
  | refine od_lt_int ?_
  | refine od_gt ?_
  | refine od_le ?_
  | refine od_ge ?_
  | refine od_eq_int ?_
  | refine od_eq_str ?_
  | refine od_eq_bool ?_
  | refine od_ne_int ?_
  | refine od_ne_str ?_
  | refine od_ne_bool ?_
  | refine od_mod (by decide) ?_
  | refine od_pow ⟨by decide, by decide, by decide⟩ ?_
  | refine od_fdiv ⟨by decide, by decide⟩ ?_
  | refine od_mulY_int (.inr ⟨by decide, by decide⟩) ?_
  | refine od_mulY_int (.inl ⟨by decide, by decide⟩) ?_
  | refine od_in_sign ?_
  | refine od_notIn_sign ?_
  | refine od_is_bool ?_
  | refine od_isNot_bool ?_
  | refine od_is_none ?_
  | refine od_isNot_none ?_
  | refine cd_len_lst ?_
  | refine cd_len_tup ?_
  | refine cd_int_int ?_
  | refine cd_int_bool ?_
  | refine cd_abs ?_
  | refine cd_neg ?_
  | refine cd_isi (by decide) ?_
  | refine ⟨_, rfl, ?_⟩
  | refine ⟨_, _, rfl, ?_⟩
  | refine ⟨[], rfl, szl _ (Nat.le_trans (Nat.le_of_eq (show _ = 0 from rfl)) (by decide)), ?_⟩
  | refine ⟨[_], rfl, szl _ (Nat.le_trans (Nat.le_of_eq (show _ = 1 from rfl)) (by decide)), ?_⟩
  | refine ⟨[_, _], rfl, szl _ (Nat.le_trans (Nat.le_of_eq (show _ = 2 from rfl)) (by decide)), ?_⟩
  | refine ⟨[_, _, _], rfl, szl _ (Nat.le_trans (Nat.le_of_eq (show _ = 3 from rfl)) (by decide)), ?_⟩
  | refine ⟨[_, _, _, _], rfl, szl _ (Nat.le_trans (Nat.le_of_eq (show _ = 4 from rfl)) (by decide)), ?_⟩
  | refine ⟨[_, _, _, _, _], rfl, szl _ (Nat.le_trans (Nat.le_of_eq (show _ = 5 from rfl)) (by decide)), ?_⟩
  | refine ⟨[_, _, _, _, _, _], rfl, szl _ (Nat.le_trans (Nat.le_of_eq (show _ = 6 from rfl)) (by decide)), ?_⟩
  | refine ⟨[_, _, _, _, _, _, _], rfl, szl _ (Nat.le_trans (Nat.le_of_eq (show _ = 7 from rfl)) (by decide)), ?_⟩
  | refine ⟨[_, _, _, _, _, _, _, _], rfl, szl _ (Nat.le_trans (Nat.le_of_eq (show _ = 8 from rfl)) (by decide)), ?_⟩
  | refine ⟨[_, _, _, _, _, _, _, _, _], rfl, szl _ (Nat.le_trans (Nat.le_of_eq (show _ = 9 from rfl)) (by decide)), ?_⟩)
section
variable {P : Program} {w : World} {K : PySem.W.Frag} {mg : Str → Option Value} {base : Heap}
def strD (x : List Nat) : PyData := .str (ofL x)
def mendsD (l : List Nat) : List PyData := ((ex l).filter sound).map strD
def chS (c : Nat) : Str := if c = 63 then FIG else ⟨#[c]⟩
theorem chS_l (c : Nat) : (chS c).cps.toList = ch c := by
  unfold chS ch
  by_cases h : c = 63
  · rw [if_pos h, if_pos h, FIG_eq]
  · rw [if_neg h, if_neg h]
theorem chS_n (c : Nat) : (chS c).length ≤ 10 := by
  unfold chS
  split
  · decide +kernel
  · show 1 ≤ 10
    decide
theorem ch_n (c : Nat) : (ch c).length ≤ 10 := by
  unfold ch
  split
  · decide
  · show 1 ≤ 10
    decide
theorem fl_len (c : Nat) : ∀ F : List (List Nat), (F.flatMap fun s => (ch c).map fun d => s ++ [d]).length ≤ 10 * F.length
  | [] => Nat.zero_le _
  | a :: r => by
    have := fl_len c r
    have h := ch_n c
    rw [List.flatMap_cons, List.length_append, List.length_map, List.length_cons]
    omega
theorem fm_mk {α β : Type} (h : α → β) : ∀ l : List α, l.filterMap (fun c => some (h c)) = l.map h
  | [] => rfl
  | a :: r => by rw [List.filterMap_cons, List.map_cons, ← fm_mk h r]
theorem ex_max {l : List Nat} (h : l.count 63 ≤ 5) (i : Nat) : (ex (l.take i)).length ≤ 100000 := by
  rw [ex_size]
  have h2 : (l.take i).count 63 ≤ 5 := Nat.le_trans ((List.take_sublist i l).count_le 63) h
  exact Nat.le_trans (Nat.pow_le_pow_right (by decide) h2) (by decide)
theorem stepX_take {l : List Nat} {i c : Nat} (h : l[i]? = some c) : ex (l.take (i + 1)) = stepX (ex (l.take i)) c := by
  rw [← foldl_ex0, ← foldl_ex0, List.take_add_one, h, List.foldl_append]
  rfl
abbrev s__law_mends : Stmt := top 25
theorem sc__law_mends : FnScope ["damaged", "found", "sign", "longer", "start", "figure", "number"] ["damaged"] (defScope s__law_mends) := ⟨rfl, rfl, rfl, by decide +kernel, rfl, by decide +kernel, by decide +kernel⟩
abbrev ps__law_mends : List Str := ["damaged"]
def dLM : DSp := fun rs L k _ => ∃ l : List Nat, rs = [.dat (.str (ofL l))] ∧ l.length ≤ 12 ∧ l.count 63 ≤ 5 ∧ (∀ c ∈ l, okS c) ∧ k (.dat (.list (mendsD l))) L
theorem ok__law_mends {f : Addr} {fd : FuncData} (D : DefAt K mg "_law_mends" s__law_mends ps__law_mends f fd) (B_int : mg "int" = none) (H_1 : Has P w K mg base 1 "_law_is_sound" ps__law_is_sound dLSnd) : Has P w K mg base 2 "_law_mends" ps__law_mends dLM := by
  obtain ⟨_, _, g__law_is_sound, kp__law_is_sound, b__law_is_sound, G__law_is_sound⟩ := H_1
  refine ⟨f, fd, D.g, D.F.kp, D.b, fn_z D.F sc__law_mends (fun rs L k x h => ?_) fun cdv A outer s H E hr => ?_⟩
  · obtain ⟨v, rfl, _⟩ := h
    rfl
  · have nd := sc__law_mends.nd
    refine ⟨_, (pss_cons (ps_set (i := 1) nd rfl (by first | exact .inl rfl | exact .inr rfl) (pe_lst (pa_cons pe_str pa_nil)))
    (pss_cons (ps_for PassesOwn.never rfl (pi_sq (pv 0)) (pg_name (i := 2) nd rfl (by first | exact .inl rfl | exact .inr rfl))
      (pss_cons (ps_set (i := 3) nd rfl (by first | exact .inl rfl | exact .inr rfl) (pe_lst pa_nil))
      (pss_cons (ps_for PassesOwn.never rfl (pi_sq (pv 1)) (pg_name (i := 4) nd rfl (by first | exact .inl rfl | exact .inr rfl))
        (pss_one (ps_set (i := 3) nd rfl (by first | exact .inl rfl | exact .inr rfl) (pe_op op_addZ (pv 3) (pe_lc (own := [("figure", 5)]) rfl nd (pi_sq (pe_ix ix_seq (pe_lst (pa_cons pe_str (pa_cons (pv 2) pa_nil))) (pe_callTy call_intZ (by rfl) B_int (by decide +kernel) (pa_cons (pe_cmpR (op_neZ hr.units) (pv 2) pe_str (nomark _)) pa_nil)) (fun _ _ => rfl))) (blkOk_by (own := [("figure", 5)]) (N := ["damaged", "found", "sign", "longer", "start", "figure", "number"]) (sc := defScope s__law_mends) (by decide +kernel)) (fun _ _ _ _ _ => (pg_name (i := 5) nd rfl (by first | exact .inl rfl | exact .inr rfl))) (fun _ _ _ _ _ => pts_nil) (fun _ _ _ _ _ => (pe_op (opK (r := rAddZ) (K := K) op_addZ (by rfl)) (pv 4) (pv 5))))))))
      (pss_one (ps_set (i := 1) nd rfl (by first | exact .inl rfl | exact .inr rfl) (pv 3))))))
    (pss_one (ps_ret (pe_lc (own := [("number", 6)]) rfl nd (pi_sq (pv 1)) (blkOk_by (own := [("number", 6)]) (N := ["damaged", "found", "sign", "longer", "start", "figure", "number"]) (sc := defScope s__law_mends) (by decide +kernel)) (fun _ _ _ _ _ => (pg_name (i := 6) nd rfl (by first | exact .inl rfl | exact .inr rfl))) (fun _ _ _ _ _ => (pts_one (pt_val (pe_call G__law_is_sound (hr.mono (by decide)) (by rfl) g__law_is_sound kp__law_is_sound b__law_is_sound .nil pass0 (pa_cons (pv 6) pa_nil))))) (fun _ _ _ _ _ => (pv 6))))))), fun rs L q x h => ?_⟩
    obtain ⟨l, rfl, hl, h5, hf, hq⟩ := h
    repeat walk_at "z"
    refine hs_for ?_
    refine ci_sq ?_
    repeat walk_at "z"
    refine ⟨_, .str _, fun i ε' L' => ∃ x2 x3 x4, ε' = [some (.dat (.str (ofL l))), some (.dat (.list ((ex (l.take i)).map strD))), x2, x3, x4, none, none] ∧ L' = L, ⟨_, _, _, rfl, rfl⟩, ?_, ?_⟩
    · rintro i d ε' L' hd ⟨x2, x3, x4, rfl, rfl⟩
      obtain ⟨c, ec, rfl⟩ := map_get hd
      have ec : l[i]? = some c := ec
      refine cg_name ?_
      repeat walk_at "z"
      refine hs_for ?_
      refine ci_sq ?_
      repeat walk_at "z"
      refine ⟨_, .lst _, fun j ε' L2 => ∃ x4, ε' = [some (.dat (.str (ofL l))), some (.dat (.list ((ex (l.take i)).map strD))), some (.dat (sgn c)), some (.dat (.list ((((ex (l.take i)).take j).flatMap fun s => (ch c).map fun d => s ++ [d]).map strD))), x4, none, none] ∧ L2 = L', ⟨_, rfl, rfl⟩, ?_, ?_⟩
      · rintro j d ε' L2 hd ⟨x4, rfl, rfl⟩
        obtain ⟨x, ex1, rfl⟩ := map_get hd
        have hx : x.length ≤ 12 := by
          have := ex_len (List.mem_of_getElem? ex1)
          rw [List.length_take] at this
          omega
        have hj : j < (ex (l.take i)).length := (List.getElem?_eq_some_iff.mp ex1).1
        have hm := ex_max h5 i
        refine cg_name ?_
        repeat walk_at "z"
        refine cp_lcM Nat ?_ gown_name
        refine ci_sq ?_
        repeat walk_at "z"
        refine od_ix_lst (d := .str (chS c)) ?_ ?_
        · rw [q_eq]
          unfold chS
          by_cases h : c = 63
          · rw [decide_eq_true h, if_pos h]
            rfl
          · rw [decide_eq_false h, if_neg h]
            rfl
        · have hc := chS_n c
          refine ⟨_, .str _, sz _ ?_, (chS c).cps.toList, sgn, fun d => some (strD (x ++ [d])), rfl, fun d hd acc p hp => ?_, ?_⟩
          · rw [List.length_map, Array.length_toList]
            exact Nat.lt_of_le_of_lt hc (by decide)
          · refine cg_name ⟨rfl, ct_yes ⟨rfl, ite_t ?_⟩⟩
            repeat walk_at "z"
            refine od_add_str (szl _ ?_) ?_
            · show x.length + 1 ≤ _
              omega
            · exact ⟨rfl, _, rfl, congrArg some (congrArg PyData.str (ofL_app x d).symm)⟩
          · rw [fm_mk, chS_l]
            have e : ((((ex (l.take i)).take (j + 1)).flatMap fun s => (ch c).map fun d => s ++ [d]).map strD) = ((((ex (l.take i)).take j).flatMap fun s => (ch c).map fun d => s ++ [d]).map strD) ++ (ch c).map fun d => strD (x ++ [d]) := by
              rw [List.take_add_one, ex1, List.flatMap_append, List.map_append]
              simp
            refine od_add_lst (szl _ ?_) ?_
            · rw [List.length_map, List.length_map]
              have h1 := fl_len c ((ex (l.take i)).take j)
              rw [List.length_take] at h1
              have h2 := ch_n c
              omega
            · rw [← e]
              repeat walk_at "z"
              first | exact rfl | exact ⟨_, rfl, rfl⟩
      · rintro ε' L2 ⟨x4, rfl, rfl⟩
        rw [List.length_map, List.take_length]
        repeat walk_at "z"
        refine ⟨some (.dat (sgn c)), some (Rs.dat (.list ((stepX (ex (l.take i)) c).map strD))), x4, ?_, rfl⟩
        rw [stepX_take ec]
        rfl
    · rintro ε' L2 ⟨x2, x3, x4, rfl, rfl⟩
      have e : l.take (List.map sgn (ofL l).cps.toList).length = l := List.take_of_length_le (by rw [List.length_map]; exact Nat.le_refl _)
      rw [e]
      have hm := ex_max h5 l.length
      rw [List.take_length] at hm
      repeat walk_at "z"
      refine cp_lcM (List Nat) ?_ gown_name
      refine ci_sq ?_
      repeat walk_at "z"
      refine ⟨_, .lst _, sz _ (by rw [List.length_map]; omega), ex l, strD, fun x => if sound x = true then some (strD x) else none, rfl, fun x hx acc p hp => ?_, ?_⟩
      · have hl := ex_len hx
        refine cg_name ⟨rfl, ?_⟩
        repeat walk_at "z"
        refine ⟨by show x.length ≤ _; omega, ex_fig hf hx, ?_⟩
        refine ⟨_, rfl, rfl, ite_b (fun hc => ?_) fun hc => ?_⟩
        · repeat walk_at "z"
          exact ⟨rfl, _, rfl, if_pos hc⟩
        · exact if_neg (by rw [show sound x = false from hc]; decide)
      · rw [fm_if]
        repeat walk_at "z"
        exact rt_dat hq
theorem ixN_of {n j : Nat} (hj : j < n) : ixN n (j : Int) = some j := by
  have h : (j : Int) < (n : Int) := by omega
  simp [ixN, h]
abbrev s__law_damaged : Stmt := top 27
theorem sc__law_damaged : FnScope ["draws", "count", "signs", "k", "turn"] ["draws", "count"] (defScope s__law_damaged) := ⟨rfl, rfl, rfl, by decide +kernel, rfl, by decide +kernel, by decide +kernel⟩
abbrev ps__law_damaged : List Str := ["draws", "count"]
def dDam : DSp := fun rs L k _ => ∃ (l : Addr) (n : Nat), rs = [.own l, .dat (.int (n : Int))] ∧ (l, .drw) ∈ L ∧ ∀ ys : List Nat, ys.length = 12 → (∀ c ∈ ys, okS c) → ys.count 63 ≤ n → k (.dat (.str (ofL ys))) L
def c1 (c : Nat) : Str := ⟨#[c]⟩
theorem sgn_c1 (ys : List Nat) : ys.map sgn = (ys.map c1).map PyData.str := by
  rw [List.map_map]
  rfl
theorem join_c1 : ∀ ys : List Nat, Txt.join "" (ys.map c1) = ofL ys := by
  intro ys
  show Builtin.Str.glued "" (ys.map c1) = _
  rw [StrLaws.glued_eq_join]
  have e0 : ("" : Str) = ⟨#[]⟩ := by decide +kernel
  rw [e0]
  induction ys with
  | nil => rfl
  | cons c t ih =>
    cases t with
    | nil => rfl
    | cons d r =>
      show (c1 c ++ (⟨#[]⟩ : Str)) ++ Str.join ⟨#[]⟩ ((d :: r).map c1) = _
      rw [ih]
      show (⟨(#[c] ++ #[]) ++ (d :: r).toArray⟩ : Str) = ⟨(c :: d :: r).toArray⟩
      congr 1
      simp
theorem count_c1 (ys : List Nat) : (ys.map c1).count ("?" : Str) = ys.count 63 := by
  induction ys with
  | nil => rfl
  | cons c t ih =>
    rw [List.map_cons, List.count_cons, List.count_cons, ih]
    show _ + (if ((⟨#[c]⟩ : Str) == "?") = true then 1 else 0) = _
    rw [q_eq]
    by_cases h : c = 63
    · rw [if_pos (by simpa using h), if_pos (by simpa using h)]
    · rw [if_neg (by simpa using h), if_neg (by simpa using h)]
theorem count_set (a : Nat) : ∀ (ys : List Nat) (j : Nat), (ys.set j a).count a ≤ ys.count a + 1
  | [], _ => Nat.zero_le _
  | c :: t, 0 => by
    rw [List.set_cons_zero, List.count_cons, List.count_cons]
    split <;> split <;> omega
  | c :: t, j + 1 => by
    have := count_set a t j
    rw [List.set_cons_succ, List.count_cons, List.count_cons]
    omega
theorem sum_len (ys : List Nat) : ((ys.map c1).map (·.length)).sum = ys.length := by
  induction ys with
  | nil => rfl
  | cons c t ih =>
    rw [List.map_cons, List.map_cons, List.sum_cons, ih, List.length_cons]
    show 1 + _ = _
    omega
theorem ok__law_damaged {f : Addr} {fd : FuncData} (D : DefAt K mg "_law_damaged" s__law_damaged ps__law_damaged f fd) (B_range : mg "range" = none) (H_1 : Has P w K mg base 1 "_law_take" ps__law_take dTake) (H_2 : Has P w K mg base 2 "_law_pick" ps__law_pick dPick) : Has P w K mg base 3 "_law_damaged" ps__law_damaged dDam := by
  obtain ⟨_, _, g__law_take, kp__law_take, b__law_take, G__law_take⟩ := H_1
  obtain ⟨_, _, g__law_pick, kp__law_pick, b__law_pick, G__law_pick⟩ := H_2
  refine ⟨f, fd, D.g, D.F.kp, D.b, fn_z D.F sc__law_damaged (fun rs L k x h => ?_) fun cdv A outer s H E hr => ?_⟩
  · obtain ⟨l, n, rfl, _⟩ := h
    rfl
  · have nd := sc__law_damaged.nd
    refine ⟨_, (pss_cons (ps_setLc (i := 2) (own := [("k", 3)]) rfl nd rfl rfl (sw_true rfl rfl rfl (by decide +kernel)) (pi_range1 (by rfl) B_range (pa_cons pe_int pa_nil)) (blkOk_by (own := [("k", 3)]) (N := ["draws", "count", "signs", "k", "turn"]) (sc := defScope s__law_damaged) (by decide +kernel)) (fun _ _ _ _ _ => (pg_name (i := 3) nd rfl (by first | exact .inl rfl | exact .inr rfl))) (fun _ _ _ _ _ => pts_nil) (fun _ _ _ _ _ => (pe_call G__law_pick (hr.mono (by decide)) (by rfl) g__law_pick kp__law_pick b__law_pick .nil pass0 (pa_cons (pv 0) (pa_cons pe_str pa_nil)))))
    (pss_cons (ps_for PassesOwn.never rfl (pi_range1 (by rfl) B_range (pa_cons pe_int pa_nil)) (pg_name (i := 4) nd rfl (by first | exact .inl rfl | exact .inr rfl))
      (pss_one (ps_if (pt_cmpR op_ltZ (pe_bm PySem.F.plainAttrs_list PySem.F.slot_list_count PySem.F.type_list_count mt_cntS (pv 2) (pa_cons pe_str pa_nil)) (pv 1) (nomark _)) (pss_one (ps_asg pe_str (pg_sub (pv 2) (pe_call G__law_take (hr.mono (by decide)) (by rfl) g__law_take kp__law_take b__law_take .nil pass0 (pa_cons (pv 0) (pa_cons pe_int pa_nil))) set_list))) pss_nil)))
    (pss_one (ps_ret (pe_bm PySem.F.plainAttrs_str PySem.F.slot_str_join PySem.F.type_str_join mt_join pe_str (pa_cons (pv 2) pa_nil)))))), fun rs L q x h => ?_⟩
    obtain ⟨l, n, rfl, m, hq⟩ := h
    refine hs_seq ?_
    refine hs_asg ?_
    refine cp_lcO ?_ gown_name
    refine ci_range1 ?_
    repeat walk_at "z"
    refine ⟨by decide, sz _ (by rw [rng_len]; decide), fun i acc => ∃ ys : List Nat, acc = ys.map sgn ∧ ys.length = i ∧ ∀ c ∈ ys, c ∈ figs, ⟨[], rfl, rfl, fun _ h => nomatch h⟩, ?_, ?_⟩
    · rintro i d acc p hd ⟨ys, rfl, hl, hf⟩ hp
      refine cg_name ⟨rfl, ct_yes ⟨rfl, ite_t ?_⟩⟩
      repeat walk_at "z"
      refine ⟨l, plus_old m, .inl ⟨_, rfl, by decide +kernel, by decide +kernel, fun c hc => ?_⟩⟩
      have hc : c ∈ figs := by
        rw [← FIG_eq]
        exact hc
      refine ⟨rfl, _, rfl, ys ++ [c], (by rw [List.map_append]; rfl), by rw [List.length_append, hl]; rfl, fun z hz => ?_⟩
      rcases List.mem_append.mp hz with h | h
      · exact hf z h
      · rw [List.mem_singleton.mp h]
        exact hc
    · rintro acc ⟨ys, rfl, hl, hf⟩ p hp
      rw [rng_len] at hl
      have hlp : l ≠ p := fun e => hp (by rw [← e]; exact Led.key m)
      repeat walk_at "z"
      refine hs_for ?_
      refine ci_range1 ?_
      repeat walk_at "z"
      refine ⟨by decide, fun i ε' L' => ∃ (ys : List Nat) (x4 : Option Rs), ys.length = 12 ∧ (∀ c ∈ ys, okS c) ∧ ys.count 63 ≤ n ∧ ε' = [some (.own l), some (.dat (.int (n : Int))), some (.own p), none, x4] ∧ L' = plus L p (ys.map sgn), ⟨ys, _, hl, fun c hc => .inl (hf c hc), ?_, rfl, rfl⟩, ?_, ?_⟩
      · have : ys.count 63 = 0 := List.count_eq_zero.mpr fun h => absurd (hf 63 h) (by decide)
        omega
      · rintro i d ε' L' hd ⟨ys, x4, hl, hf, hn, rfl, rfl⟩
        refine cg_name ?_
        repeat walk_at "z"
        refine md_cntS (ys := ys.map c1) (by rw [← sgn_c1]; exact plus_mem) ?_
        rw [count_c1]
        repeat walk_at "z"
        refine ite_b (fun hc => ?_) fun hc => ?_
        · have hc := of_decide_eq_true hc
          refine hs_setL ?_
          repeat walk_at "z"
          refine ⟨plus_old m, by decide, fun j j0 j1 => ⟨ys.map sgn, j, j.toNat, rfl, plus_mem, ?_, ?_⟩⟩
          · have e := ixN_of (n := (ys.map sgn).length) (j := j.toNat) (by rw [List.length_map, hl]; omega)
            rw [Int.toNat_of_nonneg j0] at e
            exact e
          · rw [up_plus hp]
            have e : (ys.map sgn).set j.toNat (.str "?") = (ys.set j.toNat 63).map sgn := by
              rw [List.map_set]
              congr 1
            rw [e]
            refine ⟨_, _, by rw [List.length_set]; exact hl, fun c hc => ?_, ?_, rfl, rfl⟩
            · rcases List.mem_or_eq_of_mem_set hc with h | h
              · exact hf c h
              · exact .inr h
            · have := count_set 63 ys j.toNat
              omega
        · repeat walk_at "z"
          exact ⟨ys, _, hl, hf, hn, rfl, rfl⟩
      · rintro ε' L' ⟨ys, x4, hl, hf, hn, rfl, rfl⟩
        repeat walk_at "z"
        refine md_joinO (ys := ys.map c1) (by rw [← sgn_c1]; exact plus_mem) ?_ ?_
        · rw [sum_len, List.length_map, hl]
          decide +kernel
        · rw [join_c1]
          exact rt_plus (hq ys hl hf hn)

end
end W04

set_option Elab.async false
set_option linter.all false
set_option maxRecDepth 100000
set_option maxHeartbeats 4000000
namespace W04
open PySem PySem.Spec PyProof.Rows L2 Z
local macro_rules | `(tactic| walk_at "z") => `(tactic| first
  | with_reducible refine hs_seq ?_
  | with_reducible refine hs_asg ?_
  | with_reducible refine hs_ret ?_
  | with_reducible refine hs_if ?_
  | with_reducible refine hs_drop ?_
  | with_reducible refine hs_next ?_
  | ((with_reducible refine cp_var (r := ?zr) ?zh ?_); (case zh => exact rfl))
  | with_reducible refine cp_int ?_
  | with_reducible refine cp_str ?_
  | with_reducible refine cp_bl ?_
  | with_reducible refine cp_non ?_
  | with_reducible refine cp_ref ?_
  | with_reducible refine cp_ty ?_
  | with_reducible refine cp_op ?_
  | with_reducible refine cp_un ?_
  | with_reducible refine cp_cb ?_
  | with_reducible refine ca_nil ?_
  | with_reducible refine ca_cons ?_
  | with_reducible refine cp_andV ?_
  | with_reducible refine cp_orV ?_
  | with_reducible refine cp_notV ?_
  | with_reducible refine cp_if ?_
  | with_reducible refine cp_call ?_
  | with_reducible refine cp_callS ?_
  | with_reducible refine ct_test ?_
  | with_reducible refine ct_b ?_
  | with_reducible refine ct_and ?_
  | with_reducible refine ct_or ?_
  | with_reducible refine ct_not ?_
  | with_reducible refine ct_yes ?_
  | with_reducible refine cg_name ?_
  | with_reducible refine cp_lst ?_
  | with_reducible refine cp_tup ?_
  | refine cp_bm ?_
  | refine cp_bm0 ?_
  | refine ⟨(show rsTy _ (Rs.own _) _ from rfl), ?_⟩
  | refine ⟨(show rsTy _ (Rs.dat _) _ from ⟨rfl, by decide⟩), ?_⟩
  | refine od_add_int ?_
  | refine od_sub ?_
  | refine od_lt_int ?_
  | refine od_gt ?_
  | refine od_le ?_
  | refine od_ge ?_
  | refine od_eq_int ?_
  | refine od_eq_str ?_
  | refine od_eq_bool ?_
  | refine od_ne_int ?_
  | refine od_ne_str ?_
  | refine od_ne_bool ?_
  | refine od_mod (by decide) ?_
  | refine od_pow ⟨by decide, by decide, by decide⟩ ?_
  | refine od_fdiv ⟨by decide, by decide⟩ ?_
  | refine od_mulY_int (.inr ⟨by decide, by decide⟩) ?_
  | refine od_mulY_int (.inl ⟨by decide, by decide⟩) ?_
  | refine od_in_sign ?_
  | refine od_notIn_sign ?_
  | refine od_is_bool ?_
  | refine od_isNot_bool ?_
  | refine od_is_none ?_
  | refine od_isNot_none ?_
  | refine cd_len_lst ?_
  | refine cd_len_tup ?_
  | refine cd_int_int ?_
  | refine cd_int_bool ?_
  | refine cd_abs ?_
  | refine cd_neg ?_
  | refine cd_isi (by decide) ?_
  | refine ⟨_, rfl, ?_⟩
  | refine ⟨_, _, rfl, ?_⟩
  | refine ⟨[], rfl, szl _ (Nat.le_trans (Nat.le_of_eq (show _ = 0 from rfl)) (by decide)), ?_⟩
  | refine ⟨[_], rfl, szl _ (Nat.le_trans (Nat.le_of_eq (show _ = 1 from rfl)) (by decide)), ?_⟩
  | refine ⟨[_, _], rfl, szl _ (Nat.le_trans (Nat.le_of_eq (show _ = 2 from rfl)) (by decide)), ?_⟩
  | refine ⟨[_, _, _], rfl, szl _ (Nat.le_trans (Nat.le_of_eq (show _ = 3 from rfl)) (by decide)), ?_⟩
  | refine ⟨[_, _, _, _], rfl, szl _ (Nat.le_trans (Nat.le_of_eq (show _ = 4 from rfl)) (by decide)), ?_⟩
  | refine ⟨[_, _, _, _, _], rfl, szl _ (Nat.le_trans (Nat.le_of_eq (show _ = 5 from rfl)) (by decide)), ?_⟩
  | refine ⟨[_, _, _, _, _, _], rfl, szl _ (Nat.le_trans (Nat.le_of_eq (show _ = 6 from rfl)) (by decide)), ?_⟩
  | refine ⟨[_, _, _, _, _, _, _], rfl, szl _ (Nat.le_trans (Nat.le_of_eq (show _ = 7 from rfl)) (by decide)), ?_⟩
  | refine ⟨[_, _, _, _, _, _, _, _], rfl, szl _ (Nat.le_trans (Nat.le_of_eq (show _ = 8 from rfl)) (by decide)), ?_⟩
  | refine ⟨[_, _, _, _, _, _, _, _, _], rfl, szl _ (Nat.le_trans (Nat.le_of_eq (show _ = 9 from rfl)) (by decide)), ?_⟩
  | with_reducible refine ite_t ?_
  | refine ite_t ?_
  | refine ite_f ?_)
section
variable {P : Program} {w : World} {K : PySem.W.Frag} {mg : Str → Option Value} {base : Heap}
abbrev s__law_same : Stmt := top 22
theorem sc__law_same : FnScope ["actual", "due", "k", "key"] ["actual", "due"] (defScope s__law_same) := ⟨rfl, rfl, rfl, by decide +kernel, rfl, by decide +kernel, by decide +kernel⟩
abbrev ps__law_same : List Str := ["actual", "due"]
theorem ok__law_same {f : Addr} {fd : FuncData} (D : DefAt K mg "_law_same" s__law_same ps__law_same f fd) (B_len : mg "len" = none) (B_range : mg "range" = none) (B_isinstance : mg "isinstance" = none) (B_tuple : mg "tuple" = none) (B_list : mg "list" = none) (B_dict : mg "dict" = none) (B_bool : mg "bool" = none) (B_int : mg "int" = none) (B_str : mg "str" = none) :
    ∀ n, Has P w K mg base n "_law_same" ps__law_same (dSame n)
  | 0 => ⟨f, fd, D.g, D.F.kp, D.b, ⟨fun vs H Q E h => by
      obtain ⟨_, _, _, _, _, _, h, _⟩ := h
      exact h.elim, fun A outer s H args us vs Q E _ _ _ _ h => by
      obtain ⟨_, _, _, _, _, _, h, _⟩ := h
      exact h.elim⟩⟩
  | n + 1 => by
    obtain ⟨_, _, g__law_same, kp__law_same, b__law_same, G__law_same⟩ := ok__law_same D B_len B_range B_isinstance B_tuple B_list B_dict B_bool B_int B_str n
    refine ⟨f, fd, D.g, D.F.kp, D.b, fn_z D.F sc__law_same (fun rs L k x h => ?_) fun cdv A outer s H E hr => ?_⟩
    · obtain ⟨d, rfl, _⟩ := h
      rfl
    · have nd := sc__law_same.nd
      refine ⟨_, (pss_cons (ps_if (pt_cmpR op_isZ (pv 1) pe_non (nomark _)) (pss_one (ps_ret (pe_cmpR op_isZ (pv 0) pe_non (nomark _)))) pss_nil)
    (pss_cons (ps_if (PW.pt (pw_or (pt_val (pe_callB call_isi (by rfl) B_isinstance (by decide +kernel) (pa_cons (pv 1) (pa_cons (pe_bltn (v := .ty "tuple") (by rfl) B_tuple (by decide +kernel) rfl) pa_nil)))) (pw_or1 (pt_val (pe_callB call_isi (by rfl) B_isinstance (by decide +kernel) (pa_cons (pv 1) (pa_cons (pe_bltn (v := .ty "list") (by rfl) B_list (by decide +kernel) rfl) pa_nil))))))) (pss_cons (ps_if (PW.pt (pw_or (pt_cmpR (op_neZ hr.units) (pe_callB call_isi (by rfl) B_isinstance (by decide +kernel) (pa_cons (pv 1) (pa_cons (pe_bltn (v := .ty "tuple") (by rfl) B_tuple (by decide +kernel) rfl) pa_nil))) (pe_callB call_isi (by rfl) B_isinstance (by decide +kernel) (pa_cons (pv 0) (pa_cons (pe_bltn (v := .ty "tuple") (by rfl) B_tuple (by decide +kernel) rfl) pa_nil))) (nomark _)) (pw_or1 (pt_cmpR (op_neZ hr.units) (pe_callB call_isi (by rfl) B_isinstance (by decide +kernel) (pa_cons (pv 1) (pa_cons (pe_bltn (v := .ty "list") (by rfl) B_list (by decide +kernel) rfl) pa_nil))) (pe_callB call_isi (by rfl) B_isinstance (by decide +kernel) (pa_cons (pv 0) (pa_cons (pe_bltn (v := .ty "list") (by rfl) B_list (by decide +kernel) rfl) pa_nil))) (nomark _))))) (pss_one (ps_ret pe_bl)) pss_nil)
      (pss_cons (ps_if (pt_cmpR (op_neZ hr.units) (pe_callB call_lenZ (by rfl) B_len (by decide +kernel) (pa_cons (pv 0) pa_nil)) (pe_callB call_lenZ (by rfl) B_len (by decide +kernel) (pa_cons (pv 1) pa_nil)) (nomark _)) (pss_one (ps_ret pe_bl)) pss_nil)
      (pss_cons (ps_for PassesOwn.never rfl (pi_range1 (by rfl) B_range (pa_cons (pe_callB call_lenZ (by rfl) B_len (by decide +kernel) (pa_cons (pv 1) pa_nil)) pa_nil)) (pg_name (i := 2) nd rfl (by first | exact .inl rfl | exact .inr rfl))
        (pss_one (ps_if (pt_not (pt_val (pe_call G__law_same (hr.mono (by first | decide | omega)) (by rfl) g__law_same kp__law_same b__law_same .nil pass0 (pa_cons (pe_ix ix_seq (pv 0) (pv 2) (fun _ _ => rfl)) (pa_cons (pe_ix ix_seq (pv 1) (pv 2) (fun _ _ => rfl)) pa_nil))))) (pss_one (ps_ret pe_bl)) pss_nil)))
      (pss_one (ps_ret pe_bl))))) pss_nil)
    (pss_cons (ps_if (pt_val (pe_callB call_isi (by rfl) B_isinstance (by decide +kernel) (pa_cons (pv 1) (pa_cons (pe_bltn (v := .ty "dict") (by rfl) B_dict (by decide +kernel) rfl) pa_nil)))) (pss_cons (ps_if (PW.pt (pw_or (pt_not (pt_val (pe_callB call_isi (by rfl) B_isinstance (by decide +kernel) (pa_cons (pv 0) (pa_cons (pe_bltn (v := .ty "dict") (by rfl) B_dict (by decide +kernel) rfl) pa_nil))))) (pw_or1 (pt_cmpR (op_neZ hr.units) (pe_callB call_lenZ (by rfl) B_len (by decide +kernel) (pa_cons (pv 0) pa_nil)) (pe_callB call_lenZ (by rfl) B_len (by decide +kernel) (pa_cons (pv 1) pa_nil)) (nomark _))))) (pss_one (ps_ret pe_bl)) pss_nil)
      (pss_one (ps_ret (pe_cmpR (op_eqZ hr.units) (pe_lc (own := [("key", 3)]) rfl nd (pi_sq (pv 1)) (blkOk_by (own := [("key", 3)]) (N := ["actual", "due", "k", "key"]) (sc := defScope s__law_same) (by decide +kernel)) (fun _ _ _ _ _ => (pg_name (i := 3) nd rfl (by first | exact .inl rfl | exact .inr rfl))) (fun _ _ _ _ _ => (pts_one (PW.pt (pw_or (pt_cmpR (opK (r := rNotInZ) (K := K) op_notInZ (by rfl)) (pv 3) (pv 0) (by rfl)) (pw_or1 (pt_not (pt_val (pe_call G__law_same (hr.mono (by first | decide | omega)) (by rfl) g__law_same kp__law_same b__law_same .nil pass0 (pa_cons (pe_ix (ixK (r := rIx) (K := K) ix_seq (by rfl)) (pv 0) (pv 3) (fun _ _ => rfl)) (pa_cons (pe_ix (ixK (r := rIx) (K := K) ix_seq (by rfl)) (pv 1) (pv 3) (fun _ _ => rfl)) pa_nil)))))))))) (fun _ _ _ _ _ => (pv 3))) (pe_lst pa_nil) (nomark _))))) pss_nil)
    (pss_cons (ps_if (pt_cmpR (op_neZ hr.units) (pe_callB call_isi (by rfl) B_isinstance (by decide +kernel) (pa_cons (pv 1) (pa_cons (pe_bltn (v := .ty "bool") (by rfl) B_bool (by decide +kernel) rfl) pa_nil))) (pe_callB call_isi (by rfl) B_isinstance (by decide +kernel) (pa_cons (pv 0) (pa_cons (pe_bltn (v := .ty "bool") (by rfl) B_bool (by decide +kernel) rfl) pa_nil))) (nomark _)) (pss_one (ps_ret pe_bl)) pss_nil)
    (pss_cons (ps_if (PW.pt (pw_or (pt_cmpR (op_neZ hr.units) (pe_callB call_isi (by rfl) B_isinstance (by decide +kernel) (pa_cons (pv 1) (pa_cons (pe_bltn (v := .ty "int") (by rfl) B_int (by decide +kernel) rfl) pa_nil))) (pe_callB call_isi (by rfl) B_isinstance (by decide +kernel) (pa_cons (pv 0) (pa_cons (pe_bltn (v := .ty "int") (by rfl) B_int (by decide +kernel) rfl) pa_nil))) (nomark _)) (pw_or1 (pt_cmpR (op_neZ hr.units) (pe_callB call_isi (by rfl) B_isinstance (by decide +kernel) (pa_cons (pv 1) (pa_cons (pe_bltn (v := .ty "str") (by rfl) B_str (by decide +kernel) rfl) pa_nil))) (pe_callB call_isi (by rfl) B_isinstance (by decide +kernel) (pa_cons (pv 0) (pa_cons (pe_bltn (v := .ty "str") (by rfl) B_str (by decide +kernel) rfl) pa_nil))) (nomark _))))) (pss_one (ps_ret pe_bl)) pss_nil)
    (pss_one (ps_ret (pe_cmpR (op_eqZ hr.units) (pv 0) (pv 1) (nomark _))))))))), fun rs L q x h => ?_⟩
      obtain ⟨d, rfl, ok, hq⟩ := h
      cases d with
      | dict ds => cases n <;> exact ok.elim
      | none =>
        repeat walk_at "z"
        exact rt_dat hq
      | bool b =>
        repeat walk_at "z"
        rw [beq_self_eq_true]
        exact rt_dat hq
      | int b =>
        repeat walk_at "z"
        rw [beq_self_eq_true]
        exact rt_dat hq
      | str b =>
        repeat walk_at "z"
        rw [beq_self_eq_true]
        exact rt_dat hq
      | list ds =>
        repeat walk_at "z"
        rw [show (!((ds.length : Int) == (ds.length : Int))) = false from by rw [beq_self_eq_true]; rfl]
        repeat walk_at "z"
        have ok : ∃ m, n = m + 1 ∧ ds.length ≤ 1000000 ∧ ∀ d ∈ ds, okD m d := by
          cases n with
          | zero => exact ok.elim
          | succ m => exact ⟨m, rfl, ok⟩
        obtain ⟨m, rfl, hl, ok⟩ := ok
        refine hs_for ?_
        refine ci_range1 ?_
        repeat walk_at "z"
        refine ⟨by omega, fun i ε' L' => ∃ kk, ε' = [some (.dat (.list ds)), some (.dat (.list ds)), kk, none] ∧ L' = L, ⟨_, rfl, rfl⟩, ?_, ?_⟩
        · rintro i d ε' L' hd ⟨kk, rfl, rfl⟩
          obtain ⟨rfl, hi⟩ := rng_get hd
          have hi : i < ds.length := by omega
          have ec : ds[i]? = some ds[i] := List.getElem?_eq_getElem hi
          generalize ds[i] = e at ec
          rw [Int.zero_add]
          refine cg_name ?_
          repeat walk_at "z"
          refine od_ix_lst (atI_nat ec) ?_
          repeat walk_at "z"
          refine od_ix_lst (atI_nat ec) ?_
          repeat walk_at "z"
          refine ⟨ok e (List.mem_of_getElem? ec), ?_⟩
          repeat walk_at "z"
          first | exact rfl | exact ⟨_, rfl, rfl⟩
        · rintro ε' L' ⟨kk, rfl, rfl⟩
          repeat walk_at "z"
          exact rt_dat hq
      | tuple ds =>
        repeat walk_at "z"
        rw [show (!((ds.length : Int) == (ds.length : Int))) = false from by rw [beq_self_eq_true]; rfl]
        repeat walk_at "z"
        have ok : ∃ m, n = m + 1 ∧ ds.length ≤ 1000000 ∧ ∀ d ∈ ds, okD m d := by
          cases n with
          | zero => exact ok.elim
          | succ m => exact ⟨m, rfl, ok⟩
        obtain ⟨m, rfl, hl, ok⟩ := ok
        refine hs_for ?_
        refine ci_range1 ?_
        repeat walk_at "z"
        refine ⟨by omega, fun i ε' L' => ∃ kk, ε' = [some (.dat (.tuple ds)), some (.dat (.tuple ds)), kk, none] ∧ L' = L, ⟨_, rfl, rfl⟩, ?_, ?_⟩
        · rintro i d ε' L' hd ⟨kk, rfl, rfl⟩
          obtain ⟨rfl, hi⟩ := rng_get hd
          have hi : i < ds.length := by omega
          have ec : ds[i]? = some ds[i] := List.getElem?_eq_getElem hi
          generalize ds[i] = e at ec
          rw [Int.zero_add]
          refine cg_name ?_
          repeat walk_at "z"
          refine od_ix_tup (atI_nat ec) ?_
          repeat walk_at "z"
          refine od_ix_tup (atI_nat ec) ?_
          repeat walk_at "z"
          refine ⟨ok e (List.mem_of_getElem? ec), ?_⟩
          repeat walk_at "z"
          first | exact rfl | exact ⟨_, rfl, rfl⟩
        · rintro ε' L' ⟨kk, rfl, rfl⟩
          repeat walk_at "z"
          exact rt_dat hq
abbrev s__law_flags : Stmt := top 23
theorem sc__law_flags : FnScope ["e"] ["e"] (defScope s__law_flags) := ⟨rfl, rfl, rfl, by decide +kernel, rfl, by decide +kernel, by decide +kernel⟩
abbrev ps__law_flags : List Str := ["e"]
def cls5 (mg : Str → Option Value) (c1 c2 c3 c4 c5 : Addr) : Prop := mg "NotRight" = some (.ref c1) ∧ mg "NotThere" = some (.ref c2) ∧ mg "NoAnswer" = some (.ref c3) ∧ mg "TooLarge" = some (.ref c4) ∧ mg "Malformed" = some (.ref c5)
theorem ok__law_flags {f : Addr} {fd : FuncData} (D : DefAt K mg "_law_flags" s__law_flags ps__law_flags f fd) {C_NotRight C_NotThere C_NoAnswer C_TooLarge C_Malformed : Addr} (B_isinstance : mg "isinstance" = none) (G : cls5 mg C_NotRight C_NotThere C_NoAnswer C_TooLarge C_Malformed) : HasQ P w K mg base 1 "_law_flags" ps__law_flags (spFlags K [C_NotRight, C_NotThere, C_NoAnswer, C_TooLarge, C_Malformed]) := by
  obtain ⟨g_NotRight, g_NotThere, g_NoAnswer, g_TooLarge, g_Malformed⟩ := G
  refine ⟨f, fd, D.g, D.F.kp, D.b, fn_q D.F sc__law_flags (fun a D vs H Q E h => ?_) fun cdv A outer s H vs Q p D hr hz hf h => ?_⟩
  · obtain ⟨rfl, _⟩ := h
    rfl
  · obtain ⟨rfl, XC, bs, hp, hq⟩ := h
    have nd := sc__law_flags.nd
    refine ⟨_, (pss_one (ps_ret (pe_lst (pa_cons (pe_callB (call_isQ XC List.mem_cons_self hz hf) (by rfl) B_isinstance (by decide +kernel) (pa_cons (pv 0) (pa_cons (pe_glob (v := .ref C_NotRight) (by rfl) g_NotRight rfl) pa_nil))) (pa_cons (pe_callB (call_isQ XC List.mem_cons_self hz hf) (by rfl) B_isinstance (by decide +kernel) (pa_cons (pv 0) (pa_cons (pe_glob (v := .ref C_NotThere) (by rfl) g_NotThere rfl) pa_nil))) (pa_cons (pe_callB (call_isQ XC List.mem_cons_self hz hf) (by rfl) B_isinstance (by decide +kernel) (pa_cons (pv 0) (pa_cons (pe_glob (v := .ref C_NoAnswer) (by rfl) g_NoAnswer rfl) pa_nil))) (pa_cons (pe_callB (call_isQ XC List.mem_cons_self hz hf) (by rfl) B_isinstance (by decide +kernel) (pa_cons (pv 0) (pa_cons (pe_glob (v := .ref C_TooLarge) (by rfl) g_TooLarge rfl) pa_nil))) (pa_cons (pe_callB (call_isQ XC List.mem_cons_self hz hf) (by rfl) B_isinstance (by decide +kernel) (pa_cons (pv 0) (pa_cons (pe_glob (v := .ref C_Malformed) (by rfl) g_Malformed rfl) pa_nil))) pa_nil)))))))), ?_⟩
    cases hp with
    | cons h1 hp =>
      cases hp with
      | cons h2 hp =>
        cases hp with
        | cons h3 hp =>
          cases hp with
          | cons h4 hp =>
            cases hp with
            | cons h5 hp =>
              cases hp
              have v0 : ([some (V.ref p.1)] : L2.St)[0]? = some (some (V.ref p.1)) := rfl
              have one : ∀ (c : Addr) (b : Bool) (H : Hp) (Q : VK), PySem.W.kitOne K (.ref D) (.ref c) = some b → Q (.bl b) H → tCB (rIsE K D p.1) (tCons (tVar 0) (tCons (tC (.ref c)) tNil)) [some (V.ref p.1)] H Q := fun c b H Q hb q => ⟨_, v0, .ref c, .ref c, b, rfl, fun u r => r, hb, q⟩
              refine one _ _ _ _ h1 ?_
              refine one _ _ _ _ h2 ?_
              refine one _ _ _ _ h3 ?_
              refine one _ _ _ _ h4 ?_
              refine one _ _ _ _ h5 ?_
              exact ⟨szl _ (by show 5 ≤ 16777216; decide), hq⟩
abbrev s_check_is : Stmt := top 16
theorem sc_check_is : FnScope ["is_fine"] ["is_fine"] (defScope s_check_is) := ⟨rfl, rfl, rfl, by decide +kernel, rfl, by decide +kernel, by decide +kernel⟩
abbrev ps_check_is : List Str := ["is_fine"]
def dCheck (cN : Addr) : DSp := fun rs L k x => ∃ b, rs = [.dat (.bool b)] ∧ (b = true → k (.dat .none) L) ∧ (b = false → x cN L)
theorem ok_check_is {f : Addr} {fd : FuncData} (D : DefAt K mg "check_is" s_check_is ps_check_is f fd) {cN : Addr} (E_NotRight : ErrAt K mg "NotRight" cN) : HasX P w K mg base 1 "check_is" ps_check_is (dCheck cN) := by
  refine ⟨f, fd, D.g, D.F.kp, D.b, fn_zX D.F sc_check_is (fun rs L k x h => ?_) fun cdv A outer s H E hr => ?_⟩
  · obtain ⟨b, rfl, _⟩ := h
    rfl
  · have nd := sc_check_is.nd
    have tk : Takes (cxOf (L2.CX P w) P w K mg base ["is_fine"] "check_is" (defScope s_check_is) f cdv A outer s H E) (fun cls d _ H => E cls d H) := takes_of rfl rfl rfl rfl
    refine ⟨_, (pss_one (ps_if (pt_not (pt_val (pv 0))) (pss_one (ps_raise rfl tk (pmk_own PySem.F.excBase_ValueError E_NotRight.x E_NotRight.g E_NotRight.k (raises_own E_NotRight.s1 E_NotRight.s2) (by rfl)))) pss_nil)), fun rs L q x h => ?_⟩
    obtain ⟨b, rfl, h1, h2⟩ := h
    repeat walk_at "z"
    cases b with
    | true =>
      repeat walk_at "z"
      exact rt_dat (h1 rfl)
    | false =>
      repeat walk_at "z"
      exact hs_raise ⟨Keeps.refl _, h2 rfl⟩

end
end W04

set_option Elab.async false
set_option linter.all false
set_option maxRecDepth 100000
set_option maxHeartbeats 4000000
namespace W04
open PySem PySem.Spec PyProof.Rows L2 Z
local macro_rules | `(tactic| walk_at "z") => `(tactic| first
  | with_reducible refine hs_seq ?_
  | with_reducible refine hs_asg ?_
  | with_reducible refine hs_ret ?_
  | with_reducible refine hs_if ?_
  | with_reducible refine hs_drop ?_
  | with_reducible refine hs_next ?_
  | ((with_reducible refine cp_var (r := ?zr) ?zh ?_); (case zh => exact rfl))
  | with_reducible refine cp_int ?_
  | with_reducible refine cp_str ?_
  | with_reducible refine cp_bl ?_
  | with_reducible refine cp_non ?_
  | with_reducible refine cp_ref ?_
  | with_reducible refine cp_ty ?_
  | with_reducible refine cp_op ?_
  | with_reducible refine cp_un ?_
  | with_reducible refine cp_cb ?_
  | with_reducible refine ca_nil ?_
  | with_reducible refine ca_cons ?_
  | with_reducible refine cp_andV ?_
  | with_reducible refine cp_orV ?_
  | with_reducible refine cp_notV ?_
  | with_reducible refine cp_if ?_
  | with_reducible refine cp_call ?_
  | with_reducible refine cp_callS ?_
  | with_reducible refine ct_test ?_
  | with_reducible refine ct_b ?_
  | with_reducible refine ct_and ?_
  | with_reducible refine ct_or ?_
  | with_reducible refine ct_not ?_
  | with_reducible refine ct_yes ?_
  | with_reducible refine cg_name ?_
  | with_reducible refine cp_lst ?_
  | with_reducible refine cp_tup ?_
  | refine cp_bm ?_
  | refine cp_bm0 ?_
  | refine ⟨(show rsTy _ (Rs.own _) _ from rfl), ?_⟩
  | refine ⟨(show rsTy _ (Rs.dat _) _ from ⟨rfl, by decide⟩), ?_⟩
  | refine od_add_int ?_
  | refine od_sub ?_
  | refine od_lt_int ?_
  | refine od_gt ?_
  | refine od_le ?_
  | refine od_ge ?_
  | refine od_eq_int ?_
  | refine od_eq_str ?_
  | refine od_eq_bool ?_
  | refine od_ne_int ?_
  | refine od_ne_str ?_
  | refine od_ne_bool ?_
  | refine od_mod (by decide) ?_
  | refine od_pow ⟨by decide, by decide, by decide⟩ ?_
  | refine od_fdiv ⟨by decide, by decide⟩ ?_
  | refine od_mulY_int (.inr ⟨by decide, by decide⟩) ?_
  | refine od_mulY_int (.inl ⟨by decide, by decide⟩) ?_
  | refine od_in_sign ?_
  | refine od_notIn_sign ?_
  | refine od_is_bool ?_
  | refine od_isNot_bool ?_
  | refine od_is_none ?_
  | refine od_isNot_none ?_
  | refine cd_len_lst ?_
  | refine cd_len_tup ?_
  | refine cd_int_int ?_
  | refine cd_int_bool ?_
  | refine cd_abs ?_
  | refine cd_neg ?_
  | refine cd_isi (by decide) ?_
  | refine ⟨_, rfl, ?_⟩
  | refine ⟨_, _, rfl, ?_⟩
  | refine ⟨[], rfl, szl _ (Nat.le_trans (Nat.le_of_eq (show _ = 0 from rfl)) (by decide)), ?_⟩
  | refine ⟨[_], rfl, szl _ (Nat.le_trans (Nat.le_of_eq (show _ = 1 from rfl)) (by decide)), ?_⟩
  | refine ⟨[_, _], rfl, szl _ (Nat.le_trans (Nat.le_of_eq (show _ = 2 from rfl)) (by decide)), ?_⟩
  | refine ⟨[_, _, _], rfl, szl _ (Nat.le_trans (Nat.le_of_eq (show _ = 3 from rfl)) (by decide)), ?_⟩
  | refine ⟨[_, _, _, _], rfl, szl _ (Nat.le_trans (Nat.le_of_eq (show _ = 4 from rfl)) (by decide)), ?_⟩
  | refine ⟨[_, _, _, _, _], rfl, szl _ (Nat.le_trans (Nat.le_of_eq (show _ = 5 from rfl)) (by decide)), ?_⟩
  | refine ⟨[_, _, _, _, _, _], rfl, szl _ (Nat.le_trans (Nat.le_of_eq (show _ = 6 from rfl)) (by decide)), ?_⟩
  | refine ⟨[_, _, _, _, _, _, _], rfl, szl _ (Nat.le_trans (Nat.le_of_eq (show _ = 7 from rfl)) (by decide)), ?_⟩
  | refine ⟨[_, _, _, _, _, _, _, _], rfl, szl _ (Nat.le_trans (Nat.le_of_eq (show _ = 8 from rfl)) (by decide)), ?_⟩
  | refine ⟨[_, _, _, _, _, _, _, _, _], rfl, szl _ (Nat.le_trans (Nat.le_of_eq (show _ = 9 from rfl)) (by decide)), ?_⟩
  | with_reducible refine ite_t ?_
  | refine ite_t ?_
  | refine ite_f ?_)
section
variable {P : Program} {w : World} {K : PySem.W.Frag} {mg : Str → Option Value} {base : Heap}
theorem FIGQ_eq : (FIG ++ "?").cps.toList = figs ++ [63] := by decide +kernel
theorem Q_eq : ("?" : Str) = ⟨#[63]⟩ := by decide +kernel
theorem q_eq2 (c : Nat) : ((⟨#[c]⟩ : Str) == ⟨#[63]⟩) = decide (c = 63) := by
  rw [← Q_eq]
  exact q_eq c
def isDam (v : PyData) : Bool := hsD v 12 (FIG ++ "?")
theorem dam_str {v : PyData} (h : isDam v = true) : ∃ l, v = .str (ofL l) ∧ l.length = 12 ∧ ∀ c ∈ l, okS c := by
  obtain ⟨s, rfl⟩ : ∃ s, v = .str s := by
    cases v <;> first | exact ⟨_, rfl⟩ | exact absurd h Bool.false_ne_true
  unfold isDam hsD at h
  rw [Bool.and_eq_true] at h
  refine ⟨s.cps.toList, rfl, ?_, fun c hc => ?_⟩
  · have := beq_iff_eq.mp h.1
    rw [Array.length_toList]
    have e : s.length = s.cps.size := rfl
    omega
  · have := List.all_eq_true.mp h.2 c hc
    unfold memS at this
    rw [FIGQ_eq] at this
    rcases List.mem_append.mp (of_decide_eq_true this) with z | z
    · exact .inl z
    · exact .inr (List.mem_singleton.mp z)
theorem dam_of {l : List Nat} (h : l.length = 12) (hf : ∀ c ∈ l, okS c) : isDam (.str (ofL l)) = true := by
  unfold isDam hsD
  rw [Bool.and_eq_true]
  refine ⟨by rw [ofL_len, h]; rfl, List.all_eq_true.mpr fun c hc => ?_⟩
  unfold memS
  rw [FIGQ_eq]
  refine decide_eq_true (List.mem_append.mpr ?_)
  rcases hf c hc with z | z
  · exact .inl z
  · exact .inr (List.mem_singleton.mpr z)
abbrev s_mends_of : Stmt := top 17
theorem sc_mends_of : FnScope ["damaged", "found", "sign", "choices", "start", "choice", "number"] ["damaged"] (defScope s_mends_of) := ⟨rfl, rfl, rfl, by decide +kernel, rfl, by decide +kernel, by decide +kernel⟩
abbrev ps_mends_of : List Str := ["damaged"]
def dMend (cN cT : Addr) : DSp := fun rs L k x => ∃ v, rs = [.dat v] ∧ (∀ s, v = .str s → s.length ≤ 100000) ∧ (isDam v = false → x cN L) ∧
  ∀ l, v = .str (ofL l) → l.length = 12 → (∀ c ∈ l, okS c) → (5 < l.count 63 → x cT L) ∧ (l.count 63 ≤ 5 → ∀ p, p ∉ L.ks → k (.own p) (plus L p (mendsD l)))
def addD : PyData → PyData → Option PyData
  | .str a, .str b => some (.str (a ++ b))
  | _, _ => none
theorem addD_all (x : List Nat) : ∀ ds : List Nat, (ds.map sgn).filterMap (addD (strD x)) = (ds.map fun d => x ++ [d]).map strD
  | [] => rfl
  | d :: r => by
    rw [List.map_cons, List.filterMap_cons, List.map_cons, List.map_cons, ← addD_all x r]
    show (PyData.str (ofL x ++ ofL [d]) :: _) = _
    rw [ofL_app]
    rfl
theorem addD_flat (c : Nat) : ∀ F : List (List Nat), ((F.map strD).flatMap fun d => ((ch c).map sgn).filterMap (addD d)) = (stepX F c).map strD
  | [] => rfl
  | x :: r => by
    unfold stepX
    rw [List.map_cons, List.flatMap_cons, List.flatMap_cons, List.map_append, addD_flat c r, addD_all]
    rfl
theorem ok_mends_of {f : Addr} {fd : FuncData} (D : DefAt K mg "mends_of" s_mends_of ps_mends_of f fd) {cN cT : Addr} {tL tF tU : Tok} (c_LONG : mg "LONG" = some (.int 12 tL)) (c_FIGURES : mg "FIGURES" = some (.str "0123456789" tF)) (c_UNKNOWN : mg "UNKNOWN" = some (.str "?" tU)) (E_TooLarge : ErrAt K mg "TooLarge" cT)
    (H_1 : Has P w K mg base 1 "has_signs" ps_has_signs dSigns) (H_2 : HasX P w K mg base 1 "check_is" ps_check_is (dCheck cN)) (H_3 : Has P w K mg base 3 "is_sound" ps_is_sound dSnd) : HasX P w K mg base 4 "mends_of" ps_mends_of (dMend cN cT) := by
  obtain ⟨_, _, g_has_signs, kp_has_signs, b_has_signs, G_has_signs⟩ := H_1
  obtain ⟨_, _, g_check_is, kp_check_is, b_check_is, G_check_is⟩ := H_2
  obtain ⟨_, _, g_is_sound, kp_is_sound, b_is_sound, G_is_sound⟩ := H_3
  refine ⟨f, fd, D.g, D.F.kp, D.b, fn_zX D.F sc_mends_of (fun rs L k x h => ?_) fun cdv A outer s H E hr => ?_⟩
  · obtain ⟨b, rfl, _⟩ := h
    rfl
  · have nd := sc_mends_of.nd
    have tk : Takes (cxOf (L2.CX P w) P w K mg base ["damaged", "found", "sign", "choices", "start", "choice", "number"] "mends_of" (defScope s_mends_of) f cdv A outer s H E) (fun cls d _ H => E cls d H) := takes_of rfl rfl rfl rfl
    refine ⟨_, (pss_cons (ps_expr (pe_callS G_check_is (hr.mono (by first | decide | omega)) (by rfl) g_check_is kp_check_is b_check_is (fun σ => passAt tk σ) (pa_cons (pe_call G_has_signs (hr.mono (by first | decide | omega)) (by rfl) g_has_signs kp_has_signs b_has_signs .nil pass0 (pa_cons (pv 0) (pa_cons (pe_glob (v := .int 12) (by rfl) c_LONG ⟨_, rfl⟩) (pa_cons (pe_op op_addZ (pe_glob (v := .str "0123456789") (by rfl) c_FIGURES ⟨_, rfl⟩) (pe_glob (v := .str "?") (by rfl) c_UNKNOWN ⟨_, rfl⟩)) pa_nil)))) pa_nil)))
    (pss_cons (ps_if (pt_cmpR op_gtZ (pe_bm PySem.F.plainAttrs_str PySem.F.slot_str_count PySem.F.type_str_count mt_count (pv 0) (pa_cons (pe_glob (v := .str "?") (by rfl) c_UNKNOWN ⟨_, rfl⟩) pa_nil)) pe_int (nomark _)) (pss_one (ps_raise rfl tk (pmk_own PySem.F.excBase_ValueError E_TooLarge.x E_TooLarge.g E_TooLarge.k (raises_own E_TooLarge.s1 E_TooLarge.s2) (by rfl)))) pss_nil)
    (pss_cons (ps_set (i := 1) nd rfl (by first | exact .inl rfl | exact .inr rfl) (pe_lst (pa_cons pe_str pa_nil)))
    (pss_cons (ps_for (passes_of rfl) rfl (pi_sq (pv 0)) (pg_name (i := 2) nd rfl (by first | exact .inl rfl | exact .inr rfl))
      (pss_cons (ps_set (i := 3) nd rfl (by first | exact .inl rfl | exact .inr rfl) (pe_ifExp (pt_cmpR (op_eqZ hr.units) (pv 2) (pe_glob (v := .str "?") (by rfl) c_UNKNOWN ⟨_, rfl⟩) (nomark _)) (pe_glob (v := .str "0123456789") (by rfl) c_FIGURES ⟨_, rfl⟩) (pv 2)))
      (pss_one (ps_setLc2 (i := 1) (own := [("start", 4), ("choice", 5)]) rfl nd rfl rfl (sw_true rfl rfl rfl (by decide +kernel)) (pi_sq (pv 1)) (blkOk_by (own := [("start", 4), ("choice", 5)]) (N := ["damaged", "found", "sign", "choices", "start", "choice", "number"]) (sc := defScope s_mends_of) (by decide +kernel)) (vs1 := [5]) (by decide) (fun _ _ _ _ _ => (pg_name (i := 4) nd rfl (by first | exact .inl rfl | exact .inr rfl))) (fun _ _ _ _ _ => pts_nil) (fun _ _ _ _ _ => (pi_sqK (K := K) (by rfl) (pv 3))) (fun _ _ _ _ _ => (pg_name (i := 5) nd rfl (by first | exact .inl rfl | exact .inr rfl))) (fun _ _ _ _ _ => pts_nil) (fun _ _ _ _ _ => (pe_op (opK (r := rAddZ) (K := K) op_addZ (by rfl)) (pv 4) (pv 5)))))))
    (pss_one (ps_ret (pe_lc (own := [("number", 6)]) rfl nd (pi_sq (pv 1)) (blkOk_by (own := [("number", 6)]) (N := ["damaged", "found", "sign", "choices", "start", "choice", "number"]) (sc := defScope s_mends_of) (by decide +kernel)) (fun _ _ _ _ _ => (pg_name (i := 6) nd rfl (by first | exact .inl rfl | exact .inr rfl))) (fun _ _ _ _ _ => (pts_one (pt_val (pe_call G_is_sound (hr.mono (by first | decide | omega)) (by rfl) g_is_sound kp_is_sound b_is_sound .nil pass0 (pa_cons (pv 6) pa_nil))))) (fun _ _ _ _ _ => (pv 6))))))))), fun rs L q x h => ?_⟩
    obtain ⟨v, rfl, hs, h1, h2⟩ := h
    repeat walk_at "z"
    refine od_add_str (szl _ (by decide +kernel)) ?_
    repeat walk_at "z"
    refine ⟨_, _, _, rfl, hs, ?_⟩
    repeat walk_at "z"
    refine ⟨fun hc => ?_, fun hc => ⟨Keeps.refl _, h1 hc⟩⟩
    obtain ⟨l, rfl, hl, hf⟩ := dam_str hc
    obtain ⟨h3, h4⟩ := h2 l rfl hl hf
    repeat walk_at "z"
    rw [Q_eq]
    refine md_count1 ?_
    repeat walk_at "z"
    refine ite_b (fun hc => ?_) fun hc => ?_
    · have hc := of_decide_eq_true hc
      have hc : 5 < l.count 63 := by
        have e : (ofL l).cps.toList = l := rfl
        rw [e] at hc
        omega
      exact hs_raise ⟨Keeps.refl _, h3 hc⟩
    · have hc := of_decide_eq_false hc
      have h5 : l.count 63 ≤ 5 := by
        have e : (ofL l).cps.toList = l := rfl
        rw [e] at hc
        omega
      have h4 := h4 h5
      repeat walk_at "z"
      refine hs_for ?_
      refine ci_sq ?_
      repeat walk_at "z"
      refine ⟨_, .str _, fun i ε' L' => ∃ x2 x3, ε' = [some (.dat (.str (ofL l))), some (.dat (.list ((ex (l.take i)).map strD))), x2, x3, none, none, none] ∧ L' = L, ⟨_, _, rfl, rfl⟩, ?_, ?_⟩
      · rintro i d ε' L' hd ⟨x2, x3, rfl, rfl⟩
        obtain ⟨c, ec, rfl⟩ := map_get hd
        have ec : l[i]? = some c := ec
        have hm := ex_max h5 i
        have hm2 := ex_max h5 (i + 1)
        refine cg_name ?_
        repeat walk_at "z"
        rw [q_eq2]
        refine cp_join (fun r L1 => r = .dat (.str (chS c)) ∧ L1 = L') (ite_b (fun hc => ?_) fun hc => ?_) ?_
        · have e : chS c = FIG := if_pos (of_decide_eq_true hc)
          rw [e]
          repeat walk_at "z"
          exact ⟨rfl, rfl⟩
        · have e : chS c = ⟨#[c]⟩ := if_neg (of_decide_eq_false hc)
          rw [e]
          repeat walk_at "z"
          exact ⟨rfl, rfl⟩
        · rintro r L1 ⟨rfl, rfl⟩
          refine hs_asg ?_
          refine cp_lc2F (fun _ => (ch c).map sgn) addD ?_ gown_name gown_name
          refine ci_sq ?_
          repeat walk_at "z"
          refine ⟨_, .lst _, ?_, fun d hd acc p hp => ?_, ?_⟩
          · rw [addD_flat, ← stepX_take ec, List.length_map]
            exact sz _ (by omega)
          · obtain ⟨x, hx, rfl⟩ := List.mem_map.mp hd
            have hx2 := ex_len hx
            rw [List.length_take] at hx2
            refine cg_name ⟨rfl, ?_⟩
            refine ci_sq ?_
            repeat walk_at "z"
            refine ⟨_, .str _, rfl, by rw [chS_l], fun e he acc => ?_⟩
            obtain ⟨d, hd, rfl⟩ := List.mem_map.mp he
            refine cg_name ⟨rfl, ct_yes ⟨rfl, ite_t ?_⟩⟩
            repeat walk_at "z"
            refine od_add_str (szl _ ?_) ?_
            · show x.length + 1 ≤ _
              omega
            · exact ⟨rfl, _, rfl, rfl⟩
          · rw [addD_flat, ← stepX_take ec]
            exact ⟨_, _, rfl, rfl⟩
      · rintro ε' L' ⟨x2, x3, rfl, rfl⟩
        have e : l.take (List.map sgn (ofL l).cps.toList).length = l := List.take_of_length_le (by rw [List.length_map]; exact Nat.le_refl _)
        rw [e]
        have hm := ex_max h5 l.length
        rw [List.take_length] at hm
        repeat walk_at "z"
        refine cp_lcMO (List Nat) ?_ gown_name
        refine ci_sq ?_
        repeat walk_at "z"
        refine ⟨_, .lst _, sz _ (by rw [List.length_map]; omega), ex l, strD, fun x => if sound x = true then some (strD x) else none, rfl, fun x hx acc p hp => ?_, ?_⟩
        · have hl2 := ex_len hx
          have hx2 := ex_fig hf hx
          have hn : isSnd (strD x) = sound x := by
            show (_ && _) = _
            rw [num_of (s := ofL x) (by rw [ofL_len]; omega) hx2, Bool.true_and]
            rfl
          refine cg_name ⟨rfl, ?_⟩
          repeat walk_at "z"
          refine ⟨fun s hs => ?_, ?_⟩
          · cases hs
            show x.length ≤ _
            omega
          · rw [hn]
            refine ⟨_, rfl, rfl, ite_b (fun hc => ?_) fun hc => ?_⟩
            · repeat walk_at "z"
              exact ⟨rfl, _, rfl, if_pos hc⟩
            · exact if_neg (by rw [hc]; decide)
        · rw [fm_if]
          exact fun p hp => rt_ownK (h4 p hp)

end
end W04

set_option Elab.async false
set_option linter.all false
set_option maxRecDepth 100000
set_option maxHeartbeats 4000000
namespace W04
open PySem PySem.Spec PyProof.Rows L2 Z
local macro_rules | `(tactic| walk_at "z") => `(tactic| first
  | with_reducible refine hs_seq ?_
  | with_reducible refine hs_asg ?_
  | with_reducible refine hs_ret ?_
  | with_reducible refine hs_if ?_
  | with_reducible refine hs_drop ?_
  | with_reducible refine hs_next ?_
  | ((with_reducible refine cp_var (r := ?zr) ?zh ?_); (case zh => exact rfl))
  | with_reducible refine cp_int ?_
  | with_reducible refine cp_str ?_
  | with_reducible refine cp_bl ?_
  | with_reducible refine cp_non ?_
  | with_reducible refine cp_ref ?_
  | with_reducible refine cp_ty ?_
  | with_reducible refine cp_op ?_
  | with_reducible refine cp_un ?_
  | with_reducible refine cp_cb ?_
  | with_reducible refine ca_nil ?_
  | with_reducible refine ca_cons ?_
  | with_reducible refine cp_andV ?_
  | with_reducible refine cp_orV ?_
  | with_reducible refine cp_notV ?_
  | with_reducible refine cp_if ?_
  | with_reducible refine cp_call ?_
  | with_reducible refine cp_callS ?_
  | with_reducible refine ct_test ?_
  | with_reducible refine ct_b ?_
  | with_reducible refine ct_and ?_
  | with_reducible refine ct_or ?_
  | with_reducible refine ct_not ?_
  | with_reducible refine ct_yes ?_
  | with_reducible refine cg_name ?_
  | with_reducible refine cp_lst ?_
  | with_reducible refine cp_tup ?_
  | refine cp_bm ?_
  | refine cp_bm0 ?_
  | refine ⟨(show rsTy _ (Rs.own _) _ from rfl), ?_⟩
  | refine ⟨(show rsTy _ (Rs.dat _) _ from ⟨rfl, by decide⟩), ?_⟩
  | refine od_add_int ?_
  | refine od_sub ?_
  | refine od_lt_int ?_
  | refine od_gt ?_
  | refine od_le ?_
  | refine od_ge ?_
  | refine od_eq_int ?_
  | refine od_eq_str ?_
  | refine od_eq_bool ?_
  | refine od_ne_int ?_
  | refine od_ne_str ?_
  | refine od_ne_bool ?_
  | refine od_mod (by decide) ?_
  | refine od_pow ⟨by decide, by decide, by decide⟩ ?_
  | refine od_fdiv ⟨by decide, by decide⟩ ?_
  | refine od_mulY_int (.inr ⟨by decide, by decide⟩) ?_
  | refine od_mulY_int (.inl ⟨by decide, by decide⟩) ?_
  | refine od_in_sign ?_
  | refine od_notIn_sign ?_
  | refine od_is_bool ?_
  | refine od_isNot_bool ?_
  | refine od_is_none ?_
  | refine od_isNot_none ?_
  | refine cd_len_lst ?_
  | refine cd_len_tup ?_
  | refine cd_int_int ?_
  | refine cd_int_bool ?_
  | refine cd_abs ?_
  | refine cd_neg ?_
  | refine cd_isi (by decide) ?_
  | refine ⟨_, rfl, ?_⟩
  | refine ⟨_, _, rfl, ?_⟩
  | refine ⟨[], rfl, szl _ (Nat.le_trans (Nat.le_of_eq (show _ = 0 from rfl)) (by decide)), ?_⟩
  | refine ⟨[_], rfl, szl _ (Nat.le_trans (Nat.le_of_eq (show _ = 1 from rfl)) (by decide)), ?_⟩
  | refine ⟨[_, _], rfl, szl _ (Nat.le_trans (Nat.le_of_eq (show _ = 2 from rfl)) (by decide)), ?_⟩
  | refine ⟨[_, _, _], rfl, szl _ (Nat.le_trans (Nat.le_of_eq (show _ = 3 from rfl)) (by decide)), ?_⟩
  | refine ⟨[_, _, _, _], rfl, szl _ (Nat.le_trans (Nat.le_of_eq (show _ = 4 from rfl)) (by decide)), ?_⟩
  | refine ⟨[_, _, _, _, _], rfl, szl _ (Nat.le_trans (Nat.le_of_eq (show _ = 5 from rfl)) (by decide)), ?_⟩
  | refine ⟨[_, _, _, _, _, _], rfl, szl _ (Nat.le_trans (Nat.le_of_eq (show _ = 6 from rfl)) (by decide)), ?_⟩
  | refine ⟨[_, _, _, _, _, _, _], rfl, szl _ (Nat.le_trans (Nat.le_of_eq (show _ = 7 from rfl)) (by decide)), ?_⟩
  | refine ⟨[_, _, _, _, _, _, _, _], rfl, szl _ (Nat.le_trans (Nat.le_of_eq (show _ = 8 from rfl)) (by decide)), ?_⟩
  | refine ⟨[_, _, _, _, _, _, _, _, _], rfl, szl _ (Nat.le_trans (Nat.le_of_eq (show _ = 9 from rfl)) (by decide)), ?_⟩
  | with_reducible refine ite_t ?_
  | refine ite_t ?_
  | refine ite_f ?_)
section
variable {P : Program} {w : World} {K : PySem.W.Frag} {mg : Str → Option Value} {base : Heap}
abbrev s__law_told : Stmt := top 26
theorem sc__law_told : FnScope ["value", "e"] ["value"] (defScope s__law_told) := ⟨rfl, rfl, rfl, by decide +kernel, rfl, by decide +kernel, by decide +kernel⟩
abbrev ps__law_told : List Str := ["value"]
def cls5L (c1 c2 c3 c4 c5 : Addr) : List Addr := [c1, c2, c3, c4, c5]
def flN : List Bool := [true, false, false, false, false]
def flT : List Bool := [false, false, false, true, false]
def dTold : DSp := fun rs L k _ => ∃ v, rs = [.dat v] ∧ (∀ s, v = .str s → s.length ≤ 100000) ∧ (isDam v = false → k (.dat (.list (flN.map PyData.bool))) L) ∧
  ∀ l, v = .str (ofL l) → l.length = 12 → (∀ c ∈ l, okS c) → (5 < l.count 63 → k (.dat (.list (flT.map PyData.bool))) L) ∧ (l.count 63 ≤ 5 → ∀ p, p ∉ L.ks → k (.own p) (plus L p (mendsD l)))
theorem ok__law_told {f : Addr} {fd : FuncData} (D : DefAt K mg "_law_told" s__law_told ps__law_told f fd) {cN cT cY : Addr} {cs : List Addr} (g_YardError : mg "YardError" = some (.ref cY)) (H_1 : HasX P w K mg base 4 "mends_of" ps_mends_of (dMend cN cT)) (H_2 : HasQ P w K mg base 1 "_law_flags" ps__law_flags (spFlags K cs))
    (FN : FlagsAt K cN cs flN) (FT : FlagsAt K cT cs flT) (mN : PySem.W.exmOne K (.ref cN) (.ref cY) = some true) (mT : PySem.W.exmOne K (.ref cT) (.ref cY) = some true) : Has P w K mg base 5 "_law_told" ps__law_told dTold := by
  obtain ⟨_, _, g_mends_of, kp_mends_of, b_mends_of, G_mends_of⟩ := H_1
  obtain ⟨_, _, g__law_flags, kp__law_flags, b__law_flags, G__law_flags⟩ := H_2
  refine ⟨f, fd, D.g, D.F.kp, D.b, fn_z D.F sc__law_told (fun rs L k x h => ?_) fun cdv A outer s H E hr => ?_⟩
  · obtain ⟨b, rfl, _⟩ := h
    rfl
  · have nd := sc__law_told.nd
    refine ⟨_, (pss_one (ps_try_as (i := 1) (Wout := fun _ _ _ _ => False) rfl rfl nd rfl rfl ⟨rfl, by decide, .inl g_YardError⟩ takes0 (fun W pn xe tk _ => (pss_one (ps_ret (pe_callS G_mends_of (hr.mono (by first | decide | omega)) (by rfl) g_mends_of kp_mends_of b_mends_of (fun σ => passAt tk σ) (pa_cons (pv 0) pa_nil))))) (fun a oe cls d pn hz hf => (pss_one (ps_ret (pe_callQ G__law_flags (roomQ hr (by first | decide | omega)) hz hf (by rfl) g__law_flags kp__law_flags b__law_flags (pa_cons (pv 1) pa_nil))))))), fun rs L q x h => ?_⟩
    obtain ⟨v, rfl, hs, h1, h2⟩ := h
    refine hs_tryAs (tb := fun W => tRet (tCallS (lift K (dMend cN cT)) (WE W) (tCons (tVar 0) tNil))) (ts := fun a cls d => tRet (tCallQ (spFlags K cs) a cls d (tCons (tVar 1) tNil))) (i := 1) (c₀ := .ref cY) (Wout := fun _ _ _ _ => False) (fun c ε' L' => ε' = [some (.dat v), none] ∧ L' = L ∧ ∃ bs, FlagsAt K c cs bs ∧ PySem.W.exmOne K (.ref c) (.ref cY) = some true ∧ q (.dat (.list (bs.map PyData.bool))) L) (fun W => ?_) ?_
    · repeat walk_at "z"
      refine ⟨hs, fun hv => ⟨rfl, rfl, flN, FN, mN, h1 hv⟩, fun l hv hl hf => ⟨fun h5 => ⟨rfl, rfl, flT, FT, mT, (h2 l hv hl hf).1 h5⟩, fun h5 p hp => rt_ownK ((h2 l hv hl hf).2 h5 p hp)⟩⟩
    · rintro c ε' L' ⟨rfl, rfl, bs, hF, hm, hq⟩
      refine ⟨hm, fun a => ?_⟩
      refine hs_ret ?_
      refine cp_flags hF.1 hF.2 ?_
      repeat walk_at "z"
      exact ⟨rfl, rt_dat hq⟩
abbrev s_law : Stmt := top 28
theorem sc_law : FnScope ["script", "draws", "count", "damaged", "due", "told", "number", "signs", "value"] ["script"] (defScope s_law) := ⟨rfl, rfl, rfl, by decide +kernel, rfl, by decide +kernel, by decide +kernel⟩
abbrev ps_law : List Str := ["script"]
def dLaw : DSp := fun rs L k _ => ∃ ns : List Int, rs = [.scr ns] ∧ ns.length ≤ 63 ∧ L = [] ∧ k (.dat (.bool true)) L
theorem md_countQ {C : Cz} {L : Led} {k : Rs → Led → Prop} {x : Str} (q : k (.dat (.int (x.cps.toList.count 63 : Nat))) L) : MD C (fun x xs H Q => ∃ a b, x = .str a ∧ xs = [.str b] ∧ Q (.int (Txt.count a b)) H) (.dat (.str x)) [.dat (.str "?")] L k := by
  rw [Q_eq]
  exact md_count1 q
theorem okD_mends (l : List Nat) (h : l.count 63 ≤ 5) : okD 1 (.list (mendsD l)) := by
  refine ⟨?_, fun d hd => ?_⟩
  · unfold mendsD
    have h1 := ex_max h l.length
    rw [List.take_length] at h1
    have h2 := List.length_filter_le sound (ex l)
    rw [List.length_map]
    omega
  · obtain ⟨x, _, rfl⟩ := List.mem_map.mp hd
    exact okD_str 0 _
theorem okD_bools (bs : List Bool) (h : bs.length ≤ 1000000) : okD 1 (.list (bs.map PyData.bool)) := by
  refine ⟨by rw [List.length_map]; exact h, fun d hd => ?_⟩
  obtain ⟨x, _, rfl⟩ := List.mem_map.mp hd
  exact okD_bool 0 _
def badV : List PyData := [.none, .str "", .str (Txt.mul "?" 11), .str (Txt.mul "?" 13), .str "31812643017!", .str "31812643017a", .int 318126430178, .tuple [.str "3"], .list (List.replicate (Int.toNat 12) [PyData.str "?"]).flatten]
theorem badV_all : ∀ v ∈ badV, isDam v = false := by decide +kernel
theorem badV_len : ∀ v ∈ badV, ∀ s, v = .str s → s.length ≤ 100000 := by
  intro v hv
  have h : ∀ v ∈ badV, (match v with | .str s => decide (s.length ≤ 100000) | _ => true) = true := by decide +kernel
  intro s e
  subst e
  exact of_decide_eq_true (h _ hv)
theorem sign_all : ∀ n ∈ [6, 9, 12], Txt.mul "?" (n : Nat) ++ Txt.mul "0" (12 - (n : Nat) : Int) = ofL (List.replicate n 63 ++ List.replicate (12 - n) 48) := by decide +kernel
theorem sign_len : ∀ n ∈ [6, 9, 12], (Txt.mul "?" (n : Nat)).length + (Txt.mul "0" (12 - (n : Nat) : Int)).length ≤ 100 := by decide +kernel
theorem ok_law {f : Addr} {fd : FuncData} (D : DefAt K mg "law" s_law ps_law f fd) (B_len : mg "len" = none) (H_1 : Has P w K mg base 1 "_law_draws" ps__law_draws dDraws) (H_2 : Has P w K mg base 2 "_law_pick" ps__law_pick dPick) (H_3 : Has P w K mg base 3 "_law_damaged" ps__law_damaged dDam) (H_4 : Has P w K mg base 2 "_law_mends" ps__law_mends dLM) (H_5 : Has P w K mg base 5 "_law_told" ps__law_told dTold) (H_6 : Has P w K mg base 2 "_law_same" ps__law_same (dSame 2)) (H_7 : Has P w K mg base 3 "is_sound" ps_is_sound dSnd) : FnOk P w K mg base CX0 6 f fd ps_law (lift K dLaw) := by
  obtain ⟨_, _, g__law_draws, kp__law_draws, b__law_draws, G__law_draws⟩ := H_1
  obtain ⟨_, _, g__law_pick, kp__law_pick, b__law_pick, G__law_pick⟩ := H_2
  obtain ⟨_, _, g__law_damaged, kp__law_damaged, b__law_damaged, G__law_damaged⟩ := H_3
  obtain ⟨_, _, g__law_mends, kp__law_mends, b__law_mends, G__law_mends⟩ := H_4
  obtain ⟨_, _, g__law_told, kp__law_told, b__law_told, G__law_told⟩ := H_5
  obtain ⟨_, _, g__law_same, kp__law_same, b__law_same, G__law_same⟩ := H_6
  obtain ⟨_, _, g_is_sound, kp_is_sound, b_is_sound, G_is_sound⟩ := H_7
  refine fn_z D.F sc_law (fun rs L k x h => ?_) fun cdv A outer s H E hr => ?_
  · obtain ⟨b, rfl, _⟩ := h
    rfl
  · have nd := sc_law.nd
    refine ⟨_, (pss_cons (ps_set (i := 1) nd rfl (by first | exact .inl rfl | exact .inr rfl) (pe_call G__law_draws (hr.mono (by first | decide | omega)) (by rfl) g__law_draws kp__law_draws b__law_draws .nil pass0 (pa_cons (pv 0) pa_nil)))
    (pss_cons (ps_for PassesOwn.never rfl (pi_sq (pe_lst (pa_cons pe_int (pa_cons pe_int (pa_cons pe_int (pa_cons pe_int (pa_cons pe_int (pa_cons (pe_call G__law_pick (hr.mono (by first | decide | omega)) (by rfl) g__law_pick kp__law_pick b__law_pick .nil pass0 (pa_cons (pv 1) (pa_cons (pe_lst (pa_cons pe_int (pa_cons pe_int (pa_cons pe_int (pa_cons pe_int pa_nil))))) pa_nil))) pa_nil)))))))) (pg_name (i := 2) nd rfl (by first | exact .inl rfl | exact .inr rfl))
      (pss_cons (ps_set (i := 3) nd rfl (by first | exact .inl rfl | exact .inr rfl) (pe_call G__law_damaged (hr.mono (by first | decide | omega)) (by rfl) g__law_damaged kp__law_damaged b__law_damaged .nil pass0 (pa_cons (pv 1) (pa_cons (pv 2) pa_nil))))
      (pss_cons (ps_set (i := 2) nd rfl (by first | exact .inl rfl | exact .inr rfl) (pe_bm PySem.F.plainAttrs_str PySem.F.slot_str_count PySem.F.type_str_count mt_count (pv 3) (pa_cons pe_str pa_nil)))
      (pss_cons (ps_set (i := 4) nd rfl (by first | exact .inl rfl | exact .inr rfl) (pe_call G__law_mends (hr.mono (by first | decide | omega)) (by rfl) g__law_mends kp__law_mends b__law_mends .nil pass0 (pa_cons (pv 3) pa_nil)))
      (pss_cons (ps_set (i := 5) nd rfl (by first | exact .inl rfl | exact .inr rfl) (pe_call G__law_told (hr.mono (by first | decide | omega)) (by rfl) g__law_told kp__law_told b__law_told .nil pass0 (pa_cons (pv 3) pa_nil)))
      (pss_cons (ps_if (PW.pt (pw_or (pt_not (pt_val (pe_call G__law_same (hr.mono (by first | decide | omega)) (by rfl) g__law_same kp__law_same b__law_same .nil pass0 (pa_cons (pv 5) (pa_cons (pv 4) pa_nil))))) (pw_or1 (PW.pt (pw_and (pt_cmpR op_gtZ (pv 2) pe_int (nomark _)) (pw_and1 (pt_cmpR (op_neZ hr.units) (pe_callB call_lenZ (by rfl) B_len (by decide +kernel) (pa_cons (pv 5) pa_nil)) (pe_ix ix_seq (pe_lst (pa_cons pe_int (pa_cons pe_int (pa_cons pe_int pa_nil)))) (pe_op op_sub (pv 2) pe_int) (fun _ _ => rfl)) (nomark _)))))))) (pss_one (ps_ret pe_bl)) pss_nil)
      (pss_cons (ps_if (pt_cmpR (op_neZ hr.units) (pe_lc (own := [("number", 6)]) rfl nd (pi_sq (pv 5)) (blkOk_by (own := [("number", 6)]) (N := ["script", "draws", "count", "damaged", "due", "told", "number", "signs", "value"]) (sc := defScope s_law) (by decide +kernel)) (fun _ _ _ _ _ => (pg_name (i := 6) nd rfl (by first | exact .inl rfl | exact .inr rfl))) (fun _ _ _ _ _ => (pts_one (pt_cmpR op_isNotZ (pe_call G_is_sound (hr.mono (by first | decide | omega)) (by rfl) g_is_sound kp_is_sound b_is_sound .nil pass0 (pa_cons (pv 6) pa_nil)) pe_bl (nomark _)))) (fun _ _ _ _ _ => (pv 6))) (pe_lst pa_nil) (nomark _)) (pss_one (ps_ret pe_bl)) pss_nil)
      (pss_one (ps_expr (pe_bm PySem.F.plainAttrs_list PySem.F.slot_list_append PySem.F.type_list_append mt_append (pv 5) (pa_cons pe_str pa_nil)))))))))))
    (pss_cons (ps_for PassesOwn.never rfl (pi_sq (pe_lst (pa_cons pe_int (pa_cons pe_int (pa_cons pe_int pa_nil))))) (pg_name (i := 2) nd rfl (by first | exact .inl rfl | exact .inr rfl))
      (pss_cons (ps_set (i := 7) nd rfl (by first | exact .inl rfl | exact .inr rfl) (pe_op op_addZ (pe_op op_mulY pe_str (pv 2)) (pe_op op_mulY pe_str (pe_op op_sub pe_int (pv 2)))))
      (pss_one (ps_if (pt_not (pt_val (pe_call G__law_same (hr.mono (by first | decide | omega)) (by rfl) g__law_same kp__law_same b__law_same .nil pass0 (pa_cons (pe_call G__law_told (hr.mono (by first | decide | omega)) (by rfl) g__law_told kp__law_told b__law_told .nil pass0 (pa_cons (pv 7) pa_nil)) (pa_cons (pe_lst (pa_cons pe_bl (pa_cons pe_bl (pa_cons pe_bl (pa_cons pe_bl (pa_cons pe_bl pa_nil)))))) pa_nil))))) (pss_one (ps_ret pe_bl)) pss_nil))))
    (pss_cons (ps_for PassesOwn.never rfl (pi_sq (pe_lst (pa_cons pe_non (pa_cons pe_str (pa_cons (pe_op op_mulY pe_str pe_int) (pa_cons (pe_op op_mulY pe_str pe_int) (pa_cons pe_str (pa_cons pe_str (pa_cons pe_int (pa_cons (pe_tup (pa_cons pe_str pa_nil)) (pa_cons (pe_op op_mulY (pe_lst (pa_cons pe_str pa_nil)) pe_int) pa_nil))))))))))) (pg_name (i := 8) nd rfl (by first | exact .inl rfl | exact .inr rfl))
      (pss_one (ps_if (pt_not (pt_val (pe_call G__law_same (hr.mono (by first | decide | omega)) (by rfl) g__law_same kp__law_same b__law_same .nil pass0 (pa_cons (pe_call G__law_told (hr.mono (by first | decide | omega)) (by rfl) g__law_told kp__law_told b__law_told .nil pass0 (pa_cons (pv 8) pa_nil)) (pa_cons (pe_lst (pa_cons pe_bl (pa_cons pe_bl (pa_cons pe_bl (pa_cons pe_bl (pa_cons pe_bl pa_nil)))))) pa_nil))))) (pss_one (ps_ret pe_bl)) pss_nil)))
    (pss_one (ps_ret pe_bl)))))), fun rs L q x h => ?_⟩
    obtain ⟨ns, rfl, hn, rfl, hq⟩ := h
    repeat walk_at "z"
    refine ⟨hn, fun p hp => ?_⟩
    have mp : (p, Mo.drw) ∈ ([] ++ [(p, Mo.drw)] : Led) := List.mem_append_right _ List.mem_cons_self
    have hL : ∀ q ∈ ([] ++ [(p, Mo.drw)] : Led), q.2 = Mo.drw := fun q h => by
      rcases List.mem_append.mp h with z | z
      · cases z
      · rw [List.mem_singleton.mp z]
    generalize ([] ++ [(p, Mo.drw)] : Led) = L0 at mp hL ⊢
    have E0 : ∀ {ε' : Ev} {L' : Led}, Paired (OW L' L0) ε' [some (.scr ns), some (.own p), none, none, none, none, none, none, none] → EvWk L' L0 ε' [some (.scr ns), some (.own p), none, none, none, none, none, none, none] := fun h => evwk_mk h
    have hk : p ∈ L0.ks := Led.key mp
    repeat walk_at "z"
    refine hs_for ?_
    refine ci_sq ?_
    repeat walk_at "z"
    refine ⟨p, mp, .inr ⟨_, rfl, by simp, fun d hd => ?_⟩⟩
    have hd : ∃ n : Nat, d = .int (n : Int) ∧ n ≤ 3 := by
      simp only [List.mem_cons, List.not_mem_nil, or_false] at hd
      rcases hd with rfl | rfl | rfl | rfl
      · exact ⟨2, rfl, by decide⟩
      · exact ⟨2, rfl, by decide⟩
      · exact ⟨2, rfl, by decide⟩
      · exact ⟨3, rfl, by decide⟩
    repeat walk_at "z"
    refine ⟨_, .lst _, fun _ ε' L' => Wk L' L0 ∧ EvWk L' L0 ε' [some (.scr ns), some (.own p), none, none, none, none, none, none, none], ⟨wk_refl, E0 ?_⟩, ?_, ?_⟩
    · exact .cons (.mk (.scr _)) (.cons (.mk (.own hk)) (.cons (.no _) (.cons (.no _) (.cons (.no _) (.cons (.no _) (.cons (.no _) (.cons (.no _) (.cons (.no _) .nil))))))))
    · rintro i e ε' L' he ⟨hw, hev⟩
      obtain ⟨n, rfl, hn3⟩ : ∃ n : Nat, e = .int (n : Int) ∧ n ≤ 3 := by
        have hm := List.mem_of_getElem? he
        simp only [List.mem_cons, List.not_mem_nil, or_false] at hm
        rcases hm with rfl | rfl | rfl | rfl | rfl | rfl
        · exact ⟨0, rfl, by decide⟩
        · exact ⟨1, rfl, by decide⟩
        · exact ⟨1, rfl, by decide⟩
        · exact ⟨2, rfl, by decide⟩
        · exact ⟨2, rfl, by decide⟩
        · exact hd
      refine cg_name ?_
      refine hs_wk hw (hev.set 2 _) ?_
      repeat walk_at "z"
      refine ⟨mp, fun ys hl hf hcn => ?_⟩
      have h5 : ys.count 63 ≤ 5 := by omega
      repeat walk_at "z"
      refine md_countQ ?_
      repeat walk_at "z"
      refine ⟨by omega, h5, hf, ?_⟩
      repeat walk_at "z"
      refine ⟨fun s hs => ?_, fun hd => ?_, fun l e hl hf => ?_⟩
      · cases hs
        rw [ofL_len]
        omega
      · rw [dam_of hl hf] at hd
        cases hd
      · have e : l = ys := by
          have e1 : ofL ys = ofL l := PyData.str.inj e
          have e2 := congrArg (fun s : Str => s.cps.toList) e1
          exact e2.symm
        subst e
        refine ⟨fun h => absurd h5 (by omega), fun _ p2 hp2 => ?_⟩
        have ekc : (ofL l).cps.toList = l := rfl
        refine hs_seq ?_
        refine hs_if ?_
        refine ct_view (ε' := [some (.scr ns), some (.own p), some (.dat (.int ((l.count 63 : Nat) : Int))), some (.dat (.str (ofL l))), some (.dat (.list (mendsD l))), some (.dat (.list (mendsD l))), none, none, none]) hp2 hL ?_ ?_
        · exact evwk_mk (.cons (.mk (.scr _)) (.cons (.mk (.own hk)) (.cons (.mk (.dat _)) (.cons (.mk (.dat _)) (.cons (.mk (.dat _)) (.cons (.mk (.frz plus_mem hp2)) (.cons (.no _) (.cons (.no _) (.cons (.no _) .nil)))))))))
        · repeat walk_at "z"
          refine ⟨okD_mends l h5, ?_⟩
          repeat walk_at "z"
          refine ct_join (fun b L1 => b = false ∧ L1 = L0) (ite_b (fun hc => ?_) fun _ => ⟨rfl, rfl⟩) ?_
          · have hc : 0 < l.count 63 := by
              have := of_decide_eq_true hc
              omega
            have hln : (mendsD l).length = 10 ^ (l.count 63 - 1) := by
              unfold mendsD
              rw [List.length_map]
              exact sound_count l hc
            repeat walk_at "z"
            refine od_ix_lst (d := .int ((10 ^ (l.count 63 - 1) : Nat) : Int)) ?_ ?_
            · have h3 : l.count 63 = 1 ∨ l.count 63 = 2 ∨ l.count 63 = 3 := by omega
              rcases h3 with h | h | h <;> rw [h] <;> rfl
            · repeat walk_at "z"
              rw [hln, beq_self_eq_true]
              exact ⟨rfl, rfl⟩
          · rintro b L1 ⟨rfl, rfl⟩
            refine ⟨rfl, ?_⟩
            refine ite_f ?_
            refine hs_next ?_
            refine hs_seq ?_
            refine hs_if ?_
            refine ct_view (ε' := [some (.scr ns), some (.own p), some (.dat (.int ((l.count 63 : Nat) : Int))), some (.dat (.str (ofL l))), some (.dat (.list (mendsD l))), some (.dat (.list (mendsD l))), none, none, none]) hp2 hL ?_ ?_
            · exact evwk_mk (.cons (.mk (.scr _)) (.cons (.mk (.own hk)) (.cons (.mk (.dat _)) (.cons (.mk (.dat _)) (.cons (.mk (.dat _)) (.cons (.mk (.frz plus_mem hp2)) (.cons (.no _) (.cons (.no _) (.cons (.no _) .nil)))))))))
            · have hsz : (mendsD l).length ≤ 1000000 := (okD_mends l h5).1
              repeat walk_at "z"
              refine cp_lcM (List Nat) ?_ gown_name
              refine ci_sq ?_
              repeat walk_at "z"
              refine ⟨_, .lst _, sz _ (by omega), (ex l).filter sound, strD, fun _ => none, rfl, fun x hx acc a ha => ?_, ?_⟩
              · obtain ⟨hx1, hx3⟩ := List.mem_filter.mp hx
                have hl2 := ex_len hx1
                have hx2 := ex_fig hf hx1
                have hn : isSnd (strD x) = true := by
                  show (_ && _) = _
                  rw [num_of (s := ofL x) (by rw [ofL_len]; omega) hx2, Bool.true_and]
                  exact hx3
                refine cg_name ⟨rfl, ?_⟩
                repeat walk_at "z"
                refine ⟨fun s hs => ?_, ?_⟩
                · cases hs
                  show x.length ≤ _
                  omega
                · rw [hn]
                  repeat walk_at "z"
                  exact ⟨rfl, rfl⟩
              · have en : ((ex l).filter sound).filterMap (fun _ => (none : Option PyData)) = [] := List.filterMap_eq_nil_iff.mpr fun _ _ => rfl
                rw [en]
                repeat walk_at "z"
                refine od_ne_deep ⟨rfl, rfl, rfl, rfl⟩ ?_
                repeat walk_at "z"
                refine ⟨rfl, ?_⟩
                repeat walk_at "z"
                refine md_append plus_mem (sz _ (by omega)) ?_
                rw [up_plus hp2]
                refine ⟨wk_plus, evwk_mk (.cons (.mk (.scr _)) (.cons (.mk (.own hk)) (.cons (.no _) (.cons (.no _) (.cons (.no _) (.cons (.no _) (.cons (.no _) (.cons (.no _) (.cons (.no _) .nil)))))))))⟩
    · rintro ε' L' ⟨hw, hev⟩
      refine hs_wk hw hev ?_
      repeat walk_at "z"
      refine hs_for ?_
      refine ci_sq ?_
      repeat walk_at "z"
      refine ⟨_, .lst _, fun _ ε' L' => Wk L' L0 ∧ EvWk L' L0 ε' [some (.scr ns), some (.own p), none, none, none, none, none, none, none], ⟨wk_refl, E0 ?_⟩, ?_, ?_⟩
      · exact .cons (.mk (.scr _)) (.cons (.mk (.own hk)) (.cons (.no _) (.cons (.no _) (.cons (.no _) (.cons (.no _) (.cons (.no _) (.cons (.no _) (.cons (.no _) .nil))))))))
      · rintro i e ε' L' he ⟨hw, hev⟩
        obtain ⟨n, rfl, hnm, hn12, hn6⟩ : ∃ n : Nat, e = .int (n : Int) ∧ n ∈ [6, 9, 12] ∧ n ≤ 12 ∧ 6 ≤ n := by
          have hm := List.mem_of_getElem? he
          simp only [List.mem_cons, List.not_mem_nil, or_false] at hm
          rcases hm with rfl | rfl | rfl
          · exact ⟨6, rfl, by decide, by decide, by decide⟩
          · exact ⟨9, rfl, by decide, by decide, by decide⟩
          · exact ⟨12, rfl, by decide, by decide, by decide⟩
        have es := sign_all n hnm
        refine cg_name ?_
        refine hs_wk hw (hev.set 2 _) ?_
        repeat walk_at "z"
        refine od_repS ⟨by decide, by omega, by omega⟩ ?_
        repeat walk_at "z"
        refine od_repS ⟨by decide, by omega, by omega⟩ ?_
        repeat walk_at "z"
        refine od_add_str ?_ ?_
        · exact szl _ (Nat.le_trans (sign_len n hnm) (by decide))
        · rw [es]
          have hl : (List.replicate n 63 ++ List.replicate (12 - n) 48).length = 12 := by
            rw [List.length_append, List.length_replicate, List.length_replicate]
            omega
          have hf : ∀ c ∈ List.replicate n 63 ++ List.replicate (12 - n) 48, okS c := fun c hc => by
            rcases List.mem_append.mp hc with h | h
            · exact .inr (List.eq_of_mem_replicate h)
            · exact .inl (by rw [List.eq_of_mem_replicate h]; decide)
          have h6 : 6 ≤ (List.replicate n 63 ++ List.replicate (12 - n) 48).count 63 := by
            rw [List.count_append, List.count_replicate_self]
            omega
          generalize List.replicate n 63 ++ List.replicate (12 - n) 48 = ll at hl hf h6 ⊢
          repeat walk_at "z"
          refine ⟨fun s hs => ?_, fun hd => ?_, fun l e hl hf => ?_⟩
          · cases hs
            rw [ofL_len]
            omega
          · rw [dam_of hl hf] at hd
            cases hd
          · have e : l = ll := by
              have e1 : ofL ll = ofL l := PyData.str.inj e
              have e2 := congrArg (fun s : Str => s.cps.toList) e1
              exact e2.symm
            subst e
            refine ⟨fun _ => ?_, fun h => absurd h (by omega)⟩
            repeat walk_at "z"
            refine ⟨okD_bools flT (by decide), ?_⟩
            repeat walk_at "z"
            exact ⟨wk_refl, E0 (.cons (.mk (.scr _)) (.cons (.mk (.own hk)) (.cons (.no _) (.cons (.no _) (.cons (.no _) (.cons (.no _) (.cons (.no _) (.cons (.no _) (.cons (.no _) .nil)))))))))⟩
      · rintro ε' L' ⟨hw, hev⟩
        refine hs_wk hw hev ?_
        refine hs_seq ?_
        refine hs_for ?_
        refine ci_sq ?_
        repeat walk_at "z"
        refine od_repS ⟨by decide, by decide, by decide⟩ ?_
        repeat walk_at "z"
        refine od_repS ⟨by decide, by decide, by decide⟩ ?_
        repeat walk_at "z"
        refine od_mulY_lst ⟨by decide, by decide, szl _ (by decide)⟩ ?_
        repeat walk_at "z"
        refine ⟨badV, .lst _, fun _ ε' L' => Wk L' L0 ∧ EvWk L' L0 ε' [some (.scr ns), some (.own p), none, none, none, none, none, none, none], ⟨wk_refl, E0 ?_⟩, ?_, ?_⟩
        · exact .cons (.mk (.scr _)) (.cons (.mk (.own hk)) (.cons (.no _) (.cons (.no _) (.cons (.no _) (.cons (.no _) (.cons (.no _) (.cons (.no _) (.cons (.no _) .nil))))))))
        · rintro i v ε' L' he ⟨hw, hev⟩
          have hm := List.mem_of_getElem? he
          have hb := badV_all v hm
          have hz := badV_len v hm
          refine cg_name ?_
          refine hs_wk hw (hev.set 8 _) ?_
          repeat walk_at "z"
          refine ⟨hz, fun _ => ?_, fun l e hl hf => ?_⟩
          · repeat walk_at "z"
            refine ⟨okD_bools flN (by decide), ?_⟩
            repeat walk_at "z"
            exact ⟨wk_refl, E0 (.cons (.mk (.scr _)) (.cons (.mk (.own hk)) (.cons (.no _) (.cons (.no _) (.cons (.no _) (.cons (.no _) (.cons (.no _) (.cons (.no _) (.cons (.no _) .nil)))))))))⟩
          · rw [e, dam_of hl hf] at hb
            cases hb
        · rintro ε' L' ⟨hw, hev⟩
          repeat walk_at "z"
          exact rt_sub (List.nil_sublist _) hq

end
end W04

set_option Elab.async false
set_option linter.all false
set_option maxRecDepth 100000
set_option maxHeartbeats 4000000
namespace W04
open PySem PySem.Spec PyProof.Rows L2 Z
def dd (x : Str) (st : Stmt) : He.DefD := ⟨(x, none), x, x, defArgs st, defBody st, defScope st, [], []⟩
def fns : List He.DefD := [dd "has_signs" s_has_signs, dd "is_number" s_is_number, dd "weight_of" s_weight_of, dd "sum_by" s_sum_by, dd "is_sound" s_is_sound, dd "check_is" s_check_is, dd "mends_of" s_mends_of, dd "_law_draws" s__law_draws, dd "_law_take" s__law_take, dd "_law_pick" s__law_pick, dd "_law_same" s__law_same, dd "_law_flags" s__law_flags, dd "_law_is_sound" s__law_is_sound, dd "_law_mends" s__law_mends, dd "_law_told" s__law_told, dd "_law_damaged" s__law_damaged, dd "law" s_law]
def fas : List He.Fa := [.glo "has_signs", .glo "is_number", .glo "weight_of", .glo "sum_by", .glo "is_sound", .glo "check_is", .glo "mends_of", .glo "_law_draws", .glo "_law_take", .glo "_law_pick", .glo "_law_same", .glo "_law_flags", .glo "_law_is_sound", .glo "_law_mends", .glo "_law_told", .glo "_law_damaged", .glo "law", .glo "YardError", .glo "NotRight", .glo "NotThere", .glo "NoAnswer", .glo "TooLarge", .glo "Malformed", .free "len", .free "int", .free "abs", .free "range", .free "list", .free "reversed", .free "isinstance", .free "str", .free "all", .free "sum", .free "enumerate", .free "tuple", .free "dict", .free "bool", .str "FIGURES" "0123456789", .str "UNKNOWN" "?", .int "LONG" 12, .exc "NotRight", .exm "NotRight" "YardError" true, .exc "TooLarge", .exm "TooLarge" "YardError" true]
def fl_NotRight : List (Str × Bool) := [("NotRight", true), ("NotThere", false), ("NoAnswer", false), ("TooLarge", false), ("Malformed", false)]
def fl_TooLarge : List (Str × Bool) := [("NotRight", false), ("NotThere", false), ("NoAnswer", false), ("TooLarge", true), ("Malformed", false)]
def exK (K : PySem.W.Frag) : Bool := flagsB K "NotRight" fl_NotRight && flagsB K "TooLarge" fl_TooLarge
abbrev R : PySem.W.OpenRow := PySem.W.OpenLaw.row PySem.Challenge.rw_humpyard_k04_whole_damaged_numbers
abbrev hk : PySem.W.Hook := He.hookX 5 fas fns [] [] exK
def ob (s : PySem.W.SharedT) : He.AlX := He.obsX 5 fas fns [] [] exK (HandSHeadRun.getT s)
theorem ob_eq (s : PySem.W.SharedT) : ob s = hk.obs s.abs := He.obsX_eq (HandSHeadRun.getT_eq s)
def loose : List Str := ["YardError", "NotRight", "NotThere", "NoAnswer", "TooLarge", "Malformed", "FIGURES", "UNKNOWN", "LONG", "has_signs", "is_number", "weight_of", "sum_by", "is_sound", "check_is", "mends_of", "_law_draws", "_law_take", "_law_pick", "_law_same", "_law_flags", "_law_is_sound", "_law_mends", "_law_told", "_law_damaged"]
theorem run (w : World) : HandSHeadRun.RunEq R (PySem.W.view R.prog [28]) hk ob 6000 loose w := by
  intro os
  kernel_rfl
theorem facts {P : Program} {w : World} {K : PySem.W.Frag} {h : Heap} {mg : Str → Option Value} {f : Addr} (X : K.In h) (G : h.Ns mainGlobals mg) (hfa : mg ("law" : Str) = some (.ref f)) (c : He.SaysX fas fns [] [] exK w h K) :
    ∃ fd : FuncData, (∀ (s : Shared) (v : Value), BindsTo s fd ⟨[v], []⟩ [("script", v)]) ∧ ∀ base : Heap, K.In base → base.Ns mainGlobals mg → FnOk P w K mg base CX0 6 f fd ["script"] (lift K dLaw) := by
  obtain ⟨fd_has_signs, F_has_signs⟩ := c.t.d.def_ 0 (d := dd "has_signs" s_has_signs) rfl
  have G_has_signs : Fun K "has_signs" "has_signs" s_has_signs (He.ga K "has_signs") fd_has_signs := fun_of F_has_signs
  have D_has_signs : DefAt K mg "has_signs" s_has_signs ps_has_signs (He.ga K "has_signs") fd_has_signs := ⟨He.glo_ok X G (c.t.d.fact 0 (f := .glo "has_signs") rfl), G_has_signs, G_has_signs.binds (ps := ps_has_signs) fun _ _ _ _ _ _ us hl => match us, hl with | [_, _, _], _ => rfl⟩
  obtain ⟨fd_is_number, F_is_number⟩ := c.t.d.def_ 1 (d := dd "is_number" s_is_number) rfl
  have G_is_number : Fun K "is_number" "is_number" s_is_number (He.ga K "is_number") fd_is_number := fun_of F_is_number
  have D_is_number : DefAt K mg "is_number" s_is_number ps_is_number (He.ga K "is_number") fd_is_number := ⟨He.glo_ok X G (c.t.d.fact 1 (f := .glo "is_number") rfl), G_is_number, G_is_number.binds (ps := ps_is_number) fun _ _ _ _ _ _ us hl => match us, hl with | [_], _ => rfl⟩
  obtain ⟨fd_weight_of, F_weight_of⟩ := c.t.d.def_ 2 (d := dd "weight_of" s_weight_of) rfl
  have G_weight_of : Fun K "weight_of" "weight_of" s_weight_of (He.ga K "weight_of") fd_weight_of := fun_of F_weight_of
  have D_weight_of : DefAt K mg "weight_of" s_weight_of ps_weight_of (He.ga K "weight_of") fd_weight_of := ⟨He.glo_ok X G (c.t.d.fact 2 (f := .glo "weight_of") rfl), G_weight_of, G_weight_of.binds (ps := ps_weight_of) fun _ _ _ _ _ _ us hl => match us, hl with | [_, _], _ => rfl⟩
  obtain ⟨fd_sum_by, F_sum_by⟩ := c.t.d.def_ 3 (d := dd "sum_by" s_sum_by) rfl
  have G_sum_by : Fun K "sum_by" "sum_by" s_sum_by (He.ga K "sum_by") fd_sum_by := fun_of F_sum_by
  have D_sum_by : DefAt K mg "sum_by" s_sum_by ps_sum_by (He.ga K "sum_by") fd_sum_by := ⟨He.glo_ok X G (c.t.d.fact 3 (f := .glo "sum_by") rfl), G_sum_by, G_sum_by.binds (ps := ps_sum_by) fun _ _ _ _ _ _ us hl => match us, hl with | [_], _ => rfl⟩
  obtain ⟨fd_is_sound, F_is_sound⟩ := c.t.d.def_ 4 (d := dd "is_sound" s_is_sound) rfl
  have G_is_sound : Fun K "is_sound" "is_sound" s_is_sound (He.ga K "is_sound") fd_is_sound := fun_of F_is_sound
  have D_is_sound : DefAt K mg "is_sound" s_is_sound ps_is_sound (He.ga K "is_sound") fd_is_sound := ⟨He.glo_ok X G (c.t.d.fact 4 (f := .glo "is_sound") rfl), G_is_sound, G_is_sound.binds (ps := ps_is_sound) fun _ _ _ _ _ _ us hl => match us, hl with | [_], _ => rfl⟩
  obtain ⟨fd_check_is, F_check_is⟩ := c.t.d.def_ 5 (d := dd "check_is" s_check_is) rfl
  have G_check_is : Fun K "check_is" "check_is" s_check_is (He.ga K "check_is") fd_check_is := fun_of F_check_is
  have D_check_is : DefAt K mg "check_is" s_check_is ps_check_is (He.ga K "check_is") fd_check_is := ⟨He.glo_ok X G (c.t.d.fact 5 (f := .glo "check_is") rfl), G_check_is, G_check_is.binds (ps := ps_check_is) fun _ _ _ _ _ _ us hl => match us, hl with | [_], _ => rfl⟩
  obtain ⟨fd_mends_of, F_mends_of⟩ := c.t.d.def_ 6 (d := dd "mends_of" s_mends_of) rfl
  have G_mends_of : Fun K "mends_of" "mends_of" s_mends_of (He.ga K "mends_of") fd_mends_of := fun_of F_mends_of
  have D_mends_of : DefAt K mg "mends_of" s_mends_of ps_mends_of (He.ga K "mends_of") fd_mends_of := ⟨He.glo_ok X G (c.t.d.fact 6 (f := .glo "mends_of") rfl), G_mends_of, G_mends_of.binds (ps := ps_mends_of) fun _ _ _ _ _ _ us hl => match us, hl with | [_], _ => rfl⟩
  obtain ⟨fd__law_draws, F__law_draws⟩ := c.t.d.def_ 7 (d := dd "_law_draws" s__law_draws) rfl
  have G__law_draws : Fun K "_law_draws" "_law_draws" s__law_draws (He.ga K "_law_draws") fd__law_draws := fun_of F__law_draws
  have D__law_draws : DefAt K mg "_law_draws" s__law_draws ps__law_draws (He.ga K "_law_draws") fd__law_draws := ⟨He.glo_ok X G (c.t.d.fact 7 (f := .glo "_law_draws") rfl), G__law_draws, G__law_draws.binds (ps := ps__law_draws) fun _ _ _ _ _ _ us hl => match us, hl with | [_], _ => rfl⟩
  obtain ⟨fd__law_take, F__law_take⟩ := c.t.d.def_ 8 (d := dd "_law_take" s__law_take) rfl
  have G__law_take : Fun K "_law_take" "_law_take" s__law_take (He.ga K "_law_take") fd__law_take := fun_of F__law_take
  have D__law_take : DefAt K mg "_law_take" s__law_take ps__law_take (He.ga K "_law_take") fd__law_take := ⟨He.glo_ok X G (c.t.d.fact 8 (f := .glo "_law_take") rfl), G__law_take, G__law_take.binds (ps := ps__law_take) fun _ _ _ _ _ _ us hl => match us, hl with | [_, _], _ => rfl⟩
  obtain ⟨fd__law_pick, F__law_pick⟩ := c.t.d.def_ 9 (d := dd "_law_pick" s__law_pick) rfl
  have G__law_pick : Fun K "_law_pick" "_law_pick" s__law_pick (He.ga K "_law_pick") fd__law_pick := fun_of F__law_pick
  have D__law_pick : DefAt K mg "_law_pick" s__law_pick ps__law_pick (He.ga K "_law_pick") fd__law_pick := ⟨He.glo_ok X G (c.t.d.fact 9 (f := .glo "_law_pick") rfl), G__law_pick, G__law_pick.binds (ps := ps__law_pick) fun _ _ _ _ _ _ us hl => match us, hl with | [_, _], _ => rfl⟩
  obtain ⟨fd__law_same, F__law_same⟩ := c.t.d.def_ 10 (d := dd "_law_same" s__law_same) rfl
  have G__law_same : Fun K "_law_same" "_law_same" s__law_same (He.ga K "_law_same") fd__law_same := fun_of F__law_same
  have D__law_same : DefAt K mg "_law_same" s__law_same ps__law_same (He.ga K "_law_same") fd__law_same := ⟨He.glo_ok X G (c.t.d.fact 10 (f := .glo "_law_same") rfl), G__law_same, G__law_same.binds (ps := ps__law_same) fun _ _ _ _ _ _ us hl => match us, hl with | [_, _], _ => rfl⟩
  obtain ⟨fd__law_flags, F__law_flags⟩ := c.t.d.def_ 11 (d := dd "_law_flags" s__law_flags) rfl
  have G__law_flags : Fun K "_law_flags" "_law_flags" s__law_flags (He.ga K "_law_flags") fd__law_flags := fun_of F__law_flags
  have D__law_flags : DefAt K mg "_law_flags" s__law_flags ps__law_flags (He.ga K "_law_flags") fd__law_flags := ⟨He.glo_ok X G (c.t.d.fact 11 (f := .glo "_law_flags") rfl), G__law_flags, G__law_flags.binds (ps := ps__law_flags) fun _ _ _ _ _ _ us hl => match us, hl with | [_], _ => rfl⟩
  obtain ⟨fd__law_is_sound, F__law_is_sound⟩ := c.t.d.def_ 12 (d := dd "_law_is_sound" s__law_is_sound) rfl
  have G__law_is_sound : Fun K "_law_is_sound" "_law_is_sound" s__law_is_sound (He.ga K "_law_is_sound") fd__law_is_sound := fun_of F__law_is_sound
  have D__law_is_sound : DefAt K mg "_law_is_sound" s__law_is_sound ps__law_is_sound (He.ga K "_law_is_sound") fd__law_is_sound := ⟨He.glo_ok X G (c.t.d.fact 12 (f := .glo "_law_is_sound") rfl), G__law_is_sound, G__law_is_sound.binds (ps := ps__law_is_sound) fun _ _ _ _ _ _ us hl => match us, hl with | [_], _ => rfl⟩
  obtain ⟨fd__law_mends, F__law_mends⟩ := c.t.d.def_ 13 (d := dd "_law_mends" s__law_mends) rfl
  have G__law_mends : Fun K "_law_mends" "_law_mends" s__law_mends (He.ga K "_law_mends") fd__law_mends := fun_of F__law_mends
  have D__law_mends : DefAt K mg "_law_mends" s__law_mends ps__law_mends (He.ga K "_law_mends") fd__law_mends := ⟨He.glo_ok X G (c.t.d.fact 13 (f := .glo "_law_mends") rfl), G__law_mends, G__law_mends.binds (ps := ps__law_mends) fun _ _ _ _ _ _ us hl => match us, hl with | [_], _ => rfl⟩
  obtain ⟨fd__law_told, F__law_told⟩ := c.t.d.def_ 14 (d := dd "_law_told" s__law_told) rfl
  have G__law_told : Fun K "_law_told" "_law_told" s__law_told (He.ga K "_law_told") fd__law_told := fun_of F__law_told
  have D__law_told : DefAt K mg "_law_told" s__law_told ps__law_told (He.ga K "_law_told") fd__law_told := ⟨He.glo_ok X G (c.t.d.fact 14 (f := .glo "_law_told") rfl), G__law_told, G__law_told.binds (ps := ps__law_told) fun _ _ _ _ _ _ us hl => match us, hl with | [_], _ => rfl⟩
  obtain ⟨fd__law_damaged, F__law_damaged⟩ := c.t.d.def_ 15 (d := dd "_law_damaged" s__law_damaged) rfl
  have G__law_damaged : Fun K "_law_damaged" "_law_damaged" s__law_damaged (He.ga K "_law_damaged") fd__law_damaged := fun_of F__law_damaged
  have D__law_damaged : DefAt K mg "_law_damaged" s__law_damaged ps__law_damaged (He.ga K "_law_damaged") fd__law_damaged := ⟨He.glo_ok X G (c.t.d.fact 15 (f := .glo "_law_damaged") rfl), G__law_damaged, G__law_damaged.binds (ps := ps__law_damaged) fun _ _ _ _ _ _ us hl => match us, hl with | [_, _], _ => rfl⟩
  obtain ⟨fd_law, F_law⟩ := c.t.d.def_ 16 (d := dd "law" s_law) rfl
  have G_law : Fun K "law" "law" s_law (He.ga K "law") fd_law := fun_of F_law
  have D_law : DefAt K mg "law" s_law ps_law (He.ga K "law") fd_law := ⟨He.glo_ok X G (c.t.d.fact 16 (f := .glo "law") rfl), G_law, G_law.binds (ps := ps_law) fun _ _ _ _ _ _ us hl => match us, hl with | [_], _ => rfl⟩
  have B_len : mg "len" = none := He.free_ok X G (c.t.d.fact 23 (f := .free "len") rfl)
  have B_int : mg "int" = none := He.free_ok X G (c.t.d.fact 24 (f := .free "int") rfl)
  have B_abs : mg "abs" = none := He.free_ok X G (c.t.d.fact 25 (f := .free "abs") rfl)
  have B_range : mg "range" = none := He.free_ok X G (c.t.d.fact 26 (f := .free "range") rfl)
  have B_list : mg "list" = none := He.free_ok X G (c.t.d.fact 27 (f := .free "list") rfl)
  have B_reversed : mg "reversed" = none := He.free_ok X G (c.t.d.fact 28 (f := .free "reversed") rfl)
  have B_isinstance : mg "isinstance" = none := He.free_ok X G (c.t.d.fact 29 (f := .free "isinstance") rfl)
  have B_str : mg "str" = none := He.free_ok X G (c.t.d.fact 30 (f := .free "str") rfl)
  have B_all : mg "all" = none := He.free_ok X G (c.t.d.fact 31 (f := .free "all") rfl)
  have B_sum : mg "sum" = none := He.free_ok X G (c.t.d.fact 32 (f := .free "sum") rfl)
  have B_enumerate : mg "enumerate" = none := He.free_ok X G (c.t.d.fact 33 (f := .free "enumerate") rfl)
  have B_tuple : mg "tuple" = none := He.free_ok X G (c.t.d.fact 34 (f := .free "tuple") rfl)
  have B_dict : mg "dict" = none := He.free_ok X G (c.t.d.fact 35 (f := .free "dict") rfl)
  have B_bool : mg "bool" = none := He.free_ok X G (c.t.d.fact 36 (f := .free "bool") rfl)
  obtain ⟨t_FIGURES, c_FIGURES⟩ := He.str_ok X G (c.t.d.fact 37 (f := .str "FIGURES" "0123456789") rfl)
  obtain ⟨t_UNKNOWN, c_UNKNOWN⟩ := He.str_ok X G (c.t.d.fact 38 (f := .str "UNKNOWN" "?") rfl)
  obtain ⟨t_LONG, c_LONG⟩ := He.int_ok X G (c.t.d.fact 39 (f := .int "LONG" 12) rfl)
  have g_YardError : mg "YardError" = some (.ref (He.ga K "YardError")) := He.glo_ok X G (c.t.d.fact 17 (f := .glo "YardError") rfl)
  have g_NotRight : mg "NotRight" = some (.ref (He.ga K "NotRight")) := He.glo_ok X G (c.t.d.fact 18 (f := .glo "NotRight") rfl)
  have g_NotThere : mg "NotThere" = some (.ref (He.ga K "NotThere")) := He.glo_ok X G (c.t.d.fact 19 (f := .glo "NotThere") rfl)
  have g_NoAnswer : mg "NoAnswer" = some (.ref (He.ga K "NoAnswer")) := He.glo_ok X G (c.t.d.fact 20 (f := .glo "NoAnswer") rfl)
  have g_TooLarge : mg "TooLarge" = some (.ref (He.ga K "TooLarge")) := He.glo_ok X G (c.t.d.fact 21 (f := .glo "TooLarge") rfl)
  have g_Malformed : mg "Malformed" = some (.ref (He.ga K "Malformed")) := He.glo_ok X G (c.t.d.fact 22 (f := .glo "Malformed") rfl)
  have E_NotRight : ErrAt K mg "NotRight" (He.ga K "NotRight") := err_ok X G (c.t.d.fact 40 (f := .exc "NotRight") rfl) (c.t.d.fact 18 (f := .glo "NotRight") rfl)
  have m_NotRight : PySem.W.exmOne K (.ref (He.ga K "NotRight")) (.ref (He.ga K "YardError")) = some true := He.exm_ok (c.t.d.fact 41 (f := .exm "NotRight" "YardError" true) rfl)
  have E_TooLarge : ErrAt K mg "TooLarge" (He.ga K "TooLarge") := err_ok X G (c.t.d.fact 42 (f := .exc "TooLarge") rfl) (c.t.d.fact 21 (f := .glo "TooLarge") rfl)
  have m_TooLarge : PySem.W.exmOne K (.ref (He.ga K "TooLarge")) (.ref (He.ga K "YardError")) = some true := He.exm_ok (c.t.d.fact 43 (f := .exm "TooLarge" "YardError" true) rfl)
  have hex := c.more
  unfold exK at hex
  obtain ⟨hex0, f_TooLarge⟩ := He.ba hex
  have f_NotRight := hex0
  have X_NotRight := flags_ok f_NotRight
  have X_TooLarge := flags_ok f_TooLarge
  have e := hfa.symm.trans D_law.g
  cases e
  refine ⟨fd_law, fun s v => (FunD.bindsA (ps := ["script"]) (show FunD K "law" "law" (defArgs s_law) (defBody s_law) (defScope s_law) [] [] (He.ga K "law") fd_law from F_law) fun _ _ _ _ _ _ us hl => match us, hl with | [_], _ => rfl) s [v] rfl, fun base _ _ => ?_⟩
  have H_take : Has P w K mg base 1 "_law_take" ps__law_take dTake := ok__law_take D__law_take B_len B_int
  have H_pick := ok__law_pick D__law_pick B_len H_take
  have H_draws : Has P w K mg base 1 "_law_draws" ps__law_draws dDraws := ok__law_draws D__law_draws B_int B_abs B_range B_list B_reversed
  have H_signs : Has P w K mg base 1 "has_signs" ps_has_signs dSigns := ok_has_signs D_has_signs B_len B_isinstance B_str B_all
  have H_num := ok_is_number D_is_number c_LONG c_FIGURES H_signs
  have H_wt : Has P w K mg base 1 "weight_of" ps_weight_of dWt := ok_weight_of D_weight_of
  have H_sum := ok_sum_by D_sum_by B_sum B_enumerate B_int H_wt
  have H_snd := ok_is_sound D_is_sound H_num H_sum
  have H_lsnd : Has P w K mg base 1 "_law_is_sound" ps__law_is_sound dLSnd := ok__law_is_sound D__law_is_sound B_range B_len B_int
  have H_lm := ok__law_mends D__law_mends B_int H_lsnd
  have H_dam := ok__law_damaged D__law_damaged B_range H_take H_pick
  have H_same := fun n => ok__law_same (P := P) (w := w) (base := base) D__law_same B_len B_range B_isinstance B_tuple B_list B_dict B_bool B_int B_str n
  have H_flags : HasQ P w K mg base 1 "_law_flags" ps__law_flags (spFlags K _) := ok__law_flags D__law_flags B_isinstance ⟨g_NotRight, g_NotThere, g_NoAnswer, g_TooLarge, g_Malformed⟩
  have H_check : HasX P w K mg base 1 "check_is" ps_check_is (dCheck _) := ok_check_is D_check_is E_NotRight
  have H_mend := ok_mends_of D_mends_of c_LONG c_FIGURES c_UNKNOWN E_TooLarge H_signs H_check H_snd
  have H_told := ok__law_told D__law_told g_YardError H_mend H_flags X_NotRight X_TooLarge m_NotRight m_TooLarge
  exact ok_law D_law B_len H_draws H_pick H_dam H_lm H_told (H_same 2) H_snd
end W04
open PySem PySem.W PySem.Calls PyProof.Rows
set_option maxHeartbeats 0 in
theorem PySem.Challenge.cw_humpyard_k04_whole_damaged_numbers_holds : PySem.Challenge.rw_humpyard_k04_whole_damaged_numbers.Holds := by
  w_on; o_law
  refine HandSHeadRun.head_any (r := OpenLaw.row PySem.Challenge.rw_humpyard_k04_whole_damaged_numbers) (q := view (OpenLaw.row PySem.Challenge.rw_humpyard_k04_whole_damaged_numbers).prog [28]) (H := W04.hk) (ob := W04.ob) (M := 6000) (loose := W04.loose) (d := HandSHeadRun.topDef (OpenLaw.row PySem.Challenge.rw_humpyard_k04_whole_damaged_numbers).prog 28) (kwd := []) W04.ob_eq
    (by kernel_rfl) (fun s => by kernel_rfl) W04.run (by kernel_rfl) (by kernel_rfl) (by kernel_rfl) (by rfl) (by first | assumption | decide +kernel) (by decide +kernel) ⟨rfl, rfl, rfl, rfl, rfl, by decide +kernel⟩ ?hw ?hc
  case hw => w_witness2
  case hc =>
    refine L2.walk_ofE (l := PySem.Challenge.rw_humpyard_k04_whole_damaged_numbers) (n := 63) (k := 6) (x := "script") (CX := L2.CX0) rfl (by decide) (by kernel_rfl) ⟨rfl, by decide, by decide⟩ ?F (fun _ _ _ _ z => z)
    intro w mg fa h Y G hmg0
    obtain ⟨K, KX, c⟩ := Y
    have hmg : mg ("law" : PySem.Str) = some (.ref fa) := by
      have e : (HandSHeadRun.topDef (OpenLaw.row PySem.Challenge.rw_humpyard_k04_whole_damaged_numbers).prog 28).name = ("law" : PySem.Str) := by kernel_rfl
      rw [← e]
      exact hmg0
    obtain ⟨fd, hb, hF⟩ := W04.facts (P := (PySem.Challenge.rw_humpyard_k04_whole_damaged_numbers).prog) (w := w) KX G hmg c
    exact ⟨K, fd, Z.lift K W04.dLaw, KX, hb, fun H a ns hl _ hS => Z.law_start W04.dLaw (fun k x hk => ⟨ns, rfl, hl, rfl, hk⟩) hS, hF⟩

