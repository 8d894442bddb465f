import PyProof.Rows.All
import Wide.All
import OpenK.AllK
import Wide.FinOn
import HandS.ForMost
import HandS.IsInst
import HandS.Wide
import HandS.TupAny
import HandS.TupMul
import HandS.Zip
import KE.GoesEnum
import PyProof.ReprRoads
import HandS.Flow
import HandS.Comp
import HandS.EndBits
import HandS.Conv
import HandS.Style
import HandS.RaiseMore
import HandS.Dict
import PySem.Challenge.RW_joinreach_k01_trees_of_any_kind
set_option Elab.async false
set_option linter.all false
set_option autoImplicit false
set_option maxRecDepth 100000
/-! J: a small language of its own over the hand layer. Values as data (D), with cells for lists that are changed; each expression and statement of the text is read as a plain function (Ev, Sv). -/
namespace J
open PySem L2 PySem.Spec PyProof.Rows

/-! ### data -/
inductive Ty where
  | int | bool | str | tuple | list | dict | nt
  deriving DecidableEq
def Ty.name : Ty → String
  | .int => "int" | .bool => "bool" | .str => "str" | .tuple => "tuple" | .list => "list" | .dict => "dict" | .nt => "NoneType"
inductive D where
  | non | bl (b : Bool) | int (i : Int) | str (x : Str) | tup (xs : List D) | lst (xs : List D) | dct (ks vs : List D) | ptr (k : Nat) | scr (xs : List D) | ty (t : Ty)
/-- a cell: a list that may be changed; or none any more -/
inductive O where
  | lst (xs : List D) | dead
abbrev Cs := List O
abbrev En := List (Option D)

mutual
inductive Dv (K : PySem.W.Frag) (ρ : List Addr) (H : Hp) : V → D → Prop
  | non : Dv K ρ H .non .non
  | bl (b : Bool) : Dv K ρ H (.bl b) (.bl b)
  | int (i : Int) : Dv K ρ H (.int i) (.int i)
  | str (x : Str) : x.length ≤ sizeLine → Dv K ρ H (.str x) (.str x)
  | tup {a : Addr} {vs : List V} {ds : List D} : H a = some (.tup vs) → Dvs K ρ H vs ds → Dv K ρ H (.ref a) (.tup ds)
  | lst {a : Addr} {vs : List V} {ds : List D} : H a = some (.lst vs) → Dvs K ρ H vs ds → Dv K ρ H (.ref a) (.lst ds)
  | scr {a : Addr} {vs : List V} {ds : List D} : SqL K H a vs → Dvs K ρ H vs ds → Dv K ρ H (.ref a) (.scr ds)
  | dct {a : Addr} {kvs : List (Key × V)} {ks vs : List D} : H a = some (.dK kvs) → Dvs K ρ H (kvs.map fun p => kV p.1) ks → Dvs K ρ H (kvs.map fun p => p.2) vs → Dv K ρ H (.ref a) (.dct ks vs)
  | ptr {a : Addr} {k : Nat} : ρ[k]? = some a → Dv K ρ H (.ref a) (.ptr k)
  | ty (t : Ty) : Dv K ρ H (.ty t.name) (.ty t)
inductive Dvs (K : PySem.W.Frag) (ρ : List Addr) (H : Hp) : List V → List D → Prop
  | nil : Dvs K ρ H [] []
  | cons {v : V} {vs : List V} {d : D} {ds : List D} : Dv K ρ H v d → Dvs K ρ H vs ds → Dvs K ρ H (v :: vs) (d :: ds)
end
/-- a state: where the cells are, what is data, the heap -/
structure Wd where
  ρ : List Addr
  Hd : Hp
  H : Hp
/-- what was known is still known; what is neither data nor a cell stays as it is -/
structure Ext (w w' : Wd) : Prop where
  pre : w.ρ <+: w'.ρ
  same : Same w.Hd w'.Hd
  out : ∀ a o, w.H a = some o → a ∉ w.ρ → w.Hd a = none → w'.H a = some o ∧ a ∉ w'.ρ ∧ w'.Hd a = none
theorem Ext.refl (w : Wd) : Ext w w := ⟨List.prefix_rfl, Same.refl _, fun _ _ h g k => ⟨h, g, k⟩⟩
theorem Ext.trans {a b c : Wd} (h : Ext a b) (g : Ext b c) : Ext a c := ⟨h.pre.trans g.pre, h.same.trans g.same, fun x o e1 e2 e3 => let ⟨z1, z2, z3⟩ := h.out x o e1 e2 e3; g.out x o z1 z2 z3⟩
theorem pre_get {ρ ρ' : List Addr} (h : ρ <+: ρ') {k : Nat} {a : Addr} (e : ρ[k]? = some a) : ρ'[k]? = some a := by
  obtain ⟨t, rfl⟩ := h
  have hk := (List.getElem?_eq_some_iff.mp e).1
  rw [List.getElem?_append_left hk]
  exact e
theorem same_rd {H H' : Hp} (e : Same H H') {a : Addr} {u : HO} (h : Rd H a u) : Rd H' a u := by
  rcases h with h | ⟨o, h⟩
  · exact .inl (e _ _ h)
  · exact .inr ⟨o, e _ _ h⟩
theorem same_sqL {K : PySem.W.Frag} {H H' : Hp} (e : Same H H') {a : Addr} {xs : List V} (h : SqL K H a xs) : SqL K H' a xs := e.seq h
section
variable {K : PySem.W.Frag} {ρ ρ' : List Addr} {H H' : Hp}
mutual
theorem Dv.up (x : ρ <+: ρ') (y : Same H H') : ∀ {v : V} {d : D}, Dv K ρ H v d → Dv K ρ' H' v d
  | _, _, .non => .non
  | _, _, .bl b => .bl b
  | _, _, .int i => .int i
  | _, _, .str y z => .str y z
  | _, _, .tup h g => .tup (y _ _ h) (Dvs.up x y g)
  | _, _, .lst h g => .lst (y _ _ h) (Dvs.up x y g)
  | _, _, .scr h g => .scr (same_sqL y h) (Dvs.up x y g)
  | _, _, .dct h g k => .dct (y _ _ h) (Dvs.up x y g) (Dvs.up x y k)
  | _, _, .ptr h => .ptr (pre_get x h)
  | _, _, .ty t => .ty t
theorem Dvs.up (x : ρ <+: ρ') (y : Same H H') : ∀ {v : List V} {d : List D}, Dvs K ρ H v d → Dvs K ρ' H' v d
  | _, _, .nil => .nil
  | _, _, .cons h g => .cons (Dv.up x y h) (Dvs.up x y g)
end
end
theorem Dv.ext {K : PySem.W.Frag} {w w' : Wd} (x : Ext w w') {v : V} {d : D} (h : Dv K w.ρ w.Hd v d) : Dv K w'.ρ w'.Hd v d := Dv.up x.pre x.same h
theorem Dvs.ext {K : PySem.W.Frag} {w w' : Wd} (x : Ext w w') {v : List V} {d : List D} (h : Dvs K w.ρ w.Hd v d) : Dvs K w'.ρ w'.Hd v d := Dvs.up x.pre x.same h
section
variable {K : PySem.W.Frag} {ρ ρ' : List Addr} {H H' : Hp}
theorem Dvs.length : ∀ {vs : List V} {ds : List D}, Dvs K ρ H vs ds → vs.length = ds.length
  | _, _, .nil => rfl
  | _, _, .cons _ g => congrArg Nat.succ (Dvs.length g)
theorem Dvs.get : ∀ {vs : List V} {ds : List D} {i : Nat} {d : D}, Dvs K ρ H vs ds → ds[i]? = some d → ∃ v, vs[i]? = some v ∧ Dv K ρ H v d
  | _, _, _, _, .nil, e => by simp at e
  | _, _, 0, _, .cons h _, e => by
    simp at e
    subst e
    exact ⟨_, rfl, h⟩
  | _, _, i + 1, d, .cons _ g, e => by
    obtain ⟨v, a, b⟩ := Dvs.get (i := i) (d := d) g (by simpa using e)
    exact ⟨v, by simpa using a, b⟩
theorem Dvs.getV : ∀ {vs : List V} {ds : List D} {i : Nat} {v : V}, Dvs K ρ H vs ds → vs[i]? = some v → ∃ d, ds[i]? = some d ∧ Dv K ρ H v d
  | _, _, _, _, .nil, e => by simp at e
  | _, _, 0, _, .cons h _, e => by
    simp at e
    subst e
    exact ⟨_, rfl, h⟩
  | _, _, i + 1, v, .cons _ g, e => by
    obtain ⟨d, a, b⟩ := Dvs.getV (i := i) (v := v) g (by simpa using e)
    exact ⟨d, by simpa using a, b⟩
theorem Dvs.append : ∀ {vs us : List V} {ds es : List D}, Dvs K ρ H vs ds → Dvs K ρ H us es → Dvs K ρ H (vs ++ us) (ds ++ es)
  | _, _, _, _, .nil, g => g
  | _, _, _, _, .cons h t, g => .cons h (Dvs.append t g)
theorem Dvs.one {v : V} {d : D} (h : Dv K ρ H v d) : Dvs K ρ H [v] [d] := .cons h .nil
theorem Dvs.take : ∀ {vs : List V} {ds : List D} (n : Nat), Dvs K ρ H vs ds → Dvs K ρ H (vs.take n) (ds.take n)
  | _, _, 0, _ => .nil
  | _, _, _ + 1, .nil => .nil
  | _, _, n + 1, .cons h t => .cons h (Dvs.take n t)
theorem Dvs.drop : ∀ {vs : List V} {ds : List D} (n : Nat), Dvs K ρ H vs ds → Dvs K ρ H (vs.drop n) (ds.drop n)
  | _, _, 0, h => h
  | _, _, _ + 1, .nil => .nil
  | _, _, n + 1, .cons _ t => Dvs.drop n t
theorem Dvs.reverse : ∀ {vs : List V} {ds : List D}, Dvs K ρ H vs ds → Dvs K ρ H vs.reverse ds.reverse
  | _, _, .nil => .nil
  | _, _, .cons h t => by
    rw [List.reverse_cons, List.reverse_cons]
    exact (Dvs.reverse t).append (.one h)
theorem Dvs.set {v : V} {d : D} (h : Dv K ρ H v d) : ∀ {vs : List V} {ds : List D} (i : Nat), Dvs K ρ H vs ds → Dvs K ρ H (vs.set i v) (ds.set i d)
  | _, _, _, .nil => .nil
  | _, _, 0, .cons _ t => .cons h t
  | _, _, i + 1, .cons g t => .cons g (Dvs.set h i t)
end

/-- a cell's object -/
def ORel (K : PySem.W.Frag) (w : Wd) : HO → O → Prop
  | .lst vs, .lst ds => Dvs K w.ρ w.Hd vs ds
  | _, _ => False
/-- the heap holds the data and the cells cs -/
structure Rel (K : PySem.W.Frag) (cs : Cs) (w : Wd) : Prop where
  same : Same w.Hd w.H
  len : w.ρ.length = cs.length
  nd : w.ρ.Nodup
  cell : ∀ (k : Nat) (o : O) (a : Addr), cs[k]? = some o → w.ρ[k]? = some a → o = .dead ∨ (w.Hd a = none ∧ ∃ u, w.H a = some u ∧ ORel K w u o)
  fix : ∀ a, a ∈ w.ρ → w.H a ≠ none
theorem ORel.ext {K : PySem.W.Frag} {w w' : Wd} {u : HO} {o : O} (x : Ext w w') (h : ORel K w u o) : ORel K w' u o := by
  cases u <;> cases o <;> first | exact False.elim h | exact Dvs.ext x h
section
variable {K : PySem.W.Frag} {cs : Cs} {w : Wd} {p : Addr}
theorem Rel.free (r : Rel K cs w) (h : w.H p = none) : w.Hd p = none := r.same.free h
theorem Rel.notin (r : Rel K cs w) (h : w.H p = none) : p ∉ w.ρ := fun z => r.fix p z h
abbrev Wd.lay (w : Wd) (p : Addr) (u : HO) : Wd := ⟨w.ρ, upd w.Hd p u, upd w.H p u⟩
abbrev Wd.cell (w : Wd) (p : Addr) (u : HO) : Wd := ⟨w.ρ ++ [p], w.Hd, upd w.H p u⟩
abbrev Wd.put (w : Wd) (p : Addr) (u : HO) : Wd := ⟨w.ρ, w.Hd, upd w.H p u⟩
theorem Rel.xlay (r : Rel K cs w) (h : w.H p = none) (u : HO) : Ext w (w.lay p u) :=
  ⟨List.prefix_rfl, fun b o e => by show upd w.Hd p u b = _; rw [upd_ne (ne_of_none e (r.free h))]; exact e, fun a o e1 e2 e3 => by
    have n : a ≠ p := ne_of_none e1 h
    exact ⟨by show upd w.H p u a = _; rw [upd_ne n]; exact e1, e2, by show upd w.Hd p u a = _; rw [upd_ne n]; exact e3⟩⟩
/-- a new object that is data -/
theorem Rel.lay (r : Rel K cs w) (h : w.H p = none) (u : HO) : Rel K cs (w.lay p u) := by
  have x := r.xlay h u
  refine ⟨fun b o e => ?_, r.len, r.nd, fun k o a e1 e2 => ?_, fun a ha => ?_⟩
  · change upd w.Hd p u b = _ at e
    show upd w.H p u b = _
    by_cases hb : b = p
    · subst hb
      rw [upd_same] at e ⊢
      exact e
    · rw [upd_ne hb] at e ⊢
      exact r.same b o e
  · have na : a ≠ p := fun z => r.notin h (z ▸ List.mem_of_getElem? e2)
    rcases r.cell k o a e1 e2 with z | ⟨z, y, e3, e4⟩
    · exact .inl z
    · exact .inr ⟨by show upd w.Hd p u a = _; rw [upd_ne na]; exact z, y, by show upd w.H p u a = _; rw [upd_ne na]; exact e3, e4.ext x⟩
  · show upd w.H p u a ≠ none
    by_cases hb : a = p
    · subst hb
      rw [upd_same]
      simp
    · rw [upd_ne hb]
      exact r.fix a ha
theorem Rel.xcell (r : Rel K cs w) (h : w.H p = none) (u : HO) : Ext w (w.cell p u) :=
  ⟨List.prefix_append _ _, Same.refl _, fun a o e1 e2 e3 => by
    have n : a ≠ p := ne_of_none e1 h
    refine ⟨by show upd w.H p u a = _; rw [upd_ne n]; exact e1, fun z => ?_, e3⟩
    rcases List.mem_append.mp z with z | z
    · exact e2 z
    · exact n (by simpa using z)⟩
/-- a new object that is a cell -/
theorem Rel.layCell (r : Rel K cs w) (h : w.H p = none) {vs : List V} {ds : List D} (hv : Dvs K w.ρ w.Hd vs ds) : Rel K (cs ++ [.lst ds]) (w.cell p (.lst vs)) := by
  have x := r.xcell h (.lst vs)
  have hl := r.len
  refine ⟨fun b o e => ?_, by simp [r.len], ?_, fun k o a e1 e2 => ?_, fun a ha => ?_⟩
  · show upd w.H p _ b = _
    rw [upd_ne (ne_of_none (r.same _ _ e) h)]
    exact r.same _ _ e
  · show (w.ρ ++ [p]).Nodup
    rw [List.nodup_append]
    refine ⟨r.nd, by simp, fun a ha b hb => ?_⟩
    have e : b = p := by simpa using hb
    rw [e]
    exact fun z => r.notin h (z ▸ ha)
  · change (w.ρ ++ [p])[k]? = some a at e2
    by_cases hk : k < cs.length
    · rw [List.getElem?_append_left hk] at e1
      rw [List.getElem?_append_left (by omega)] at e2
      have na : a ≠ p := fun z => r.notin h (z ▸ List.mem_of_getElem? e2)
      rcases r.cell k o a e1 e2 with z | ⟨z, y, e3, e4⟩
      · exact .inl z
      · exact .inr ⟨z, y, by show upd w.H p _ a = _; rw [upd_ne na]; exact e3, e4.ext x⟩
    · rw [List.getElem?_append_right (by omega)] at e1
      rw [List.getElem?_append_right (by omega)] at e2
      have hk0 : k - cs.length = 0 := by
        have := (List.getElem?_eq_some_iff.mp e1).1
        simp at this
        omega
      rw [hk0] at e1
      rw [hl, hk0] at e2
      simp at e1 e2
      subst e1 e2
      exact .inr ⟨r.free h, .lst vs, upd_same, Dvs.ext x hv⟩
  · show upd w.H p _ a ≠ none
    by_cases hb : a = p
    · subst hb
      rw [upd_same]
      simp
    · rw [upd_ne hb]
      rcases List.mem_append.mp ha with z | z
      · exact r.fix a z
      · exact absurd (by simpa using z) hb
theorem nodup_at {ρ : List Addr} (nd : ρ.Nodup) {i j : Nat} {a : Addr} (x : ρ[i]? = some a) (y : ρ[j]? = some a) : i = j := by
  obtain ⟨h1, e1⟩ := List.getElem?_eq_some_iff.mp x
  obtain ⟨h2, e2⟩ := List.getElem?_eq_some_iff.mp y
  exact (List.getElem_inj nd).mp (e1.trans e2.symm)
theorem xput {k : Nat} (hk : w.ρ[k]? = some p) (u : HO) : Ext w (w.put p u) :=
  ⟨List.prefix_rfl, Same.refl _, fun a o e1 e2 e3 => ⟨by show upd w.H p u a = _; rw [upd_ne (fun z : a = p => e2 (by rw [z]; exact List.mem_of_getElem? hk))]; exact e1, e2, e3⟩⟩
/-- a cell is written -/
theorem Rel.put (r : Rel K cs w) {k : Nat} (hk : w.ρ[k]? = some p) {xs : List D} (hc : cs[k]? = some (.lst xs)) {vs : List V} {ds : List D} (hv : Dvs K w.ρ w.Hd vs ds) : Rel K (cs.set k (.lst ds)) (w.put p (.lst vs)) := by
  have hp : w.Hd p = none := by
    rcases r.cell k _ p hc hk with z | ⟨z, _⟩
    · cases z
    · exact z
  have x := xput hk (.lst vs)
  refine ⟨fun b o e => ?_, by simp [r.len], r.nd, fun j o a e1 e2 => ?_, fun a ha => ?_⟩
  · show upd w.H p _ b = _
    rw [upd_ne (fun z => by rw [z] at e; exact absurd (e.symm.trans hp) (by simp))]
    exact r.same _ _ e
  · by_cases hj : j = k
    · subst hj
      have e3 : some p = some a := hk.symm.trans e2
      cases e3
      rw [List.getElem?_set_self (List.getElem?_eq_some_iff.mp hc).1] at e1
      cases e1
      exact .inr ⟨hp, _, upd_same, Dvs.ext x hv⟩
    · rw [List.getElem?_set_ne (Ne.symm hj)] at e1
      have na : a ≠ p := fun z => hj (nodup_at r.nd e2 (z ▸ hk))
      rcases r.cell j o a e1 e2 with z | ⟨z, y, e3, e4⟩
      · exact .inl z
      · exact .inr ⟨z, y, by show upd w.H p _ a = _; rw [upd_ne na]; exact e3, e4.ext x⟩
  · show upd w.H p _ a ≠ none
    by_cases hb : a = p
    · subst hb
      rw [upd_same]
      simp
    · rw [upd_ne hb]
      exact r.fix a ha
/-- a cell is read -/
theorem Rel.get (r : Rel K cs w) {k : Nat} (hk : w.ρ[k]? = some p) {xs : List D} (hc : cs[k]? = some (.lst xs)) : ∃ vs, w.H p = some (.lst vs) ∧ Dvs K w.ρ w.Hd vs xs := by
  rcases r.cell k _ p hc hk with z | ⟨_, u, e1, e2⟩
  · cases z
  · cases u <;> first | exact False.elim e2 | exact ⟨_, e1, e2⟩
theorem Rel.ofPtr (r : Rel K cs w) {k : Nat} {o : O} (hc : cs[k]? = some o) : ∃ a, w.ρ[k]? = some a := by
  have h := (List.getElem?_eq_some_iff.mp hc).1
  rw [← r.len] at h
  exact ⟨_, List.getElem?_eq_getElem h⟩
end
end J
namespace J
open PySem L2 PySem.Spec PyProof.Rows

/-! ### results -/
inductive R (α : Type) where
  | ok (a : α) (cs : Cs) | stuck
def R.bind {α β : Type} : R α → (α → Cs → R β) → R β
  | .ok a cs, k => k a cs
  | .stuck, _ => .stuck
inductive RS where
  | nx (σ : En) (cs : Cs) | rt (d : D) (cs : Cs) | bk (σ : En) (cs : Cs) | ct (σ : En) (cs : Cs) | stuck
abbrev Ev := En → Cs → R D
abbrev Eb := En → Cs → R Bool
abbrev El := En → Cs → R (List D)
abbrev Sv := En → Cs → RS

def PostE (K : PySem.W.Frag) (r : R D) (w : Wd) (Q : VK) : Prop := match r with
  | .ok d cs' => ∀ v w', Ext w w' → Rel K cs' w' → Dv K w'.ρ w'.Hd v d → Q v w'.H
  | .stuck => False
def PostB (K : PySem.W.Frag) (r : R Bool) (w : Wd) (Q : Bool → Hp → Prop) : Prop := match r with
  | .ok b cs' => ∀ w', Ext w w' → Rel K cs' w' → Q b w'.H
  | .stuck => False
def PostL (K : PySem.W.Frag) (r : R (List D)) (w : Wd) (Q : List V → Hp → Prop) : Prop := match r with
  | .ok ds cs' => ∀ vs w', Ext w w' → Rel K cs' w' → Dvs K w'.ρ w'.Hd vs ds → Q vs w'.H
  | .stuck => False
/-- the slots -/
structure EnvR (K : PySem.W.Frag) (w : Wd) (σ : L2.St) (σd : En) : Prop where
  len : σ.length = σd.length
  at_ : ∀ (i : Nat) (d : D), σd[i]? = some (some d) → ∃ v, σ[i]? = some (some v) ∧ Dv K w.ρ w.Hd v d
theorem EnvR.ext {K : PySem.W.Frag} {w w' : Wd} {σ : L2.St} {σd : En} (e : EnvR K w σ σd) (x : Ext w w') : EnvR K w' σ σd :=
  ⟨e.len, fun i d h => let ⟨v, a, b⟩ := e.at_ i d h; ⟨v, a, b.ext x⟩⟩
theorem EnvR.set {K : PySem.W.Frag} {w : Wd} {σ : L2.St} {σd : En} (e : EnvR K w σ σd) {v : V} {d : D} (h : Dv K w.ρ w.Hd v d) (i : Nat) : EnvR K w (σ.set i (some v)) (σd.set i (some d)) := by
  refine ⟨by simp [e.len], fun j u q => ?_⟩
  by_cases hj : j = i
  · subst hj
    by_cases hl : j < σd.length
    · rw [List.getElem?_set_self hl] at q
      cases q
      exact ⟨v, List.getElem?_set_self (by rw [e.len]; exact hl), h⟩
    · rw [List.getElem?_eq_none (by simpa using hl)] at q
      cases q
  · rw [List.getElem?_set_ne (Ne.symm hj)] at q ⊢
    exact e.at_ j u q
def PostS (K : PySem.W.Frag) (r : RS) (w : Wd) (E : Ends) : Prop := match r with
  | .nx σd cs' => ∀ σ w', Ext w w' → Rel K cs' w' → EnvR K w' σ σd → E.nx σ w'.H
  | .bk σd cs' => ∀ σ w', Ext w w' → Rel K cs' w' → EnvR K w' σ σd → E.bk σ w'.H
  | .ct σd cs' => ∀ σ w', Ext w w' → Rel K cs' w' → EnvR K w' σ σd → E.ct σ w'.H
  | .rt d cs' => ∀ v w', Ext w w' → Rel K cs' w' → Dv K w'.ρ w'.Hd v d → E.rt v w'.H
  | .stuck => False
def tJ (K : PySem.W.Frag) (f : Ev) : TE := fun σ H Q => ∃ cs w σd, w.H = H ∧ Rel K cs w ∧ EnvR K w σ σd ∧ PostE K (f σd cs) w Q
def tJb (K : PySem.W.Frag) (f : Eb) : TT := fun σ H Q => ∃ cs w σd, w.H = H ∧ Rel K cs w ∧ EnvR K w σ σd ∧ PostB K (f σd cs) w Q
def tJl (K : PySem.W.Frag) (f : El) : TA := fun σ H Q => ∃ cs w σd, w.H = H ∧ Rel K cs w ∧ EnvR K w σ σd ∧ PostL K (f σd cs) w Q
def tJs (K : PySem.W.Frag) (f : Sv) : TS := fun E σ H => ∃ cs w σd, w.H = H ∧ Rel K cs w ∧ EnvR K w σ σd ∧ PostS K (f σd cs) w E
def rJ1 (K : PySem.W.Frag) (g : D → Cs → R D) : V → Hp → VK → Prop := fun x H Q => ∃ cs w d, w.H = H ∧ Rel K cs w ∧ Dv K w.ρ w.Hd x d ∧ PostE K (g d cs) w Q
def rJ2 (K : PySem.W.Frag) (g : D → D → Cs → R D) : R2 := fun x y H Q => ∃ cs w d e, w.H = H ∧ Rel K cs w ∧ Dv K w.ρ w.Hd x d ∧ Dv K w.ρ w.Hd y e ∧ PostE K (g d e cs) w Q
def rJN (K : PySem.W.Frag) (g : List D → Cs → R D) : List V → Hp → VK → Prop := fun xs H Q => ∃ cs w ds, w.H = H ∧ Rel K cs w ∧ Dvs K w.ρ w.Hd xs ds ∧ PostE K (g ds cs) w Q

section
variable {K : PySem.W.Frag} {w w' : Wd} {Q : VK} {α : Type}
theorem PostE.ext {r : R D} (h : PostE K r w Q) (x : Ext w w') : PostE K r w' Q := by
  cases r with
  | ok d cs => exact fun v w1 x1 => h v w1 (x.trans x1)
  | stuck => exact h
theorem PostB.ext {r : R Bool} {Q : Bool → Hp → Prop} (h : PostB K r w Q) (x : Ext w w') : PostB K r w' Q := by
  cases r with
  | ok d cs => exact fun w1 x1 => h w1 (x.trans x1)
  | stuck => exact h
theorem PostL.ext {r : R (List D)} {Q : List V → Hp → Prop} (h : PostL K r w Q) (x : Ext w w') : PostL K r w' Q := by
  cases r with
  | ok d cs => exact fun v w1 x1 => h v w1 (x.trans x1)
  | stuck => exact h
theorem PostS.ext {r : RS} {E : Ends} (h : PostS K r w E) (x : Ext w w') : PostS K r w' E := by
  cases r with
  | stuck => exact h
  | rt d cs => exact fun v w1 x1 => h v w1 (x.trans x1)
  | nx d cs => exact fun v w1 x1 => h v w1 (x.trans x1)
  | bk d cs => exact fun v w1 x1 => h v w1 (x.trans x1)
  | ct d cs => exact fun v w1 x1 => h v w1 (x.trans x1)
/-- P r: r's end, for any kind of end -/
theorem bindE {r : R D} {G : VK} {P : R α → Wd → Prop} (hs : ∀ w, P .stuck w → False) (hx : ∀ {r w w'}, P r w → Ext w w' → P r w') {k : D → Cs → R α} (h : P (r.bind k) w)
    (g : ∀ v d cs1 w1, Ext w w1 → Rel K cs1 w1 → Dv K w1.ρ w1.Hd v d → P (k d cs1) w1 → G v w1.H) : PostE K r w G := by
  cases r with
  | ok d cs => exact fun v w1 x r1 dv => g v d cs w1 x r1 dv (hx h x)
  | stuck => exact hs _ h
theorem bindB {r : R Bool} {G : Bool → Hp → Prop} {P : R α → Wd → Prop} (hs : ∀ w, P .stuck w → False) (hx : ∀ {r w w'}, P r w → Ext w w' → P r w') {k : Bool → Cs → R α} (h : P (r.bind k) w)
    (g : ∀ d cs1 w1, Ext w w1 → Rel K cs1 w1 → P (k d cs1) w1 → G d w1.H) : PostB K r w G := by
  cases r with
  | ok d cs => exact fun w1 x r1 => g d cs w1 x r1 (hx h x)
  | stuck => exact hs _ h
theorem bindL {r : R (List D)} {G : List V → Hp → Prop} {P : R α → Wd → Prop} (hs : ∀ w, P .stuck w → False) (hx : ∀ {r w w'}, P r w → Ext w w' → P r w') {k : List D → Cs → R α} (h : P (r.bind k) w)
    (g : ∀ v d cs1 w1, Ext w w1 → Rel K cs1 w1 → Dvs K w1.ρ w1.Hd v d → P (k d cs1) w1 → G v w1.H) : PostL K r w G := by
  cases r with
  | ok d cs => exact fun v w1 x r1 dv => g v d cs w1 x r1 dv (hx h x)
  | stuck => exact hs _ h
theorem bEE {r : R D} {G : VK} {k : D → Cs → R D} (h : PostE K (r.bind k) w Q) (g : ∀ v d cs1 w1, Ext w w1 → Rel K cs1 w1 → Dv K w1.ρ w1.Hd v d → PostE K (k d cs1) w1 Q → G v w1.H) : PostE K r w G :=
  bindE (P := fun r w => PostE K r w Q) (fun _ z => z) (fun z x => PostE.ext z x) h g
theorem bEB {r : R D} {G : VK} {Q : Bool → Hp → Prop} {k : D → Cs → R Bool} (h : PostB K (r.bind k) w Q) (g : ∀ v d cs1 w1, Ext w w1 → Rel K cs1 w1 → Dv K w1.ρ w1.Hd v d → PostB K (k d cs1) w1 Q → G v w1.H) : PostE K r w G :=
  bindE (P := fun r w => PostB K r w Q) (fun _ z => z) (fun z x => PostB.ext z x) h g
theorem bEL {r : R D} {G : VK} {Q : List V → Hp → Prop} {k : D → Cs → R (List D)} (h : PostL K (r.bind k) w Q) (g : ∀ v d cs1 w1, Ext w w1 → Rel K cs1 w1 → Dv K w1.ρ w1.Hd v d → PostL K (k d cs1) w1 Q → G v w1.H) : PostE K r w G :=
  bindE (P := fun r w => PostL K r w Q) (fun _ z => z) (fun z x => PostL.ext z x) h g
theorem bBE {r : R Bool} {G : Bool → Hp → Prop} {k : Bool → Cs → R D} (h : PostE K (r.bind k) w Q) (g : ∀ d cs1 w1, Ext w w1 → Rel K cs1 w1 → PostE K (k d cs1) w1 Q → G d w1.H) : PostB K r w G :=
  bindB (P := fun r w => PostE K r w Q) (fun _ z => z) (fun z x => PostE.ext z x) h g
theorem bBB {r : R Bool} {G Q : Bool → Hp → Prop} {k : Bool → Cs → R Bool} (h : PostB K (r.bind k) w Q) (g : ∀ d cs1 w1, Ext w w1 → Rel K cs1 w1 → PostB K (k d cs1) w1 Q → G d w1.H) : PostB K r w G :=
  bindB (P := fun r w => PostB K r w Q) (fun _ z => z) (fun z x => PostB.ext z x) h g
theorem bLE {r : R (List D)} {G : List V → Hp → Prop} {k : List D → Cs → R D} (h : PostE K (r.bind k) w Q) (g : ∀ v d cs1 w1, Ext w w1 → Rel K cs1 w1 → Dvs K w1.ρ w1.Hd v d → PostE K (k d cs1) w1 Q → G v w1.H) : PostL K r w G :=
  bindL (P := fun r w => PostE K r w Q) (fun _ z => z) (fun z x => PostE.ext z x) h g
theorem bLL {r : R (List D)} {G Q : List V → Hp → Prop} {k : List D → Cs → R (List D)} (h : PostL K (r.bind k) w Q) (g : ∀ v d cs1 w1, Ext w w1 → Rel K cs1 w1 → Dvs K w1.ρ w1.Hd v d → PostL K (k d cs1) w1 Q → G v w1.H) : PostL K r w G :=
  bindL (P := fun r w => PostL K r w Q) (fun _ z => z) (fun z x => PostL.ext z x) h g
end

/-! ### truth -/
def truth : D → Cs → Option Bool
  | .non, _ => some false
  | .bl b, _ => some b
  | .int i, _ => some (i != 0)
  | .str x, _ => some ((x.length : Int) != 0)
  | .tup xs, _ => some (!xs.isEmpty)
  | .lst xs, _ => some (!xs.isEmpty)
  | .scr xs, _ => some (!xs.isEmpty)
  | .dct ks _, _ => some (!ks.isEmpty)
  | .ptr k, cs => match cs[k]? with
    | some (.lst xs) => some (!xs.isEmpty)
    | _ => none
  | .ty _, _ => none
theorem Dvs.isEmpty {K : PySem.W.Frag} {ρ : List Addr} {H : Hp} : ∀ {vs : List V} {ds : List D}, Dvs K ρ H vs ds → vs.isEmpty = ds.isEmpty
  | _, _, .nil => rfl
  | _, _, .cons _ _ => rfl
theorem truV_of {K : PySem.W.Frag} {cs : Cs} {w : Wd} {v : V} {d : D} {b : Bool} (r : Rel K cs w) (h : Dv K w.ρ w.Hd v d) (t : truth d cs = some b) : TruV K v w.H b := by
  cases h with
  | non => exact (Option.some.inj t).symm
  | bl => exact (Option.some.inj t).symm
  | ty => cases t
  | int => exact (Option.some.inj t).symm
  | str x hx => exact ⟨hx, (Option.some.inj t).symm⟩
  | tup h g => exact .inr (.inl ⟨_, SqT.of (r.same _ _ h), by rw [g.isEmpty]; exact (Option.some.inj t).symm⟩)
  | lst h g => exact .inl ⟨_, SqL.of (r.same _ _ h), by rw [g.isEmpty]; exact (Option.some.inj t).symm⟩
  | scr h g => exact .inl ⟨_, same_sqL r.same h, by rw [g.isEmpty]; exact (Option.some.inj t).symm⟩
  | @dct a kvs ks vs h g k =>
    refine .inr (.inr ⟨kvs, r.same _ _ h, ?_⟩)
    have e := g.isEmpty
    rw [List.isEmpty_map] at e
    rw [e]
    exact (Option.some.inj t).symm
  | @ptr a k h =>
    cases hc : cs[k]? with
    | none => simp [truth, hc] at t
    | some o =>
      cases o with
      | dead => simp [truth, hc] at t
      | lst xs =>
        simp only [truth, hc] at t
        obtain ⟨vs, e1, e2⟩ := r.get h hc
        exact .inl ⟨vs, SqL.of e1, by rw [e2.isEmpty]; exact (Option.some.inj t).symm⟩

/-! ### expressions -/
def ofO {α : Type} (o : Option α) (cs : Cs) : R α := match o with
  | some a => .ok a cs
  | none => .stuck
def cVar (i : Nat) : Ev := fun σ cs => match σ[i]? with
  | some (some d) => .ok d cs
  | _ => .stuck
def cK (d : D) : Ev := fun _ cs => .ok d cs
def c1 (g : D → Cs → R D) (a : Ev) : Ev := fun σ cs => (a σ cs).bind g
def c2 (g : D → D → Cs → R D) (a b : Ev) : Ev := fun σ cs => (a σ cs).bind fun x cs1 => (b σ cs1).bind fun y cs2 => g x y cs2
def cNil : El := fun _ cs => .ok [] cs
def cCons (a : Ev) (r : El) : El := fun σ cs => (a σ cs).bind fun x cs1 => (r σ cs1).bind fun xs cs2 => .ok (x :: xs) cs2
def cN (g : List D → Cs → R D) (as : El) : Ev := fun σ cs => (as σ cs).bind g
def cAnd (a b : Ev) : Ev := fun σ cs => (a σ cs).bind fun x cs1 => (ofO (truth x cs1) cs1).bind fun t cs2 => if t = true then b σ cs2 else .ok x cs2
def cOr (a b : Ev) : Ev := fun σ cs => (a σ cs).bind fun x cs1 => (ofO (truth x cs1) cs1).bind fun t cs2 => if t = true then .ok x cs2 else b σ cs2
def cNot (a : Ev) : Ev := fun σ cs => (a σ cs).bind fun x cs1 => (ofO (truth x cs1) cs1).bind fun t cs2 => .ok (.bl (!t)) cs2
def cIf (t : Eb) (a b : Ev) : Ev := fun σ cs => (t σ cs).bind fun c cs1 => if c = true then a σ cs1 else b σ cs1
def bV (a : Ev) : Eb := fun σ cs => (a σ cs).bind fun x cs1 => ofO (truth x cs1) cs1
def bNot (a : Eb) : Eb := fun σ cs => (a σ cs).bind fun x cs1 => .ok (!x) cs1
def bAnd (a b : Eb) : Eb := fun σ cs => (a σ cs).bind fun x cs1 => if x = true then b σ cs1 else .ok false cs1
def bOr (a b : Eb) : Eb := fun σ cs => (a σ cs).bind fun x cs1 => if x = true then .ok true cs1 else b σ cs1

section
variable {X : Cx} {a b c e : Expr} {fa fb fc : Ev} {pos : Pos} {es : List Expr}
theorem _root_.L2.PE.weak {t t' : TE} (h : PE X e t) (w : ∀ σ H Q, t' σ H Q → t σ H Q) : PE X e t' := ⟨fun pins s σ H Q I hw => h.run pins s σ H Q I (w _ _ _ hw)⟩
theorem _root_.L2.PT.weak {t t' : TT} (h : PT X e t) (w : ∀ σ H Q, t' σ H Q → t σ H Q) : PT X e t' := ⟨fun pins s σ H Q I hw => h.run pins s σ H Q I (w _ _ _ hw)⟩
theorem _root_.L2.PA.weak {t t' : TA} (h : PA X es t) (w : ∀ σ H Q, t' σ H Q → t σ H Q) : PA X es t' := ⟨fun ps pins s σ H Q I hw => h.run ps pins s σ H Q I (w _ _ _ hw)⟩
theorem _root_.L2.PS.weak {st : Stmt} {t t' : TS} (h : PS X st t) (w : ∀ E σ H, t' E σ H → t E σ H) : PS X st t' := ⟨fun pins s σ H Q I hw => h.run pins s σ H Q I (w _ _ _ hw)⟩
theorem _root_.L2.PSs.weak {st : List Stmt} {t t' : TS} (h : PSs X st t) (w : ∀ E σ H, t' E σ H → t E σ H) : PSs X st t' := ⟨fun pins s σ H Q I hw => h.run pins s σ H Q I (w _ _ _ hw)⟩

abbrev JE (X : Cx) (e : Expr) (f : Ev) : Prop := PE X e (tJ X.K f)
abbrev JB (X : Cx) (e : Expr) (f : Eb) : Prop := PT X e (tJb X.K f)
abbrev JL (X : Cx) (es : List Expr) (f : El) : Prop := PA X es (tJl X.K f)
theorem _root_.L2.PE.wk {t : TE} {f : Ev} (h : PE X e t) (g : ∀ σ Q cs w σd, Rel X.K cs w → EnvR X.K w σ σd → PostE X.K (f σd cs) w Q → t σ w.H Q) : JE X e f := h.weak fun σ H Q z => by
  obtain ⟨cs, w, σd, rfl, r, e, p⟩ := z
  exact g σ Q cs w σd r e p
theorem _root_.L2.PT.wk {t : TT} {f : Eb} (h : PT X e t) (g : ∀ σ Q cs w σd, Rel X.K cs w → EnvR X.K w σ σd → PostB X.K (f σd cs) w Q → t σ w.H Q) : JB X e f := h.weak fun σ H Q z => by
  obtain ⟨cs, w, σd, rfl, r, e, p⟩ := z
  exact g σ Q cs w σd r e p
theorem _root_.L2.PA.wk {t : TA} {f : El} (h : PA X es t) (g : ∀ σ Q cs w σd, Rel X.K cs w → EnvR X.K w σ σd → PostL X.K (f σd cs) w Q → t σ w.H Q) : JL X es f := h.weak fun σ H Q z => by
  obtain ⟨cs, w, σd, rfl, r, e, p⟩ := z
  exact g σ Q cs w σd r e p
abbrev JS (X : Cx) (st : Stmt) (f : Sv) : Prop := PS X st (tJs X.K f)
abbrev JSs (X : Cx) (st : List Stmt) (f : Sv) : Prop := PSs X st (tJs X.K f)
theorem _root_.L2.PS.wk {st : Stmt} {t : TS} {f : Sv} (h : PS X st t) (g : ∀ E σ cs w σd, Rel X.K cs w → EnvR X.K w σ σd → PostS X.K (f σd cs) w E → t E σ w.H) : JS X st f := h.weak fun E σ H z => by
  obtain ⟨cs, w, σd, rfl, r, e, p⟩ := z
  exact g E σ cs w σd r e p
theorem _root_.L2.PSs.wk {st : List Stmt} {t : TS} {f : Sv} (h : PSs X st t) (g : ∀ E σ cs w σd, Rel X.K cs w → EnvR X.K w σ σd → PostS X.K (f σd cs) w E → t E σ w.H) : JSs X st f := h.weak fun E σ H z => by
  obtain ⟨cs, w, σd, rfl, r, e, p⟩ := z
  exact g E σ cs w σd r e p

theorem je_var (i : Nat) {x : Str} (hN : X.N[i]? = some x := by rfl) (hv : Vis X.env.scope x := by first | exact Or.inl rfl | exact Or.inr (Or.inl rfl) | exact Or.inr (Or.inr rfl)) (hd : (x == ("__debug__" : Str)) = false := by decide) (hcd : (x == ("__classdict__" : Str)) = false := by decide) :
    JE X (.Name x pos) (cVar i) := by
  refine (pe_var hN hv hd hcd).wk fun σ Q cs w σd r e p => ?_
  unfold cVar at p
  cases hs : σd[i]? with
  | none => rw [hs] at p; exact p.elim
  | some o =>
    cases o with
    | none => rw [hs] at p; exact p.elim
    | some d =>
      rw [hs] at p
      obtain ⟨v, e1, e2⟩ := e.at_ i d hs
      exact ⟨v, e1, p v w (Ext.refl _) r e2⟩
theorem je_const {d : D} {v : V} (h : PE X e (tC v)) (hv : ∀ K ρ Hd, Dv K ρ Hd v d) : JE X e (cK d) :=
  h.wk fun σ Q cs w σd r e p => p v w (Ext.refl _) r (hv _ _ _)
theorem je_int {i : Int} {j} : JE X (.Constant (.int i) j pos) (cK (.int i)) := je_const pe_int fun _ _ _ => .int i
theorem je_bl {i : Bool} {j} : JE X (.Constant (.bool i) j pos) (cK (.bl i)) := je_const pe_bl fun _ _ _ => .bl i
theorem je_non {j} : JE X (.Constant .none j pos) (cK .non) := je_const pe_non fun _ _ _ => .non
theorem je_str {x : Str} {j} (h : x.length ≤ sizeLine := by decide +kernel) : JE X (.Constant (.str x) j pos) (cK (.str x)) := je_const pe_str fun _ _ _ => .str x h
theorem je_gint {x : Str} {i : Int} {t : Tok} (hg : Gl X x) (hm : X.mg x = some (.int i t)) (hd : (x == ("__debug__" : Str)) = false := by decide) : JE X (.Name x pos) (cK (.int i)) := je_const (v := .int i) (pe_glob hg hm ⟨t, rfl⟩ hd) fun _ _ _ => .int i
theorem je_op {op : Operator} {g : D → D → Cs → R D} (ho : OpR X (binaryOp op) (rJ2 X.K g)) (ha : JE X a fa) (hb : JE X b fb) : JE X (.BinOp a op b pos) (c2 g fa fb) :=
  (pe_op ho ha hb).wk fun σ Q cs w σd r e p => ⟨cs, w, σd, rfl, r, e, bEE p fun v d cs1 w1 x1 r1 d1 p1 => ⟨cs1, w1, σd, rfl, r1, e.ext x1, bEE p1 fun u d2 cs2 w2 x2 r2 v2 p2 => ⟨cs2, w2, d, d2, rfl, r2, d1.ext x2, v2, p2⟩⟩⟩
theorem je_un {op : UnaryOp} {g : D → Cs → R D} (ho : UnR X (unaryOp op) (rJ1 X.K g)) (ha : JE X a fa) : JE X (.UnaryOp op a pos) (c1 g fa) :=
  (pe_un ho ha).wk fun σ Q cs w σd r e p => ⟨cs, w, σd, rfl, r, e, bEE p fun v d cs1 w1 x1 r1 d1 p1 => ⟨cs1, w1, d, rfl, r1, d1, p1⟩⟩
theorem je_cmp {op : CmpOp} {g : D → D → Cs → R D} (ho : OpR X (compareOp op) (rJ2 X.K g)) (ha : JE X a fa) (hb : JE X b fb) (hm : behindInMarks op b = false := by first | exact nobehind _ (by decide) (by decide) | rfl) : JE X (.Compare a [op] [b] pos) (c2 g fa fb) :=
  (pe_cmpR ho ha hb hm).wk fun σ Q cs w σd r e p => ⟨cs, w, σd, rfl, r, e, bEE p fun v d cs1 w1 x1 r1 d1 p1 => ⟨cs1, w1, σd, rfl, r1, e.ext x1, bEE p1 fun u d2 cs2 w2 x2 r2 v2 p2 => ⟨cs2, w2, d, d2, rfl, r2, d1.ext x2, v2, p2⟩⟩⟩
theorem jl_nil : JL X [] cNil := PA.wk pa_nil fun σ Q cs w σd r e p => p [] w (Ext.refl _) r .nil
theorem jl_cons {fs : El} (ha : JE X e fa) (hr : JL X es fs) (hs : starEach (e :: es) X.env = (false, eval e X.env) :: starEach es X.env := by rfl) : JL X (e :: es) (cCons fa fs) :=
  PA.wk (pa_cons ha hr hs) fun σ Q cs w σd r e p => ⟨cs, w, σd, rfl, r, e, bEL p fun v d cs1 w1 x1 r1 d1 p1 => ⟨cs1, w1, σd, rfl, r1, e.ext x1, bLL p1 fun u d2 cs2 w2 x2 r2 v2 p2 => p2 (v :: u) w2 (Ext.refl _) r2 (.cons (d1.ext x2) v2)⟩⟩
/-- f(e, ..), f built-in -/
theorem je_callB {id : String} {g : List D → Cs → R D} {fs : El} {x : Str} {p : Pos} (hc : CallR X (.builtin id) (rJN X.K g)) (hg : Gl X x) (hm : X.mg x = none) (hv : bootBuiltins x = some (.builtin id)) (ha : JL X (e :: es) fs) (hn : x ≠ "__name__" := by decide)
    (hdb : (x == ("__debug__" : Str)) = false := by decide) (he : starEach (e :: es) X.env = (false, eval e X.env) :: starEach es X.env := by rfl) (hpl : (backTo pos (starEach es X.env)).any (·.1) = false := by rfl) : JE X (.Call (.Name x p) (e :: es) [] pos) (cN g fs) :=
  (pe_callB hc hg hm hv ha hn hdb he hpl).wk fun σ Q cs w σd r e p => ⟨cs, w, σd, rfl, r, e, bLE p fun v d cs1 w1 x1 r1 d1 p1 => ⟨cs1, w1, d, rfl, r1, d1, p1⟩⟩
theorem je_callT {T : String} {g : List D → Cs → R D} {fs : El} {x : Str} {p : Pos} (hc : CallR X (.type T) (rJN X.K g)) (hg : Gl X x) (hm : X.mg x = none) (hv : bootBuiltins x = some (.type T)) (ha : JL X (e :: es) fs) (hn : x ≠ "__name__" := by decide)
    (hdb : (x == ("__debug__" : Str)) = false := by decide) (he : starEach (e :: es) X.env = (false, eval e X.env) :: starEach es X.env := by rfl) (hpl : (backTo pos (starEach es X.env)).any (·.1) = false := by rfl) : JE X (.Call (.Name x p) (e :: es) [] pos) (cN g fs) :=
  (pe_callTy hc hg hm hv ha hn hdb he hpl).wk fun σ Q cs w σd r e p => ⟨cs, w, σd, rfl, r, e, bLE p fun v d cs1 w1 x1 r1 d1 p1 => ⟨cs1, w1, d, rfl, r1, d1, p1⟩⟩
theorem ofO_B {K : PySem.W.Frag} {w : Wd} {o : Option Bool} {cs : Cs} {Q : Bool → Hp → Prop} (p : PostB K (ofO o cs) w Q) : ∃ b, o = some b ∧ PostB K (.ok b cs) w Q := by
  cases o with
  | none => exact p.elim
  | some b => exact ⟨b, rfl, p⟩
theorem ofO_bind {K : PySem.W.Frag} {w : Wd} {α : Type} {o : Option α} {cs : Cs} {Q : VK} {k : α → Cs → R D} (p : PostE K ((ofO o cs).bind k) w Q) : ∃ b, o = some b ∧ PostE K (k b cs) w Q := by
  cases o with
  | none => exact p.elim
  | some b => exact ⟨b, rfl, p⟩
variable {rest : List Expr}
theorem je_one {op} (h : JE X a fa) : JE X (.BoolOp op [a] pos) fa := pe_one h
theorem je_and (ha : JE X a fa) (hb : JE X (.BoolOp .And (b :: rest) pos) fb) : JE X (.BoolOp .And (a :: b :: rest) pos) (cAnd fa fb) := by
  refine (pe_andT ha hb).wk fun σ Q cs w σd r e p => ⟨cs, w, σd, rfl, r, e, bEE p fun v d cs1 w1 x1 r1 d1 p1 => ?_⟩
  obtain ⟨t, e2, p2⟩ := ofO_bind p1
  refine ⟨t, truV_of r1 d1 e2, ?_⟩
  cases t with
  | true => exact ⟨cs1, w1, σd, rfl, r1, e.ext x1, p2⟩
  | false => exact p2 v w1 (Ext.refl _) r1 d1
theorem je_or (ha : JE X a fa) (hb : JE X (.BoolOp .Or (b :: rest) pos) fb) : JE X (.BoolOp .Or (a :: b :: rest) pos) (cOr fa fb) := by
  refine (pe_orT ha hb).wk fun σ Q cs w σd r e p => ⟨cs, w, σd, rfl, r, e, bEE p fun v d cs1 w1 x1 r1 d1 p1 => ?_⟩
  obtain ⟨t, e2, p2⟩ := ofO_bind p1
  refine ⟨t, truV_of r1 d1 e2, ?_⟩
  cases t with
  | true => exact p2 v w1 (Ext.refl _) r1 d1
  | false => exact ⟨cs1, w1, σd, rfl, r1, e.ext x1, p2⟩
theorem je_not (ha : JE X a fa) : JE X (.UnaryOp .Not a pos) (cNot fa) := by
  refine (pe_notT ha).wk fun σ Q cs w σd r e p => ⟨cs, w, σd, rfl, r, e, bEE p fun v d cs1 w1 x1 r1 d1 p1 => ?_⟩
  obtain ⟨t, e2, p2⟩ := ofO_bind p1
  exact ⟨t, truV_of r1 d1 e2, p2 _ w1 (Ext.refl _) r1 (.bl _)⟩
/-! tests -/
variable {ga gb : Eb}
theorem jb_val (ha : JE X a fa) (he : ∀ whole, isTrue a X.env whole = (do let v ← whole; standAt a.pos; holding [v] (truthy v)) := by intro _; rfl) : JB X a (bV fa) := by
  refine (pt_truth ha he).wk fun σ Q cs w σd r e p => ⟨cs, w, σd, rfl, r, e, bEB p fun v d cs1 w1 x1 r1 d1 p1 => ?_⟩
  obtain ⟨t, e2, p2⟩ := ofO_B p1
  exact ⟨t, truV_of r1 d1 e2, p2 w1 (Ext.refl _) r1⟩
theorem jb_not (ha : JB X a ga) : JB X (.UnaryOp .Not a pos) (bNot ga) :=
  PT.wk (pt_not ha) fun σ Q cs w σd r e p => ⟨cs, w, σd, rfl, r, e, bBB p fun d cs1 w1 x1 r1 p1 => p1 w1 (Ext.refl _) r1⟩
abbrev JW (X : Cx) (e : Expr) (f : Eb) : Prop := PW X e (tJb X.K f)
theorem jw_wk {t : TT} {f : Eb} (h : PW X e t) (g : ∀ σ Q cs w σd, Rel X.K cs w → EnvR X.K w σ σd → PostB X.K (f σd cs) w Q → t σ w.H Q) : JW X e f := ⟨fun wh pins s σ H Q I z => h.run wh pins s σ H Q I (by
  obtain ⟨cs, w, σd, rfl, r, e, p⟩ := z
  exact g σ Q cs w σd r e p)⟩
theorem jw_and1 (ha : JB X a ga) : JW X (.BoolOp .And [a] pos) ga := pw_and1 ha
theorem jw_or1 (ha : JB X a ga) : JW X (.BoolOp .Or [a] pos) ga := pw_or1 ha
theorem jw_and (ha : JB X a ga) (hb : JW X (.BoolOp .And (b :: rest) pos) gb) : JW X (.BoolOp .And (a :: b :: rest) pos) (bAnd ga gb) := by
  refine jw_wk (pw_and ha hb) fun σ Q cs w σd r e p => ⟨cs, w, σd, rfl, r, e, bBB p fun d cs1 w1 x1 r1 p1 => ?_⟩
  cases d with
  | true => exact ⟨cs1, w1, σd, rfl, r1, e.ext x1, p1⟩
  | false => exact p1 w1 (Ext.refl _) r1
theorem jw_or (ha : JB X a ga) (hb : JW X (.BoolOp .Or (b :: rest) pos) gb) : JW X (.BoolOp .Or (a :: b :: rest) pos) (bOr ga gb) := by
  refine jw_wk (pw_or ha hb) fun σ Q cs w σd r e p => ⟨cs, w, σd, rfl, r, e, bBB p fun d cs1 w1 x1 r1 p1 => ?_⟩
  cases d with
  | true => exact p1 w1 (Ext.refl _) r1
  | false => exact ⟨cs1, w1, σd, rfl, r1, e.ext x1, p1⟩
theorem jb_w (h : JW X a ga) : JB X a ga := h.pt
theorem jb_cmp {op : CmpOp} {g : D → D → Cs → R D} (ho : OpR X (compareOp op) (rJ2 X.K g)) (ha : JE X a fa) (hb : JE X b fb) (hm : behindInMarks op b = false := by first | exact nobehind _ (by decide) (by decide) | rfl) (hg : ∀ x y cs d cs', g x y cs = .ok d cs' → ∃ b, d = .bl b) : JB X (.Compare a [op] [b] pos) (bV (c2 g fa fb)) := by
  refine PT.wk (pt_cmpR ho ha hb hm) fun σ Q cs w σd r e p => ⟨cs, w, σd, rfl, r, e, ?_⟩
  unfold bV c2 at p
  cases q1 : fa σd cs with
  | stuck => rw [q1] at p; exact p.elim
  | ok d cs1 =>
    rw [q1] at p
    refine fun v w1 x1 r1 d1 => ⟨cs1, w1, σd, rfl, r1, e.ext x1, ?_⟩
    change PostB X.K ((R.bind (fb σd cs1) fun y cs2 => g d y cs2).bind _) w Q at p
    cases q2 : fb σd cs1 with
    | stuck => rw [q2] at p; exact p.elim
    | ok d2 cs2 =>
      rw [q2] at p
      refine fun u w2 x2 r2 v2 => ⟨cs2, w2, d, d2, rfl, r2, d1.ext x2, v2, ?_⟩
      change PostB X.K (R.bind (g d d2 cs2) _) w Q at p
      cases q3 : g d d2 cs2 with
      | stuck => rw [q3] at p; exact p.elim
      | ok d3 cs3 =>
        obtain ⟨b, rfl⟩ := hg _ _ _ _ _ q3
        rw [q3] at p
        intro z w3 x3 r3 d3
        cases d3
        exact ⟨b, rfl, p w3 (x1.trans (x2.trans x3)) r3⟩
theorem je_if (hc : JB X c ga) (ha : JE X a fa) (hb : JE X b fb) : JE X (.IfExp c a b pos) (cIf ga fa fb) := by
  refine PE.wk (pe_ifExp hc ha hb) fun σ Q cs w σd r e p => ⟨cs, w, σd, rfl, r, e, bBE p fun d cs1 w1 x1 r1 p1 => ?_⟩
  cases d with
  | true => exact ⟨cs1, w1, σd, rfl, r1, e.ext x1, p1⟩
  | false => exact ⟨cs1, w1, σd, rfl, r1, e.ext x1, p1⟩
end
end J
namespace J
open PySem L2 PySem.Spec PyProof.Rows

/-! ### blocks -/
def bNil : Sv := fun σ cs => .nx σ cs
def bCons (s t : Sv) : Sv := fun σ cs => match s σ cs with
  | .nx σ1 cs1 => t σ1 cs1
  | .rt d cs1 => .rt d cs1
  | .bk σ1 cs1 => .bk σ1 cs1
  | .ct σ1 cs1 => .ct σ1 cs1
  | .stuck => .stuck
def RS.of {α : Type} : R α → (α → Cs → RS) → RS
  | .ok a cs, k => k a cs
  | .stuck, _ => .stuck
def sRet (a : Ev) : Sv := fun σ cs => RS.of (a σ cs) fun d cs1 => .rt d cs1
def sRetN : Sv := fun _ cs => .rt .non cs
def sDrop (a : Ev) : Sv := fun σ cs => RS.of (a σ cs) fun _ cs1 => .nx σ cs1
def sSet (i : Nat) (a : Ev) : Sv := fun σ cs => RS.of (a σ cs) fun d cs1 => .nx (σ.set i (some d)) cs1
def sIf (t : Eb) (a b : Sv) : Sv := fun σ cs => RS.of (t σ cs) fun c cs1 => if c = true then a σ cs1 else b σ cs1
def sPass : Sv := fun σ cs => .nx σ cs
def sBreak : Sv := fun σ cs => .bk σ cs
def sCont : Sv := fun σ cs => .ct σ cs
def sNever : Sv := fun _ _ => .stuck

section
variable {K : PySem.W.Frag} {w : Wd} {E : Ends}
theorem sEE {r : R D} {G : VK} {k : D → Cs → RS} (h : PostS K (RS.of r k) w E) (g : ∀ v d cs1 w1, Ext w w1 → Rel K cs1 w1 → Dv K w1.ρ w1.Hd v d → PostS K (k d cs1) w1 E → G v w1.H) : PostE K r w G := by
  cases r with
  | ok d cs => exact fun v w1 x r1 dv => g v d cs w1 x r1 dv (PostS.ext h x)
  | stuck => exact h.elim
theorem sBE {r : R Bool} {G : Bool → Hp → Prop} {k : Bool → Cs → RS} (h : PostS K (RS.of r k) w E) (g : ∀ d cs1 w1, Ext w w1 → Rel K cs1 w1 → PostS K (k d cs1) w1 E → G d w1.H) : PostB K r w G := by
  cases r with
  | ok d cs => exact fun w1 x r1 => g d cs w1 x r1 (PostS.ext h x)
  | stuck => exact h.elim
theorem sLE {r : R (List D)} {G : List V → Hp → Prop} {k : List D → Cs → RS} (h : PostS K (RS.of r k) w E) (g : ∀ v d cs1 w1, Ext w w1 → Rel K cs1 w1 → Dvs K w1.ρ w1.Hd v d → PostS K (k d cs1) w1 E → G v w1.H) : PostL K r w G := by
  cases r with
  | ok d cs => exact fun v w1 x r1 dv => g v d cs w1 x r1 dv (PostS.ext h x)
  | stuck => exact h.elim
end
section
variable {X : Cx} {st : Stmt} {rest : List Stmt} {f g : Sv} {e : Expr} {fa : Ev} {pos : Pos}
theorem js_nil : JSs X [] bNil := PSs.wk pss_nil fun E σ cs w σd r e p => p σ w (Ext.refl _) r e
theorem js_cons (h1 : JS X st f) (h2 : JSs X rest g) : JSs X (st :: rest) (bCons f g) := by
  refine PSs.wk (pss_cons h1 h2) fun E σ cs w σd r e p => ⟨cs, w, σd, rfl, r, e, ?_⟩
  unfold bCons at p
  cases q : f σd cs with
  | stuck => rw [q] at p; exact p
  | nx σ1 cs1 => rw [q] at p; exact fun σ' w' x r' e' => ⟨cs1, w', σ1, rfl, r', e', p.ext x⟩
  | rt d cs1 => rw [q] at p; exact p
  | bk σ1 cs1 => rw [q] at p; exact p
  | ct σ1 cs1 => rw [q] at p; exact p
theorem js_one (h1 : JS X st f) : JSs X [st] f := pss_one h1
theorem js_ret (he : JE X e fa) : JS X (.Return (some e) pos) (sRet fa) :=
  PS.wk (ps_ret he) fun E σ cs w σd r e p => ⟨cs, w, σd, rfl, r, e, sEE p fun v d cs1 w1 x1 r1 d1 p1 => p1 v w1 (Ext.refl _) r1 d1⟩
theorem js_retN : JS X (.Return none pos) sRetN := PS.wk ps_retN fun E σ cs w σd r e p => p .non w (Ext.refl _) r .non
theorem js_expr (he : JE X e fa) (hs : swapsWith e none pos.line X.env = pure false := by rfl) : JS X (.Expr e pos) (sDrop fa) :=
  PS.wk (ps_expr he hs) fun E σ cs w σd r e p => ⟨cs, w, σd, rfl, r, e, sEE p fun v d cs1 w1 x1 r1 d1 p1 => p1 σ w1 (Ext.refl _) r1 (e.ext x1)⟩
theorem js_doc {x : Str} {j} {pos pos' : Pos} : JS X (.Expr (.Constant (.str x) j pos) pos') sPass := PS.wk ps_doc fun E σ cs w σd r e p => p σ w (Ext.refl _) r e
theorem js_pass : JS X (.Pass pos) sPass := PS.wk ps_pass fun E σ cs w σd r e p => p σ w (Ext.refl _) r e
theorem js_break : JS X (.Break pos) sBreak := PS.wk ps_break fun E σ cs w σd r e p => p σ w (Ext.refl _) r e
theorem js_cont : JS X (.Continue pos) sCont := PS.wk ps_continue fun E σ cs w σd r e p => p σ w (Ext.refl _) r e
theorem js_never : JS X st sNever := PS.wk ps_never fun E σ cs w σd r e p => p
theorem js_if {c : Expr} {a b : List Stmt} {t : Eb} (hc : JB X c t) (ha : JSs X a f) (hb : JSs X b g) : JS X (.If c a b pos) (sIf t f g) := by
  refine PS.wk (ps_if hc ha hb) fun E σ cs w σd r e p => ⟨cs, w, σd, rfl, r, e, sBE p fun d cs1 w1 x1 r1 p1 => ?_⟩
  cases d with
  | true => exact ⟨cs1, w1, σd, rfl, r1, e.ext x1, p1⟩
  | false => exact ⟨cs1, w1, σd, rfl, r1, e.ext x1, p1⟩
theorem asg_imp {i : Nat} {t : TE} {E : Ends} {σ : L2.St} {cs : Cs} {w : Wd} {σd : En} (ht : ∀ Q, PostE X.K (fa σd cs) w Q → t σ w.H Q) (e : EnvR X.K w σ σd) (p : PostS X.K (sSet i fa σd cs) w E) : tAsg t (gName i) E σ w.H :=
  ht _ (sEE p fun v d cs1 w1 x1 r1 d1 p1 => p1 _ w1 (Ext.refl _) r1 ((e.ext x1).set d1 i))
theorem js_set {i : Nat} {x : Str} {pos' : Pos} (hN : X.N.Nodup) (hi : X.N[i]? = some x) (hx : Loc X.env.scope x) (he : JE X e fa) (hs : swapsWith e (some (.Name x pos')) pos.line X.env = pure false := by rfl)
    (hf : X.fn x = true ∨ X.env.scope.names.lookup x = some .local := by first | exact .inl rfl | exact .inr rfl | assumption) : JS X (.Assign [.Name x pos'] e pos) (sSet i fa) :=
  PS.wk (ps_set hN hi hx he hs hf) fun E σ cs w σd r e p => asg_imp (fun Q q => ⟨cs, w, σd, rfl, r, e, q⟩) e p
end

/-! ### targets -/
abbrev Tg := D → En → Option En
abbrev Tgs := List D → En → Option En
def gNm (i : Nat) : Tg := fun d σ => some (σ.set i (some d))
def gNil : Tgs := fun ds σ => match ds with
  | [] => some σ
  | _ => none
def gCons (t : Tg) (u : Tgs) : Tgs := fun ds σ => match ds with
  | d :: r => (t d σ).bind (u r)
  | [] => none
def gTp (n : Nat) (u : Tgs) : Tg := fun d σ => match d with
  | .tup ds => if ds.length = n then u ds σ else none
  | _ => none
/-- σ' is σ but for the slots vs -/
structure But (vs : List Nat) (σ σ' : L2.St) : Prop where
  len : σ'.length = σ.length
  out : ∀ i, i ∉ vs → σ'[i]? = σ[i]?
theorem But.trans {vs : List Nat} {a b c : L2.St} (h : But vs a b) (g : But vs b c) : But vs a c := ⟨g.len.trans h.len, fun i hi => (g.out i hi).trans (h.out i hi)⟩
theorem But.wipe {vs : List Nat} {a b : L2.St} (h : But vs a b) : wipe b vs = wipe a vs := by
  have key : ∀ (us : List Nat) (i : Nat), ((L2.wipe b us)[i]? = (L2.wipe a us)[i]? ∨ (i ∉ us ∧ i ∈ vs)) := by
    intro us i
    induction us with
    | nil =>
      by_cases hi : i ∈ vs
      · exact .inr ⟨by simp, hi⟩
      · exact .inl (h.out i hi)
    | cons u us ih =>
      unfold L2.wipe
      by_cases hu : u = i
      · subst hu
        left
        by_cases hl : u < (L2.wipe b us).length
        · rw [List.getElem?_set_self hl, List.getElem?_set_self (by rw [wipe_length, ← h.len, ← wipe_length b us]; exact hl)]
        · rw [List.getElem?_eq_none (by simpa using hl), List.getElem?_eq_none (by rw [List.length_set, wipe_length, ← h.len, ← wipe_length b us]; omega)]
      · rw [List.getElem?_set_ne hu, List.getElem?_set_ne hu]
        rcases ih with z | ⟨z1, z2⟩
        · exact .inl z
        · exact .inr ⟨by simp only [List.mem_cons, not_or]; exact ⟨fun q => hu q.symm, z1⟩, z2⟩
  refine List.ext_getElem? fun i => ?_
  rcases key vs i with z | ⟨z1, z2⟩
  · exact z
  · exact absurd z2 z1
def tJg (K : PySem.W.Frag) (vs : List Nat) (g : Tg) : TG := fun v σ H Q => ∃ cs w σd d σd', w.H = H ∧ Rel K cs w ∧ EnvR K w σ σd ∧ Dv K w.ρ w.Hd v d ∧ g d σd = some σd' ∧ ∀ σ', EnvR K w σ' σd' → But vs σ σ' → Q σ' H
def tJgs (K : PySem.W.Frag) (vs : List Nat) (g : Tgs) : TGs := fun us σ H Q => ∃ cs w σd ds σd', w.H = H ∧ Rel K cs w ∧ EnvR K w σ σd ∧ Dvs K w.ρ w.Hd us ds ∧ g ds σd = some σd' ∧ ∀ σ', EnvR K w σ' σd' → But vs σ σ' → Q σ' H
abbrev JG (X : Cx) (vs : List Nat) (e : Expr) (g : Tg) : Prop := PG X e (tJg X.K vs g)
abbrev JGs (X : Cx) (vs : List Nat) (es : List Expr) (g : Tgs) : Prop := PGs X es (tJgs X.K vs g)
section
variable {X : Cx} {vs : List Nat} {e : Expr} {es : List Expr} {t : Tg} {u : Tgs} {pos : Pos}
theorem pg_weak {t t' : TG} (h : PG X e t) (w : ∀ v σ H Q, t' v σ H Q → t v σ H Q) : PG X e t' := ⟨fun pins s σ H v u Q I r hw => h.run pins s σ H v u Q I r (w _ _ _ _ hw)⟩
theorem pgs_weak {t t' : TGs} (h : PGs X es t) (w : ∀ v σ H Q, t' v σ H Q → t v σ H Q) : PGs X es t' := ⟨fun pins s σ H v u Q I r hw => h.run pins s σ H v u Q I r (w _ _ _ _ hw)⟩
theorem jg_name {i : Nat} {x : Str} (hm : i ∈ vs) (hN : X.N.Nodup) (hi : X.N[i]? = some x) (hx : Loc X.env.scope x) (hf : X.fn x = true ∨ X.env.scope.names.lookup x = some .local := by first | exact .inl rfl | exact .inr rfl | assumption) : JG X vs (.Name x pos) (gNm i) := by
  refine pg_weak (pg_name hN hi hx hf) fun v σ H Q h => ?_
  obtain ⟨cs, w, σd, d, σd', rfl, r, e, dv, hg, k⟩ := h
  cases hg
  exact k _ (e.set dv i) ⟨by simp, fun j hj => List.getElem?_set_ne (fun z : i = j => hj (by rw [← z]; exact hm))⟩
theorem jgs_nil : JGs X vs [] gNil := by
  refine pgs_weak pgs_nil fun v σ H Q h => ?_
  obtain ⟨cs, w, σd, ds, σd', rfl, r, e, dv, hg, k⟩ := h
  cases dv with
  | nil => exact ⟨rfl, k _ (by cases hg; exact e) ⟨rfl, fun _ _ => rfl⟩⟩
  | cons a b => cases hg
theorem jgs_cons (h1 : JG X vs e t) (h2 : JGs X vs es u) (hs : (assignEach (e :: es) X.env).map (·.2) = assign e X.env :: (assignEach es X.env).map (·.2) := by rfl) : JGs X vs (e :: es) (gCons t u) := by
  refine pgs_weak (pgs_cons h1 h2 hs) fun v σ H Q h => ?_
  obtain ⟨cs, w, σd, ds, σd', rfl, r, e, dv, hg, k⟩ := h
  cases dv with
  | nil => cases hg
  | @cons v vs' d ds' a b =>
    change (t d σd).bind (u ds') = some σd' at hg
    cases q : t d σd with
    | none => rw [q] at hg; cases hg
    | some σ1 =>
      rw [q] at hg
      exact ⟨v, vs', rfl, cs, w, σd, d, σ1, rfl, r, e, a, q, fun σ' e' b' => ⟨cs, w, σ1, ds', σd', rfl, r, e', b, hg, fun σ'' e'' b'' => k σ'' e'' (b'.trans b'')⟩⟩
theorem jg_tup {k n : Nat} (hc : X.calm = true) (h : JGs X vs es u) (hn : (assignEach es X.env).length = n := by rfl) (hst : (assignEach es X.env).findIdx? (·.1) = none := by rfl) : JG X vs (.Tuple es k pos) (gTp n u) := by
  refine pg_weak (pg_tup hc h hn hst) fun v σ H Q h => ?_
  obtain ⟨cs, w, σd, d, σd', rfl, r, e, dv, hg, k⟩ := h
  cases dv with
  | @tup a us ds ha hv =>
    change (if ds.length = n then u ds σd else none) = some σd' at hg
    by_cases hl : ds.length = n
    · rw [if_pos hl] at hg
      exact ⟨a, us, rfl, SqT.of (r.same _ _ ha), by rw [hv.length]; exact hl, cs, w, σd, ds, σd', rfl, r, e, hv, hg, k⟩
    · rw [if_neg hl] at hg
      cases hg
  | _ => cases hg
def sAsg (a : Ev) (g : Tg) : Sv := fun σ cs => RS.of (a σ cs) fun d cs1 => match g d σ with
  | some σ1 => .nx σ1 cs1
  | none => .stuck
theorem js_asg {tg : Expr} {fa : Ev} (he : JE X e fa) (hg : JG X vs tg t) (hs : swapsWithSole [tg] e pos.line X.env = pure false := by rfl) (hw : swappedStores [tg] e X.env = pure none := by rfl) (h1 : (assignEach [tg] X.env).map (·.2) = [assign tg X.env] := by rfl) : JS X (.Assign [tg] e pos) (sAsg fa t) := by
  refine PS.wk (ps_asg he hg hs hw h1) fun E σ cs w σd r e p => ⟨cs, w, σd, rfl, r, e, sEE p fun v d cs1 w1 x1 r1 d1 p1 => ?_⟩
  cases q : t d σd with
  | none => rw [q] at p1; exact p1.elim
  | some σ1 =>
    rw [q] at p1
    exact ⟨cs1, w1, σd, d, σ1, rfl, r1, e.ext x1, d1, q, fun σ' e' _ => p1 σ' w1 (Ext.refl _) r1 e'⟩
/-- a, b = x, y -/
def sPar (i j : Nat) (as : El) : Sv := fun σ cs => RS.of (as σ cs) fun ds cs1 => match ds with
  | [x, y] => .nx ((σ.set i (some x)).set j (some y)) cs1
  | _ => .stuck
theorem js_par {i j : Nat} {x y : Str} {a b : Expr} {as : El} {px py pt : Pos} {kt k2 pt2} (hc : X.calm = true) (hN : X.N.Nodup) (hi : X.N[i]? = some x) (hj : X.N[j]? = some y) (hij : i ≠ j) (hx : X.env.scope.names.lookup x = some .local) (hy : X.env.scope.names.lookup y = some .local) (ha : JL X [a, b] as)
    (hw : swappedStores [.Tuple [.Name x px, .Name y py] kt pt] (.Tuple [a, b] k2 pt2) X.env = pure (some [x, y])) (hs : swapsWithSole [.Tuple [.Name x px, .Name y py] kt pt] (.Tuple [a, b] k2 pt2) pos.line X.env = pure false := by rfl) :
    JS X (.Assign [.Tuple [.Name x px, .Name y py] kt pt] (.Tuple [a, b] k2 pt2) pos) (sPar i j as) := by
  refine PS.wk (ps_par hc hN hi hj hij hx hy ha hw hs) fun E σ cs w σd r e p => ⟨cs, w, σd, rfl, r, e, sLE p fun v d cs1 w1 x1 r1 d1 p1 => ?_⟩
  cases d1 with
  | nil => exact p1.elim
  | cons a1 t1 =>
    cases t1 with
    | nil => exact p1.elim
    | cons a2 t2 =>
      cases t2 with
      | cons => exact p1.elim
      | nil => exact ⟨_, _, rfl, p1 _ w1 (Ext.refl _) r1 (((e.ext x1).set a1 i).set a2 j)⟩
end

/-! ### what is walked -/
structure WalkOf (K : PySem.W.Frag) (w : Wd) (J : It) (ds : List D) : Prop where
  go : ∀ (i : Nat) w' cs', Ext w w' → Rel K cs' w' → i < ds.length → J.go i w'.H
  yld : ∀ (i : Nat) w' cs' x H' d, Ext w w' → Rel K cs' w' → ds[i]? = some d → J.yld i w'.H x H' → ∃ w'', w''.H = H' ∧ Ext w' w'' ∧ Rel K cs' w'' ∧ Dv K w''.ρ w''.Hd x d
  stop : ∀ w' cs', Ext w w' → Rel K cs' w' → J.stop ds.length w'.H
def PostI (K : PySem.W.Frag) (r : R (List D)) (w : Wd) (Rr : It → Hp → Prop) : Prop := match r with
  | .ok ds cs' => ∀ J w', Ext w w' → Rel K cs' w' → WalkOf K w' J ds → Rr J w'.H
  | .stuck => False
def tJi (K : PySem.W.Frag) (f : El) : TI := fun σ H Rr => ∃ cs w σd, w.H = H ∧ Rel K cs w ∧ EnvR K w σ σd ∧ PostI K (f σd cs) w Rr
abbrev JI (X : Cx) (tg e : Expr) (f : El) : Prop := PI X tg e (tJi X.K f)

/-! ### comprehensions -/
def LIM : Nat := 1000000
theorem lim_lt : LIM < sizeLine := by rw [sizeLine_eq]; decide
def wipeD (σ : En) : List Nat → En
  | [] => σ
  | v :: vs => (wipeD σ vs).set v none
theorem wipe_env {K : PySem.W.Frag} {w : Wd} {σ : L2.St} {σd : En} (e : EnvR K w σ σd) : ∀ vs : List Nat, EnvR K w (wipe σ vs) (wipeD σd vs)
  | [] => e
  | v :: vs => by
    have ih := wipe_env e vs
    refine ⟨by unfold wipe wipeD; simp [ih.len], fun i d q => ?_⟩
    unfold wipeD at q
    unfold wipe
    by_cases hi : v = i
    · subst hi
      by_cases hl : v < (wipeD σd vs).length
      · rw [List.getElem?_set_self hl] at q
        cases q
      · rw [List.getElem?_eq_none (by simpa using hl)] at q
        cases q
    · rw [List.getElem?_set_ne hi] at q ⊢
      exact ih.at_ i d q
def compD (g : Tg) (t : Eb) (f : Ev) (σ : En) : List D → Cs → R (List D)
  | [], cs => .ok [] cs
  | x :: xs, cs => match g x σ with
    | none => .stuck
    | some σ1 => (t σ1 cs).bind fun b cs1 => if b = true then (f σ1 cs1).bind fun y cs2 => (compD g t f σ xs cs2).bind fun ys cs3 => .ok (y :: ys) cs3 else compD g t f σ xs cs1
def cLc (it : El) (g : Tg) (t : Eb) (f : Ev) (vs : List Nat) : Ev := fun σ cs => (it σ cs).bind fun ds cs1 => if ds.length ≤ LIM then (compD g t f (wipeD σ vs) ds cs1).bind fun ys cs2 => .ok (.lst ys) cs2 else .stuck
def bYes : Eb := fun _ cs => .ok true cs

section
variable {K : PySem.W.Frag} {cs : Cs} {w : Wd} {p : Addr}
theorem Rel.side (r : Rel K cs w) (h1 : p ∉ w.ρ) (h2 : w.Hd p = none) (u : HO) : Rel K cs (w.put p u) := by
  have x : Same w.Hd (upd w.H p u) := fun b o e => by
    rw [upd_ne (fun z => by rw [z] at e; exact absurd (e.symm.trans h2) (by simp))]
    exact r.same _ _ e
  refine ⟨x, r.len, r.nd, fun k o a e1 e2 => ?_, fun a ha => ?_⟩
  · have na : a ≠ p := fun z => h1 (by rw [← z]; exact List.mem_of_getElem? e2)
    rcases r.cell k o a e1 e2 with z | ⟨z, y, e3, e4⟩
    · exact .inl z
    · refine .inr ⟨z, y, by show upd w.H p u a = _; rw [upd_ne na]; exact e3, ?_⟩
      cases y <;> cases o <;> first | exact False.elim e4 | exact e4
  · show upd w.H p u a ≠ none
    rw [upd_ne (fun z => h1 (by rw [← z]; exact ha))]
    exact r.fix a ha
theorem Rel.adopt (r : Rel K cs w) {u : HO} (h0 : w.H p = some u) (h1 : p ∉ w.ρ) (h2 : w.Hd p = none) : Rel K cs ⟨w.ρ, upd w.Hd p u, w.H⟩ := by
  refine ⟨fun b o e => ?_, r.len, r.nd, fun k o a e1 e2 => ?_, r.fix⟩
  · by_cases hb : b = p
    · subst hb
      have e' : upd w.Hd b u b = some o := e
      rw [upd_same] at e'
      rw [← e']
      exact h0
    · have e' : upd w.Hd p u b = some o := e
      rw [upd_ne hb] at e'
      exact r.same _ _ e'
  · have na : a ≠ p := fun z => h1 (by rw [← z]; exact List.mem_of_getElem? e2)
    have x : Same w.Hd (upd w.Hd p u) := fun b o e => by
      rw [upd_ne (fun z => by rw [z] at e; exact absurd (e.symm.trans h2) (by simp))]
      exact e
    rcases r.cell k o a e1 e2 with z | ⟨z, y, e3, e4⟩
    · exact .inl z
    · refine .inr ⟨by show upd w.Hd p u a = _; rw [upd_ne na]; exact z, y, e3, ?_⟩
      cases y <;> cases o <;> first | exact False.elim e4 | exact Dvs.up List.prefix_rfl x e4
theorem same_upd {H : Hp} {u : HO} (h2 : H p = none) : Same H (upd H p u) := fun b o e => by
  rw [upd_ne (fun z => by rw [z] at e; exact absurd (e.symm.trans h2) (by simp))]
  exact e
end
theorem PostI.bind {K : PySem.W.Frag} {w : Wd} {Q : VK} {r : R (List D)} {k : List D → Cs → R D} {Rr : It → Hp → Prop} (h : PostE K (r.bind k) w Q) (g : ∀ J ds cs1 w1, Ext w w1 → Rel K cs1 w1 → WalkOf K w1 J ds → PostE K (k ds cs1) w1 Q → Rr J w1.H) : PostI K r w Rr := by
  cases r with
  | ok d cs => exact fun J w1 x r1 wo => g J d cs w1 x r1 wo (PostE.ext h x)
  | stuck => exact h.elim
theorem lc_imp {K : PySem.W.Frag} {it : El} {g : Tg} {t : Eb} {f : Ev} {vs : List Nat} {σ : L2.St} {cs : Cs} {w : Wd} {σd : En} {Q : VK} (r : Rel K cs w) (e : EnvR K w σ σd) (p : PostE K (cLc it g t f vs σd cs) w Q) :
    tLc (tJi K it) (tJg K vs g) (tJb K t) (tJ K f) vs σ w.H Q := by
  refine ⟨cs, w, σd, rfl, r, e, PostI.bind p fun J ds cs1 w1 x1 r1 wo p1 => ?_⟩
  intro A hA
  have hle : ds.length ≤ LIM := by
    by_cases hl : ds.length ≤ LIM
    · exact hl
    · rw [if_neg hl] at p1
      exact p1.elim
  rw [if_pos hle] at p1
  have e1 := wipe_env (e.ext x1) vs
  have hA1 : A ∉ w1.ρ := r1.notin hA
  have hA2 : w1.Hd A = none := r1.free hA
  refine ⟨fun i m H => m = ds.length - i ∧ i ≤ ds.length ∧ ∃ csi wi acc dac, wi.H = H ∧ Ext w1 wi ∧ Rel K csi wi ∧ wi.H A = some (.lst acc) ∧ A ∉ wi.ρ ∧ wi.Hd A = none ∧ Dvs K wi.ρ wi.Hd acc dac ∧ acc.length ≤ i ∧
      PostE K ((compD g t f (wipeD σd vs) (ds.drop i) csi).bind fun ys cs2 => .ok (.lst (dac ++ ys)) cs2) w1 Q, ⟨ds.length, rfl, Nat.zero_le _, cs1, w1.put A (.lst []), [], [], rfl, ?_, r1.side hA1 hA2 _, upd_same, hA1, hA2, .nil, Nat.le_refl _, ?_⟩, ?_⟩
  · exact ⟨List.prefix_rfl, Same.refl _, fun a o h1 h2 h3 => ⟨by show upd w1.H A _ a = _; rw [upd_ne (ne_of_none h1 hA)]; exact h1, h2, h3⟩⟩
  · exact p1
  · rintro i m H ⟨rfl, hi, csi, wi, acc, dac, rfl, xi, ri, hai, hni, hdi, dvi, hli, pi⟩
    by_cases hlt : i < ds.length
    · right
      refine ⟨wo.go i wi csi xi ri hlt, fun H' => ∃ csi wi acc dac, wi.H = H' ∧ Ext w1 wi ∧ Rel K csi wi ∧ wi.H A = some (.lst acc) ∧ A ∉ wi.ρ ∧ wi.Hd A = none ∧ Dvs K wi.ρ wi.Hd acc dac ∧ acc.length ≤ i + 1 ∧
        PostE K ((compD g t f (wipeD σd vs) (ds.drop (i + 1)) csi).bind fun ys cs2 => .ok (.lst (dac ++ ys)) cs2) w1 Q, fun H' hh => ⟨ds.length - (i + 1), by omega, rfl, hlt, hh⟩, ?_⟩
      intro x H' hy
      have hd : ds[i]? = some ds[i] := List.getElem?_eq_getElem hlt
      obtain ⟨w2, rfl, x2, r2, dx⟩ := wo.yld i wi csi x H' ds[i] xi ri hd hy
      obtain ⟨ha2, hn2, hd2⟩ := x2.out A _ hai hni hdi
      rw [List.drop_eq_getElem_cons hlt] at pi
      unfold compD at pi
      cases q : g ds[i] (wipeD σd vs) with
      | none => rw [q] at pi; exact pi.elim
      | some σ1 =>
        rw [q] at pi
        refine ⟨csi, w2, wipeD σd vs, ds[i], σ1, rfl, r2, e1.ext (xi.trans x2), dx, q, fun σ2 e2 b2 => ⟨?_, csi, w2, σ1, rfl, r2, e2, ?_⟩⟩
        · rw [b2.wipe]
          have idem : ∀ (us : List Nat), (∀ u ∈ us, u ∈ vs) → L2.wipe (L2.wipe σ vs) us = L2.wipe σ vs := by
            intro us hu
            induction us with
            | nil => rfl
            | cons u us ih =>
              show (L2.wipe (L2.wipe σ vs) us).set u none = _
              rw [ih fun z hz => hu z (List.mem_cons_of_mem _ hz)]
              refine List.ext_getElem? fun j => ?_
              by_cases hj : u = j
              · subst hj
                by_cases hl : u < (L2.wipe σ vs).length
                · rw [List.getElem?_set_self hl]
                  cases z : (L2.wipe σ vs)[u]? with
                  | none => rw [List.getElem?_eq_none_iff] at z; omega
                  | some o =>
                    cases o with
                    | none => rfl
                    | some y => exact absurd (hu u List.mem_cons_self) (wipe_some z).2
                · rw [List.getElem?_eq_none (by simpa using hl), List.getElem?_eq_none (by simpa using hl)]
              · rw [List.getElem?_set_ne hj]
          exact idem vs fun _ z => z
        · change PostE K (((t σ1 csi).bind _).bind _) w1 Q at pi
          cases qt : t σ1 csi with
          | stuck => rw [qt] at pi; exact pi.elim
          | ok b cs3 =>
            rw [qt] at pi
            change PostE K ((if b = true then _ else _ : R (List D)).bind _) w1 Q at pi
            intro w3 x3 r3
            obtain ⟨ha3, hn3, hd3⟩ := x3.out A _ ha2 hn2 hd2
            cases b with
            | false =>
              exact ⟨cs3, w3, acc, dac, rfl, xi.trans (x2.trans x3), r3, ha3, hn3, hd3, Dvs.ext (x2.trans x3) dvi, by omega, pi⟩
            | true =>
              refine ⟨cs3, w3, σ1, rfl, r3, e2.ext x3, ?_⟩
              change PostE K (((f σ1 cs3).bind _).bind _) w1 Q at pi
              cases qf : f σ1 cs3 with
              | stuck => rw [qf] at pi; exact pi.elim
              | ok y cs4 =>
                rw [qf] at pi
                intro v w4 x4 r4 d4
                obtain ⟨ha4, hn4, hd4⟩ := x4.out A _ ha3 hn3 hd3
                have dac4 : Dvs K w4.ρ w4.Hd acc dac := Dvs.ext (x2.trans (x3.trans x4)) dvi
                refine ⟨acc, ha4, by have := lim_lt; omega, cs4, w4.put A (.lst (acc ++ [v])), acc ++ [v], dac ++ [y], rfl, ?_, r4.side hn4 hd4 _, upd_same, hn4, hd4, dac4.append (.one d4), by simp; omega, ?_⟩
                · have z := xi.trans (x2.trans (x3.trans x4))
                  exact ⟨z.pre, z.same, fun a o h1 h2 h3 => by
                    obtain ⟨z1, z2, z3⟩ := z.out a o h1 h2 h3
                    exact ⟨by show upd w4.H A _ a = _; rw [upd_ne (ne_of_none h1 hA)]; exact z1, z2, z3⟩⟩
                · change PostE K (((compD g t f (wipeD σd vs) (ds.drop (i + 1)) cs4).bind _).bind _) w1 Q at pi
                  cases qc : compD g t f (wipeD σd vs) (ds.drop (i + 1)) cs4 with
                  | stuck => rw [qc] at pi; exact pi.elim
                  | ok ys cs5 =>
                    rw [qc] at pi
                    show PostE K (.ok (.lst (dac ++ [y] ++ ys)) cs5) w1 Q
                    rw [List.append_assoc]
                    exact pi
    · left
      have ei : i = ds.length := by omega
      subst ei
      refine ⟨wo.stop wi csi xi ri, ?_⟩
      rw [List.drop_length] at pi
      have hs := same_upd (u := HO.lst acc) hdi
      refine pi (.ref A) ⟨wi.ρ, upd wi.Hd A (.lst acc), wi.H⟩ ⟨xi.pre, xi.same.trans hs, fun a o h1 h2 h3 => ?_⟩ (ri.adopt hai hni hdi) ?_
      · obtain ⟨z1, z2, z3⟩ := xi.out a o h1 h2 h3
        exact ⟨z1, z2, by show upd wi.Hd A _ a = _; rw [upd_ne (ne_of_none h1 hA)]; exact z3⟩
      · refine .lst upd_same ?_
        rw [List.append_nil]
        exact Dvs.up List.prefix_rfl hs dvi
section
variable {X : Cx} {elt tg iter c : Expr} {scope : Scope} {own : List (Str × Nat)} {pos : Pos} {it : El} {g : Tg} {t : Eb} {f : Ev}
theorem pts_yes : PTs X [] (tJb X.K bYes) := ⟨fun pins s σ H Q I h => (pts_nil (X := X)).run pins s σ H Q I (by
  obtain ⟨cs, w, σd, rfl, r, e, p⟩ := h
  exact p w (Ext.refl _) r)⟩
theorem pts_if (h : JB X c t) : PTs X [c] (tJb X.K t) := pts_one h
theorem je_lc {ifs : List Expr} (hc : X.calm = true) (hN : X.N.Nodup) (hi : JI X tg iter it) (ok : BlkOk X.N X.env.scope scope own)
    (hg : ∀ (s : Shared) (H : Hp) (C : Addr) (cl : List (Str × Addr)) (fp : List Addr), JG (X.blk s H scope (compEnvC scope cl C X.env) fp) (own.map (·.2)) tg g)
    (ht : ∀ (s : Shared) (H : Hp) (C : Addr) (cl : List (Str × Addr)) (fp : List Addr), PTs (X.blk s H scope (compEnvC scope cl C X.env) fp) ifs (tJb X.K t))
    (he : ∀ (s : Shared) (H : Hp) (C : Addr) (cl : List (Str × Addr)) (fp : List Addr), JE (X.blk s H scope (compEnvC scope cl C X.env) fp) elt f) (hs : ∀ x, foldedSetIterable iter X.env x = pure x := by intro _; rfl) :
    JE X (.ListComp elt [⟨tg, iter, ifs, 0⟩] scope pos) (cLc it g t f (own.map (·.2))) :=
  PE.wk (pe_lc hc hN hi ok hg ht he hs) fun σ Q cs w σd r e p => lc_imp r e p
theorem js_setLc {ifs : List Expr} {i : Nat} {y : Str} {py spos : Pos} (hc : X.calm = true) (hN : X.N.Nodup) (hy : X.N[i]? = some y) (hyl : X.env.scope.names.lookup y = some .local)
    (hsw : swapsWith (.ListComp elt [⟨tg, iter, ifs, 0⟩] scope pos) (some (.Name y py)) spos.line X.env = pure true) (hi : JI X tg iter it) (ok : BlkOk X.N X.env.scope scope own)
    (hg : ∀ (s : Shared) (H : Hp) (C : Addr) (cl : List (Str × Addr)) (fp : List Addr), JG (X.blk s H scope (compEnvC scope cl C X.env) fp) (own.map (·.2)) tg g)
    (ht : ∀ (s : Shared) (H : Hp) (C : Addr) (cl : List (Str × Addr)) (fp : List Addr), PTs (X.blk s H scope (compEnvC scope cl C X.env) fp) ifs (tJb X.K t))
    (he : ∀ (s : Shared) (H : Hp) (C : Addr) (cl : List (Str × Addr)) (fp : List Addr), JE (X.blk s H scope (compEnvC scope cl C X.env) fp) elt f) (hs : ∀ x, foldedSetIterable iter X.env x = pure x := by intro _; rfl) :
    JS X (.Assign [.Name y py] (.ListComp elt [⟨tg, iter, ifs, 0⟩] scope pos) spos) (sSet i (cLc it g t f (own.map (·.2)))) :=
  PS.wk (ps_setLc hc hN hy hyl hsw hi ok hg ht he hs) fun E σ cs w σd r e p => asg_imp (fun Q q => lc_imp r e q) e p
end

/-! ### loops -/
def forD (g : Tg) (b : Sv) : List D → Sv
  | [], σ, cs => .nx σ cs
  | x :: xs, σ, cs => match g x σ with
    | none => .stuck
    | some σ1 => match b σ1 cs with
      | .nx σ2 cs2 => forD g b xs σ2 cs2
      | .ct σ2 cs2 => forD g b xs σ2 cs2
      | .bk σ2 cs2 => .nx σ2 cs2
      | .rt d cs2 => .rt d cs2
      | .stuck => .stuck
def sFor (it : El) (g : Tg) (b : Sv) : Sv := fun σ cs => RS.of (it σ cs) fun ds cs1 => forD g b ds σ cs1
def whileD (t : Eb) (b : Sv) : Nat → Sv
  | 0, _, _ => .stuck
  | n + 1, σ, cs => RS.of (t σ cs) fun c cs1 => if c = true then (match b σ cs1 with
      | .nx σ2 cs2 => whileD t b n σ2 cs2
      | .ct σ2 cs2 => whileD t b n σ2 cs2
      | .bk σ2 cs2 => .nx σ2 cs2
      | .rt d cs2 => .rt d cs2
      | .stuck => .stuck) else .nx σ cs1
section
variable {X : Cx} {tg iter c : Expr} {body : List Stmt} {pos : Pos} {it : El} {g : Tg} {t : Eb} {b : Sv} {vs : List Nat}
theorem js_for (hp : PassesOwn (model X.prog X.w) X.A X.env X.xe) (hc : X.calm = true) (hi : JI X tg iter it) (hg : JG X vs tg g) (hb : JSs X body b) (hs : ∀ x, foldedSetIterable iter X.env x = pure x := by intro _; rfl) : JS X (.For tg iter body [] pos) (sFor it g b) := by
  refine PS.wk (ps_for hp hc hi hg hb hs) fun E σ cs w σd r e p => ⟨cs, w, σd, rfl, r, e, ?_⟩
  unfold sFor at p
  cases qi : it σd cs with
  | stuck => rw [qi] at p; exact p.elim
  | ok ds cs1 =>
    rw [qi] at p
    intro J w1 x1 r1 wo
    have p1 : PostS X.K (forD g b ds σd cs1) w1 E := PostS.ext p x1
    refine ⟨fun i m σ H => m = ds.length - i ∧ i ≤ ds.length ∧ ∃ csi wi σi, wi.H = H ∧ Ext w1 wi ∧ Rel X.K csi wi ∧ EnvR X.K wi σ σi ∧ PostS X.K (forD g b (ds.drop i) σi csi) wi E, ⟨ds.length, rfl, Nat.zero_le _, cs1, w1, σd, rfl, Ext.refl _, r1, e.ext x1, p1⟩, ?_⟩
    rintro i m σ2 H ⟨rfl, hi, csi, wi, σi, rfl, xi, ri, ei, pi⟩
    by_cases hlt : i < ds.length
    · right
      refine ⟨wo.go i wi csi xi ri hlt, fun σ' H' => ∃ csi wi σi, wi.H = H' ∧ Ext w1 wi ∧ Rel X.K csi wi ∧ EnvR X.K wi σ' σi ∧ PostS X.K (forD g b (ds.drop (i + 1)) σi csi) wi E, fun σ' H' hh => ⟨ds.length - (i + 1), by omega, rfl, hlt, hh⟩, ?_⟩
      intro x H' hy
      have hd : ds[i]? = some ds[i] := List.getElem?_eq_getElem hlt
      obtain ⟨w2, rfl, x2, r2, dx⟩ := wo.yld i wi csi x H' ds[i] xi ri hd hy
      rw [List.drop_eq_getElem_cons hlt] at pi
      unfold forD at pi
      cases q : g ds[i] σi with
      | none => rw [q] at pi; exact pi.elim
      | some σ3 =>
        rw [q] at pi
        refine ⟨csi, w2, σi, ds[i], σ3, rfl, r2, ei.ext x2, dx, q, fun σ4 e4 _ => ⟨csi, w2, σ3, rfl, r2, e4, ?_⟩⟩
        have pi2 := PostS.ext pi x2
        dsimp only at pi2
        cases qb : b σ3 csi with
        | stuck => rw [qb] at pi2; exact pi2
        | nx σ5 cs5 => rw [qb] at pi2; exact fun σ' w' x' r' e' => ⟨cs5, w', σ5, rfl, xi.trans (x2.trans x'), r', e', pi2.ext x'⟩
        | ct σ5 cs5 => rw [qb] at pi2; exact fun σ' w' x' r' e' => ⟨cs5, w', σ5, rfl, xi.trans (x2.trans x'), r', e', pi2.ext x'⟩
        | bk σ5 cs5 => rw [qb] at pi2; exact pi2
        | rt d cs5 => rw [qb] at pi2; exact pi2
    · left
      have hie : i = ds.length := by omega
      subst hie
      rw [List.drop_length] at pi
      exact ⟨wo.stop wi csi xi ri, pi σ2 wi (Ext.refl _) ri ei⟩
theorem js_while (n : Nat) (hp : PassesOwn (model X.prog X.w) X.A X.env X.xe) (hc : JB X c t) (hb : JSs X body b) : JS X (.While c body [] pos) (whileD t b n) := by
  refine PS.wk (ps_while hp hc hb) fun E σ cs w σd r e p => ?_
  refine ⟨fun m σ H => ∃ csi wi σi, wi.H = H ∧ Rel X.K csi wi ∧ EnvR X.K wi σ σi ∧ PostS X.K (whileD t b m σi csi) wi E, ⟨n, cs, w, σd, rfl, r, e, p⟩, ?_⟩
  rintro m σ2 H ⟨csi, wi, σi, rfl, ri, ei, pi⟩
  cases m with
  | zero => exact pi.elim
  | succ m =>
    refine ⟨csi, wi, σi, rfl, ri, ei, sBE pi fun d cs1 w1 x1 r1 p1 => ?_⟩
    cases d with
    | false => exact p1 σ2 w1 (Ext.refl _) r1 (ei.ext x1)
    | true =>
      refine ⟨fun σ' H' => ∃ csi wi σi, wi.H = H' ∧ Rel X.K csi wi ∧ EnvR X.K wi σ' σi ∧ PostS X.K (whileD t b m σi csi) wi E, fun σ' H' hh => ⟨m, Nat.lt_succ_self _, hh⟩, cs1, w1, σi, rfl, r1, ei.ext x1, ?_⟩
      rw [if_pos rfl] at p1
      cases qb : b σi cs1 with
      | stuck => rw [qb] at p1; exact p1
      | nx σ5 cs5 => rw [qb] at p1; exact fun σ' w' x' r' e' => ⟨cs5, w', σ5, rfl, r', e', p1.ext x'⟩
      | ct σ5 cs5 => rw [qb] at p1; exact fun σ' w' x' r' e' => ⟨cs5, w', σ5, rfl, r', e', p1.ext x'⟩
      | bk σ5 cs5 => rw [qb] at p1; exact p1
      | rt d cs5 => rw [qb] at p1; exact p1
end
end J
namespace J
open PySem L2 PySem.Spec PyProof.Rows

/-! ### a def's promise, with the guards told -/
structure FnG (P : Program) (w : World) (K : PySem.W.Frag) (mg : Str → Option Value) (base : Heap) (CX : CXT) (k : Nat) (f : Addr) (fd : FuncData) (ps : List Str) (sp : Sp) : Prop where
  len : ∀ vs H Q E, sp vs H Q E → vs.length = ps.length
  run : ∀ (A : Around) (outer : List Env) (s : Shared) (H : Hp) (args : Args) (us : List Value) (vs : List V) (Q : VK) (E : XK),
    Room k A → A.guards = some [] → Env0 P w K mg base A outer s H → BindsTo s fd args (ps.zip us) → Vals vs us → sp vs H Q E → codeAny (model P w) A (.call (.ref f) args) (CR CX outer P w H s Q E) s
theorem fnG_of {CX : CXT} {P : Program} {w : World} {K : PySem.W.Frag} {mg : Str → Option Value} {base : Heap} {k : Nat} {f : Addr} {name qual : Str} {params : Arguments} {body : List Stmt} {scope : Scope}
    {dV kV doc pm cdv ct oc : Value} {an od : Option Addr} {osl : Array (Option Value)} {N ps : List Str} {sp : Sp}
    (lk : K.lookup f = some ⟨oc, od, .func (PySem.W.fnOf name qual params body scope dV kV doc pm an cdv ct), osl⟩)
    (hcd : PySem.W.codeIn K cdv qual = true) (S : FnScope N ps scope) (len : ∀ vs H Q E, sp vs H Q E → vs.length = ps.length)
    (hb : ∀ (A : Around) (outer : List Env) (s : Shared) (H : Hp) (vs : List V) (Q : VK) (E : XK), Room k (A.deeper (envOfC qual scope s.heap.objs.size f cdv)) → A.guards = some [] → sp vs H Q E →
      ∃ t, PSs (cxOf CX P w K mg base N qual scope f cdv A outer s H E) body t ∧ t { nx := fun _ H' => Q .non H', rt := Q } (L2.start N vs) H) :
    FnG P w K mg base CX (k + 1) f (PySem.W.fnOf name qual params body scope dV kV doc pm an cdv ct) ps sp := by
  constructor
  · exact len
  intro A outer s H args us vs Q E room gd e0 bt rel want
  have same : ∀ b o, base.get? b = some o → s.heap.get? b = some o := fun b o e => (e0.bs b o e).1
  have kin := e0.mod.kin.keeps same
  have nol := e0.mod.nolimit.keeps same
  have kinds : ∀ y ∈ ps.zip us, scope.names.lookup y.1 = some .local ∨
      (scope.names.lookup y.1 = some .cell ∧ ((cellsFrom (s.heap.objs.size + 1) scope.names []).lookup y.1).isSome = true) := by
    rintro ⟨n, v⟩ hy
    cases S.par n (List.of_mem_zip hy).1 with
    | inl q => exact Or.inl q
    | inr q => exact Or.inr ⟨q, PySem.W.cellsFrom_some _ _ _ (Or.inl q)⟩
  apply codeAny_call_function room.depth (kin _ _ lk) rfl S.co S.gen rfl (PySem.W.codeRec_of kin hcd)
  apply bt
  apply wpAny_newFunctionEnv_cells S.kind kinds
  intro env he s1 inn
  subst he
  refine ⟨nol.keeps inn.toInCall.keep, codeAny_func ?_⟩
  obtain ⟨t, pss, tq⟩ := hb A outer s H vs Q E (room.deeper _) gd want
  have inv0 := inv_start (CX := CX) (E := E) S room.hd e0 (len _ _ _ _ want) rel inn
  apply wpAny_mono (pss.run [] s1 (L2.start N vs) H _ inv0 tq)
  · intro fl s' sp'
    cases fl with
    | ret u =>
      rcases sp' with ⟨v, σ', H', J, rv, q⟩
      exact ⟨v, H', J.os, J.bare, J.base, J.hok, rv, q⟩
    | next =>
      rcases sp' with ⟨σ', H', J, q⟩
      exact ⟨V.non, H', J.os, J.bare, J.base, J.hok, rfl, q⟩
    | brk => rcases sp' with ⟨_, _, _, q⟩; exact q.elim
    | cont => rcases sp' with ⟨_, _, _, q⟩; exact q.elim
  · intro e s' q
    exact q

/-! ### ptrs below n -/
mutual
def low (n : Nat) : D → Bool
  | .non | .bl _ | .int _ | .str _ => true
  | .tup xs => lows n xs
  | .lst xs => lows n xs
  | .scr xs => lows n xs
  | .dct ks vs => lows n ks && lows n vs
  | .ptr k => decide (k < n)
  | .ty _ => true
def lows (n : Nat) : List D → Bool
  | [] => true
  | x :: xs => low n x && lows n xs
end
def lowO (n : Nat) : O → Bool
  | .lst xs => lows n xs
  | .dead => true
section
variable {K : PySem.W.Frag} {ρ : List Addr} {H : Hp} {n : Nat}
mutual
theorem Dv.low : ∀ {v : V} {d : D}, Dv K ρ H v d → J.low n d = true → Dv K (ρ.take n) H v d
  | _, _, .non, _ => .non
  | _, _, .bl b, _ => .bl b
  | _, _, .int i, _ => .int i
  | _, _, .str x z, _ => .str x z
  | _, _, .tup h g, l => .tup h (Dvs.low g (by simpa [J.low] using l))
  | _, _, .lst h g, l => .lst h (Dvs.low g (by simpa [J.low] using l))
  | _, _, .scr h g, l => .scr h (Dvs.low g (by simpa [J.low] using l))
  | _, _, .dct h g k, l => .dct h (Dvs.low g (by have := l; simp [J.low] at this; exact this.1)) (Dvs.low k (by have := l; simp [J.low] at this; exact this.2))
  | _, _, .ty t, _ => .ty t
  | _, _, .ptr h, l => .ptr (by
    have hk := of_decide_eq_true (by simpa only [J.low] using l)
    rw [List.getElem?_take_of_lt hk]
    exact h)
theorem Dvs.low : ∀ {v : List V} {d : List D}, Dvs K ρ H v d → J.lows n d = true → Dvs K (ρ.take n) H v d
  | _, _, .nil, _ => .nil
  | _, _, .cons h g, l => .cons (Dv.low h (by have := l; simp [J.lows] at this; exact this.1)) (Dvs.low g (by have := l; simp [J.lows] at this; exact this.2))
end
end
/-- behind a def: its own cells are gone, if nothing tells of them -/
def fin (n : Nat) (d : D) (cs : Cs) : R D := if cs.length = n then .ok d cs else if n ≤ cs.length ∧ low n d = true ∧ (cs.take n).all (lowO n) = true then .ok d (cs.take n) else .stuck
theorem Rel.cut {K : PySem.W.Frag} {cs : Cs} {w : Wd} {n : Nat} (r : Rel K cs w) (hn : n ≤ cs.length) (hl : (cs.take n).all (lowO n) = true) : Rel K (cs.take n) ⟨w.ρ.take n, w.Hd, w.H⟩ := by
  refine ⟨r.same, by simp [r.len], r.nd.sublist (List.take_sublist _ _), fun k o a e1 e2 => ?_, fun a ha => r.fix a (List.mem_of_mem_take ha)⟩
  have hk : k < n := by
    have := (List.getElem?_eq_some_iff.mp e1).1
    rw [List.length_take] at this
    omega
  have ho : lowO n o = true := List.all_eq_true.mp hl o (List.mem_of_getElem? e1)
  rw [List.getElem?_take_of_lt hk] at e1
  have e2' : (w.ρ.take n)[k]? = some a := e2
  rw [List.getElem?_take_of_lt hk] at e2'
  rcases r.cell k o a e1 e2' with z | ⟨z, y, e3, e4⟩
  · exact .inl z
  · refine .inr ⟨z, y, e3, ?_⟩
    cases y <;> cases o <;> first | exact False.elim e4 | exact Dvs.low e4 ho
theorem fin_ok {K : PySem.W.Frag} {cs cs' : Cs} {w w' : Wd} {d : D} {v : V} {Q : VK} (r : Rel K cs w) (x : Ext w w') (r' : Rel K cs' w') (dv : Dv K w'.ρ w'.Hd v d) (p : PostE K (fin cs.length d cs') w Q) : Q v w'.H := by
  unfold fin at p
  split at p
  · exact p v w' x r' dv
  · split at p
    · rename_i h
      obtain ⟨h1, h2, h3⟩ := h
      have e : w'.ρ.take cs.length = w.ρ := by
        obtain ⟨t, ht⟩ := x.pre
        rw [← ht, ← r.len, List.take_left]
      refine p v ⟨w'.ρ.take cs.length, w'.Hd, w'.H⟩ ⟨?_, x.same, fun a o e1 e2 e3 => ?_⟩ (r'.cut h1 h3) (dv.low h2)
      · show w.ρ <+: w'.ρ.take cs.length
        rw [e]
        exact List.prefix_rfl
      · obtain ⟨z1, z2, z3⟩ := x.out a o e1 e2 e3
        exact ⟨z1, fun q => z2 (List.mem_of_mem_take q), z3⟩
    · exact p.elim
/-! ### a def as a function -/
abbrev Fd := List D → Cs → R D
def startD (N : Nat) (ds : List D) : En := ds.map some ++ List.replicate (N - ds.length) none
/-- the body run: keep = true: its cells stay (it hands a new one out) -/
def runB (keep : Bool) (N : Nat) (B : Sv) : Fd := fun ds cs => match B (startD N ds) cs with
  | .rt d cs' => if keep = true then .ok d cs' else fin cs.length d cs'
  | .nx _ cs' => if keep = true then .ok .non cs' else fin cs.length .non cs'
  | _ => .stuck
def spJ (K : PySem.W.Frag) (n : Nat) (F : Fd) : Sp := fun vs H Q _ => vs.length = n ∧ ∃ cs w ds, w.H = H ∧ Rel K cs w ∧ Dvs K w.ρ w.Hd vs ds ∧ PostE K (F ds cs) w Q
theorem start_env {K : PySem.W.Frag} {w : Wd} {vs : List V} {ds : List D} (h : Dvs K w.ρ w.Hd vs ds) (N : List Str) : EnvR K w (L2.start N vs) (startD N.length ds) := by
  have hl := h.length
  refine ⟨by simp [L2.start, startD, hl], fun i d q => ?_⟩
  unfold startD at q
  unfold L2.start
  by_cases hi : i < ds.length
  · rw [List.getElem?_append_left (by simpa using hi), List.getElem?_map] at q
    cases e : ds[i]? with
    | none => rw [e] at q; cases q
    | some d' =>
      rw [e] at q
      cases q
      obtain ⟨v, e1, e2⟩ := h.get e
      refine ⟨v, ?_, e2⟩
      rw [List.getElem?_append_left (by simp [hl, hi]), List.getElem?_map, e1]
      rfl
  · rw [List.getElem?_append_right (by simpa using hi), List.getElem?_replicate] at q
    split at q <;> cases q
theorem body_ok {K : PySem.W.Frag} {B : Sv} {keep : Bool} {N : List Str} {vs : List V} {ds : List D} {cs : Cs} {w : Wd} {Q : VK} (r : Rel K cs w) (h : Dvs K w.ρ w.Hd vs ds) (p : PostE K (runB keep N.length B ds cs) w Q) :
    tJs K B { nx := fun _ H' => Q .non H', rt := Q } (L2.start N vs) w.H := by
  refine ⟨cs, w, _, rfl, r, start_env h N, ?_⟩
  unfold runB at p
  cases q : B (startD N.length ds) cs with
  | stuck => rw [q] at p; exact p
  | bk => rw [q] at p; exact p.elim
  | ct => rw [q] at p; exact p.elim
  | rt d cs' =>
    rw [q] at p
    cases keep with
    | true => exact p
    | false => exact fun v w' x r' dv => fin_ok r x r' dv p
  | nx σ' cs' =>
    rw [q] at p
    cases keep with
    | true => exact fun _ w' x r' _ => p .non w' x r' .non
    | false => exact fun _ w' x r' _ => fin_ok r x r' .non p

/-- what a body's rules want of the place where they stand -/
structure Ctx (X : Cx) (m : Nat) : Prop where
  room : Room m X.A
  gd : X.A.guards = some []
  calm : X.calm = true
theorem Ctx.blk {X : Cx} {m : Nat} (c : Ctx X m) (s : Shared) (H : Hp) (scope : Scope) (cenv : Env) (fp : List Addr) : Ctx (X.blk s H scope cenv fp) m := ⟨c.room, c.gd, c.calm⟩

/-- the def x of the text (its statement st), with parameters ps, is the function F -/
structure Def (P : Program) (w : World) (K : PySem.W.Frag) (mg : Str → Option Value) (base : Heap) (x : Str) (st : Stmt) (k : Nat) (ps : List Str) (F : Fd) : Prop where
  ex : ∃ f fd, mg x = some (.ref f) ∧ Fun K x x st f fd ∧ FnG P w K mg base CX0 k f fd ps (spJ K ps.length F)
/-- F does what the body does (or nothing is said) -/
def Does (F G : Fd) (n : Nat) : Prop := ∀ ds cs, ds.length = n → F ds cs = .stuck ∨ G ds cs = F ds cs
theorem def_of {P : Program} {w : World} {K : PySem.W.Frag} {mg : Str → Option Value} {base : Heap} {x : Str} {st : Stmt} {k : Nat} {N ps : List Str} {F : Fd} {B : Sv} {f : Addr} {fd : FuncData} (keep : Bool)
    (hm : mg x = some (.ref f)) (U : Fun K x x st f fd) (S : FnScope N ps (defScope st))
    (hB : ∀ (cdv : Value) (A : Around) (outer : List Env) (s : Shared) (H : Hp) (E : XK), Ctx (cxOf CX0 P w K mg base N x (defScope st) f cdv A outer s H E).nox k → JSs (cxOf CX0 P w K mg base N x (defScope st) f cdv A outer s H E).nox (defBody st) B)
    (hF : Does F (runB keep N.length B) ps.length) : Def P w K mg base x st (k + 1) ps F := by
  refine ⟨f, fd, hm, U, ?_⟩
  obtain ⟨oc, od, kV, doc, pm, an, cdv, ct, osl, rfl, lk, hcd⟩ := U.ex
  refine fnG_of lk hcd S (fun vs H Q E h => h.1) fun A outer s H vs Q E hr gd h => ?_
  obtain ⟨hl, cs, w', ds, rfl, r, dv, p⟩ := h
  refine ⟨_, (hB cdv A outer s w'.H E ⟨hr, gd, rfl⟩).nox, ?_⟩
  rcases hF ds cs (dv.length.symm.trans hl) with e | e
  · rw [e] at p
    exact p.elim
  · rw [← e] at p
    exact body_ok r dv p

def LenL (fs : El) (n : Nat) : Prop := ∀ σ cs ds cs', fs σ cs = .ok ds cs' → ds.length = n
theorem len_nil : LenL cNil 0 := fun σ cs ds cs' h => by cases h; rfl
theorem len_cons {f : Ev} {fs : El} {n : Nat} (h : LenL fs n) : LenL (cCons f fs) (n + 1) := fun σ cs ds cs' q => by
  unfold cCons at q
  cases q1 : f σ cs with
  | stuck => rw [q1] at q; cases q
  | ok d cs1 =>
    rw [q1] at q
    change (fs σ cs1).bind _ = _ at q
    cases q2 : fs σ cs1 with
    | stuck => rw [q2] at q; cases q
    | ok ds cs2 =>
      rw [q2] at q
      cases q
      simp [h _ _ _ _ q2]
section
variable {X : Cx} {st : Stmt} {k m : Nat} {ps : List Str} {F : Fd} {x : Str} {e : Expr} {es : List Expr} {fs : El} {p pos : Pos}
theorem runG {f : Addr} {fd : FuncData} {sp : Sp} (G : FnG X.prog X.w X.K X.mg X.base CX0 k f fd ps sp) (c : Ctx X m) (hk : k ≤ m) {pins : List (Addr × Obj)} {σ : L2.St} {H : Hp} {s : Shared} {Q : VK} {us : List Value} {vs : List V} {args : List Value} {kw : List (Str × Value)}
    (hb : BindsTo s fd ⟨args, kw⟩ (ps.zip us)) (I : Inv X pins σ H s) (r : Vals vs us) (h : sp vs H Q E0) : wpAny (model X.prog X.w) X.A (call (.ref f) args kw) (EP X pins σ Q) X.xe s := by
  refine wpAny_call (codeAny_mono (G.run X.A X.stack s H ⟨args, kw⟩ us vs Q E0 (c.room.mono hk) c.gd I.env0 hb r h) fun res s' hq => ?_)
  cases res with
  | error z => exact hq.elim
  | ok fl =>
    cases fl with
    | ret u => exact I.after hq
    | next => exact hq.elim
    | brk => exact hq.elim
    | cont => exact hq.elim
/-- x(e, ..) -/
theorem je_call (G : Def X.prog X.w X.K X.mg X.base x st k ps F) (c : Ctx X m) (hk : k ≤ m) (hg : Gl X x) (ha : JL X (e :: es) fs)
    (hb : ∀ (kV doc pm : Value) (an : Option Addr) (cdv ct : Value) (us : List Value), us.length = ps.length → bindArgs (PySem.W.fnOf x x (defArgs st) (defBody st) (defScope st) .none kV doc pm an cdv ct) ⟨us, []⟩ = pure (ps.zip us))
    (hn : (e :: es).length = ps.length) (hdb : (x == ("__debug__" : Str)) = false := by decide) (he : starEach (e :: es) X.env = (false, eval e X.env) :: starEach es X.env := by rfl) (hpl : (backTo pos (starEach es X.env)).any (·.1) = false := by rfl)
    (hL : LenL fs (e :: es).length) :
    JE X (.Call (.Name x p) (e :: es) [] pos) (cN F fs) := by
  obtain ⟨f, fd, hm, U, G⟩ := G.ex
  obtain ⟨oc, od, kV, doc, pm, an, cdv, ct, osl, rfl, lk, hcd⟩ := U.ex
  refine ⟨fun pins s σ H Q I h => ?_⟩
  refine wpAny_Call_Name_kw (ld_glob I hg hm ?_ hdb)
  obtain ⟨cs, w, σd, rfl, r, en, po⟩ := h
  have ha2 : tJl X.K fs σ w.H fun vs H1 => spJ X.K ps.length F vs H1 Q E0 := by
    refine ⟨cs, w, σd, rfl, r, en, ?_⟩
    unfold cN at po
    cases q : fs σd cs with
    | stuck => rw [q] at po; exact po.elim
    | ok ds cs1 =>
      rw [q] at po
      exact fun vs w1 x1 r1 d1 => ⟨by rw [d1.length, hL _ _ _ _ q]; exact hn, cs1, w1, ds, rfl, r1, d1, PostE.ext po x1⟩
  refine PySem.W.callWith_K (h₀ := X.base) I.ok.mod.kin U.kp (thn (ha.run pos pins s σ w.H _ I ha2) fun us s1 ⟨vs, H1, I1, rv, q⟩ => ⟨I1.kIn, ?_⟩) he hpl
  have hl : us.length = ps.length := by rw [← rv.length]; exact q.1
  exact runG (kw := []) G c hk (.of_eq (hb kV doc pm an cdv ct us hl)) I1 rv q
end
/-! ### arguments by name -/
def permI {α : Type} (ix : List Nat) (xs : List α) : List α := ix.filterMap fun i => xs[i]?
def cApp (ix : List Nat) (as ks : El) (F : Fd) : Ev := fun σ cs => (as σ cs).bind fun ds cs1 => (ks σ cs1).bind fun zs cs2 => F (permI ix (ds ++ zs)) cs2
theorem perm_Dvs {K : PySem.W.Frag} {ρ : List Addr} {H : Hp} {vs : List V} {ds : List D} (h : Dvs K ρ H vs ds) : ∀ ix : List Nat, Dvs K ρ H (permI ix vs) (permI ix ds)
  | [] => .nil
  | i :: ix => by
    unfold permI
    rw [List.filterMap_cons, List.filterMap_cons]
    cases e : ds[i]? with
    | none =>
      have e2 : vs[i]? = none := by
        rw [List.getElem?_eq_none_iff] at e ⊢
        rw [h.length]
        exact e
      rw [e2]
      exact perm_Dvs h ix
    | some d =>
      obtain ⟨v, e2, e3⟩ := h.get e
      rw [e2]
      exact .cons e3 (perm_Dvs h ix)
theorem perm_Vals {vs : List V} {us : List Value} (h : Vals vs us) : ∀ ix : List Nat, Vals (permI ix vs) (permI ix us)
  | [] => .nil
  | i :: ix => by
    unfold permI
    rw [List.filterMap_cons, List.filterMap_cons]
    cases e : vs[i]? with
    | none =>
      rw [h.none_of e]
      exact perm_Vals h ix
    | some d =>
      obtain ⟨v, e2, e3⟩ := h.get e
      rw [e2]
      exact .cons e3 (perm_Vals h ix)
section
variable {X : Cx} {st : Stmt} {k m : Nat} {ps ks : List Str} {F : Fd} {x : Str} {e : Expr} {es : List Expr} {kws : List Keyword} {fs gs : El} {fa : Ev} {p pos kpos : Pos} {nm : Option Str}
abbrev JK (X : Cx) (kws : List Keyword) (f : El) : Prop := PK X kws (tJl X.K f)
theorem pk_weak {t t' : TA} (h : PK X kws t) (w : ∀ σ H Q, t' σ H Q → t σ H Q) : PK X kws t' := ⟨fun ps pins s σ H Q I hw => h.run ps pins s σ H Q I (w _ _ _ hw)⟩
theorem jk_nil : JK X [] cNil := pk_weak pk_nil fun σ H Q h => by
  obtain ⟨cs, w, σd, rfl, r, e, p⟩ := h
  exact p [] w (Ext.refl _) r .nil
theorem jk_cons (ha : JE X e fa) (hr : JK X kws fs) : JK X (⟨nm, e, kpos⟩ :: kws) (cCons fa fs) := pk_weak (pk_cons ha hr) fun σ H Q h => by
  obtain ⟨cs, w, σd, rfl, r, e, p⟩ := h
  exact ⟨cs, w, σd, rfl, r, e, bEL p fun v d cs1 w1 x1 r1 d1 p1 => ⟨cs1, w1, σd, rfl, r1, e.ext x1, bLL p1 fun u d2 cs2 w2 x2 r2 v2 p2 => p2 (v :: u) w2 (Ext.refl _) r2 (.cons (d1.ext x2) v2)⟩⟩
/-- x(k = e, ..) -/
theorem je_callK0 (ix : List Nat) (G : Def X.prog X.w X.K X.mg X.base x st k ps F) (c : Ctx X m) (hk : k ≤ m) (hg : Gl X x) (hkw : JK X kws gs)
    (hb : ∀ (kV doc pm : Value) (an : Option Addr) (cdv ct : Value) (ws : List Value), ws.length = kws.length → bindArgs (PySem.W.fnOf x x (defArgs st) (defBody st) (defScope st) .none kV doc pm an cdv ct) ⟨[], ks.zip ws⟩ = pure (ps.zip (permI ix ws)))
    (hn : ∀ ws : List V, ws.length = kws.length → (permI ix ws).length = ps.length) (hL : LenL gs kws.length)
    (hall : (backToKw pos (keywordEach kws X.env)).all (·.1.isSome) = true := by rfl) (hks : (backToKw pos (keywordEach kws X.env)).filterMap (·.1) = ks := by rfl) (hdb : (x == ("__debug__" : Str)) = false := by decide)
    (hpl : ((backTo pos (starEach [] X.env)).any (·.1) || (backToKw pos (keywordEach kws X.env)).any (·.1.isNone)) = false := by rfl) :
    JE X (.Call (.Name x p) [] kws pos) (cApp ix cNil gs F) := by
  obtain ⟨f, fd, hm, U, G⟩ := G.ex
  obtain ⟨oc, od, kV, doc, pm, an, cdv, ct, osl, rfl, lk, hcd⟩ := U.ex
  refine ⟨fun pins s σ H Q I h => ?_⟩
  refine wpAny_Call_Name_kw (ld_glob I hg hm ?_ hdb)
  obtain ⟨cs, w, σd, rfl, r, en, po⟩ := h
  have ha2 : tJl X.K gs σ w.H fun zs H1 => zs.length = kws.length ∧ spJ X.K ps.length F (permI ix zs) H1 Q E0 := by
    refine ⟨cs, w, σd, rfl, r, en, ?_⟩
    change PostE X.K ((gs σd cs).bind _) w Q at po
    cases q : gs σd cs with
    | stuck => rw [q] at po; exact po.elim
    | ok ds cs1 =>
      rw [q] at po
      refine fun vs w1 x1 r1 d1 => ?_
      have hl : vs.length = kws.length := by rw [d1.length, hL _ _ _ _ q]
      exact ⟨hl, hn vs hl, cs1, w1, permI ix ds, rfl, r1, perm_Dvs d1 ix, PostE.ext po x1⟩
  refine PySem.W.callWith_KW0 (h₀ := X.base) I.ok.mod.kin U.kp hall ?_ hpl
  refine thn (hkw.run pos pins s σ w.H _ I ha2) fun ws s2 ⟨zs, H2, I2, rz, l2, q2⟩ => ⟨I2.kIn, ?_⟩
  rw [hks]
  exact runG G c hk (.of_eq (hb kV doc pm an cdv ct ws (by rw [← rz.length]; exact l2))) I2 (perm_Vals rz ix) q2
/-- x(e, .., k = e, ..) -/
theorem je_callK (ix : List Nat) (G : Def X.prog X.w X.K X.mg X.base x st k ps F) (c : Ctx X m) (hk : k ≤ m) (hg : Gl X x) (ha : JL X (e :: es) fs) (hkw : JK X kws gs)
    (hb : ∀ (kV doc pm : Value) (an : Option Addr) (cdv ct : Value) (us ws : List Value), us.length = (e :: es).length → ws.length = kws.length → bindArgs (PySem.W.fnOf x x (defArgs st) (defBody st) (defScope st) .none kV doc pm an cdv ct) ⟨us, ks.zip ws⟩ = pure (ps.zip (permI ix (us ++ ws))))
    (hn : ∀ ws : List V, ws.length = (e :: es).length + kws.length → (permI ix ws).length = ps.length) (hL : LenL fs (e :: es).length) (hL2 : LenL gs kws.length)
    (hall : (backToKw pos (keywordEach kws X.env)).all (·.1.isSome) = true := by rfl) (hks : (backToKw pos (keywordEach kws X.env)).filterMap (·.1) = ks := by rfl) (hdb : (x == ("__debug__" : Str)) = false := by decide)
    (he : starEach (e :: es) X.env = (false, eval e X.env) :: starEach es X.env := by rfl) (hpl : ((backTo pos (starEach (e :: es) X.env)).any (·.1) || (backToKw pos (keywordEach kws X.env)).any (·.1.isNone)) = false := by rfl) :
    JE X (.Call (.Name x p) (e :: es) kws pos) (cApp ix fs gs F) := by
  obtain ⟨f, fd, hm, U, G⟩ := G.ex
  obtain ⟨oc, od, kV, doc, pm, an, cdv, ct, osl, rfl, lk, hcd⟩ := U.ex
  refine ⟨fun pins s σ H Q I h => ?_⟩
  refine wpAny_Call_Name_kw (ld_glob I hg hm ?_ hdb)
  obtain ⟨cs, w, σd, rfl, r, en, po⟩ := h
  have ha2 : tJl X.K fs σ w.H fun vs H1 => vs.length = (e :: es).length ∧ tJl X.K gs σ H1 fun zs H2 => zs.length = kws.length ∧ spJ X.K ps.length F (permI ix (vs ++ zs)) H2 Q E0 := by
    refine ⟨cs, w, σd, rfl, r, en, ?_⟩
    change PostE X.K ((fs σd cs).bind _) w Q at po
    cases q : fs σd cs with
    | stuck => rw [q] at po; exact po.elim
    | ok ds cs1 =>
      rw [q] at po
      refine fun vs w1 x1 r1 d1 => ⟨by rw [d1.length, hL _ _ _ _ q], cs1, w1, σd, rfl, r1, en.ext x1, ?_⟩
      have po1 := PostE.ext po x1
      change PostE X.K ((gs σd cs1).bind _) w1 Q at po1
      cases q2 : gs σd cs1 with
      | stuck => rw [q2] at po1; exact po1.elim
      | ok zs cs2 =>
        rw [q2] at po1
        refine fun us w2 x2 r2 d2 => ?_
        have hl : us.length = kws.length := by rw [d2.length, hL2 _ _ _ _ q2]
        exact ⟨hl, hn _ (by rw [List.length_append, hl, d1.length, hL _ _ _ _ q]), cs2, w2, permI ix (ds ++ zs), rfl, r2, perm_Dvs ((Dvs.ext x2 d1).append d2) ix, PostE.ext po1 x2⟩
  refine PySem.W.callWith_KW (h₀ := X.base) I.ok.mod.kin U.kp hall (thn (ha.run pos pins s σ w.H _ I ha2) fun us s1 ⟨vs, H1, I1, rv, l1, q1⟩ => ?_) hpl he
  refine thn (hkw.run pos pins s1 σ H1 _ I1 q1) fun ws s2 ⟨zs, H2, I2, rz, l2, q2⟩ => ⟨I2.kIn, ?_⟩
  rw [hks]
  exact runG G c hk (.of_eq (hb kV doc pm an cdv ct us ws (by rw [← rv.length]; exact l1) (by rw [← rz.length]; exact l2))) I2 (perm_Vals (rv.append rz) ix) q2
end
end J
namespace J
open PySem L2 PySem.Spec PyProof.Rows

/-! ### the law's own call -/
section
variable {P : Program} {w : World} {K : PySem.W.Frag} {mg mb : Str → Option Value} {k : Nat} {fa a : Addr} {fd : FuncData} {x : Str} {F : Fd} {s : Shared} {vs : List Value} {ns : List Int}
theorem law_from {H : Hp} (kin : K.In s.heap) (gl : s.heap.Ns mainGlobals mg) (bl : s.heap.Ns builtinsNs mb) (bb : ∀ y : Str, y ≠ "__name__" → mb y = bootBuiltins y) (nol : s.heap.NoLimit) (gens : s.gens = #[])
    (ho : s.heap.get? a = some { cls := .type "list", data := .seq vs.toArray }) (room : Room k callerA)
    (G : ∀ base : Heap, K.In base → base.Ns mainGlobals mg → FnG P w K mg base CX0 k fa fd [x] (spJ K 1 F)) (bd : ∀ (s : Shared) (u : Value), BindsTo s fd ⟨[u], []⟩ [(x, u)])
    (only : ∀ b, H b = none ∨ (b = a ∧ ∃ o u, H b = some (.frz o u))) (hok : HOk P w H s.heap) (ka : H a ≠ none → K.lookup a = none) (sq : SqL K H a (ns.map V.int))
    (res : F [.scr (ns.map D.int)] [] = .ok (.bl true) []) :
    codeAny (model P w) callerA (.call (.ref fa) ⟨[.ref a], []⟩) (fun r s' => r = .ok (.ret (.bool true)) ∧ OldK s.heap s'.heap ∧ s'.os = s.os ∧ AllBare s'.gens) s := by
  have nodict : ∀ {b : Addr} {o : Obj} {es : Array DictEntry} {ep : Nat}, s.heap.get? b = some o → o.data = .dict es ep → H b = none := by
    intro b o es ep e d
    rcases only b with z | ⟨rfl, _⟩
    · exact z
    · rw [ho] at e
      cases e
      cases (show Data.seq vs.toArray _ = Data.dict es ep from d)
  have nsOf : ∀ {b : Addr} {m : Str → Option Value}, s.heap.Ns b m → (hidT s.heap H).Ns b m := by
    rintro b m ⟨o, es, ep, e, d, r⟩
    exact ⟨o, es, ep, hidT_get e (nodict e d), d, r⟩
  have kinB : K.In (hidT s.heap H) := by
    intro b o e
    apply hidT_get (kin b o e)
    rcases only b with z | ⟨rfl, o', u, z⟩
    · exact z
    · have q := ka (by rw [z]; simp)
      rw [q] at e
      cases e
  obtain ⟨mc, l1, l2⟩ := nol
  have md : Mod K mg (hidT s.heap H) := ⟨kinB, nsOf gl, ⟨mb, nsOf bl, bb⟩, ⟨mc, nsOf l1, l2⟩⟩
  have e0 : Env0 P w K mg (hidT s.heap H) callerA [] s H :=
    { frames := rfl, mod := md, bs := fun _ _ e => of_hidT e, bsz := Nat.le_of_eq (hidT_size _ _), funs := trivial, frf := fun b hb => (nomatch (show b ∈ ([] : List Addr) from hb)), hok := hok, bare := .of_eq gens }
  have fresh : Rel K [] ⟨[], H, H⟩ := ⟨Same.refl _, rfl, List.nodup_nil, fun k o a e => by simp at e, fun a ha => by cases ha⟩
  have dvs : Dvs K [] H (ns.map V.int) (ns.map D.int) := by
    have all : ∀ l : List Int, Dvs K [] H (l.map V.int) (l.map D.int) := by
      intro l
      induction l with
      | nil => exact .nil
      | cons n l ih => exact .cons (.int n) ih
    exact all ns
  have want : spJ K 1 F [.ref a] H (fun v _ => v = .bl true) fun _ _ _ => False := by
    refine ⟨rfl, [], ⟨[], H, H⟩, [.scr (ns.map D.int)], rfl, fresh, .one (.scr sq dvs), ?_⟩
    rw [res]
    intro v w' _ _ dv
    cases dv
    rfl
  apply codeAny_mono ((G _ kinB (nsOf gl)).run callerA [] s H ⟨[.ref a], []⟩ [.ref a] [.ref a] _ _ room rfl e0 (bd s (.ref a)) (.cons rfl .nil) want)
  intro r s' h
  match r, h with
  | .ok (.ret u), ⟨v, H', os, bare, un, hok', rv, q⟩ =>
    subst q
    cases (show u = Value.bool true from rv)
    refine ⟨rfl, OldK.of_keep fun b o e => ?_, os, bare⟩
    rcases only b with z | ⟨rfl, o', u, z⟩
    · exact un.keep b o e z (fun y => nomatch (show b ∈ ([] : List Addr) from y)) (by simp)
    · have z2 := un.frzs b o' u z
      obtain ⟨e1, _⟩ := hok b _ z
      obtain ⟨e2, _⟩ := hok' b _ z2
      rw [e] at e1
      cases e1
      exact e2
theorem law_runs (kin : K.In s.heap) (gl : s.heap.Ns mainGlobals mg) (bl : s.heap.Ns builtinsNs mb) (bb : ∀ y : Str, y ≠ "__name__" → mb y = bootBuiltins y) (nol : s.heap.NoLimit) (gens : s.gens = #[])
    (ho : s.heap.get? a = some { cls := .type "list", data := .seq vs.toArray }) (hi : IntsAre vs ns) (hl : ns.length ≤ sizeLine) (room : Room k callerA)
    (G : ∀ base : Heap, K.In base → base.Ns mainGlobals mg → FnG P w K mg base CX0 k fa fd [x] (spJ K 1 F)) (bd : ∀ (s : Shared) (u : Value), BindsTo s fd ⟨[u], []⟩ [(x, u)])
    (res : F [.scr (ns.map D.int)] [] = .ok (.bl true) []) :
    codeAny (model P w) callerA (.call (.ref fa) ⟨[.ref a], []⟩) (fun r s' => r = .ok (.ret (.bool true)) ∧ OldK s.heap s'.heap ∧ s'.os = s.os ∧ AllBare s'.gens) s := by
  have rv := vals_ints hi
  by_cases q : ∃ o, K.lookup a = some o
  · obtain ⟨o, q⟩ := q
    have e := kin a o q
    rw [ho] at e
    cases e
    refine law_from (H := fun _ => none) kin gl bl bb nol gens ho room G bd (fun _ => .inl rfl) (fun b u z => by cases z) (fun z => absurd rfl z) (.inr ⟨_, vs.toArray, _, q, rfl, rfl, rfl, ?_, ?_⟩) res
    · rw [List.size_toArray, hi.length]
      exact hl
    · simpa using rv
  · have q0 : K.lookup a = none := by
      cases z : K.lookup a with
      | none => rfl
      | some o => exact absurd ⟨o, z⟩ q
    let ob : Obj := { cls := .type "list", data := .seq vs.toArray }
    let H : Hp := upd (fun _ => none) a (.frz ob (.lst (ns.map V.int)))
    have at_ : H a = some (.frz ob (.lst (ns.map V.int))) := upd_same
    have off : ∀ b, b ≠ a → H b = none := fun b hb => upd_ne hb
    refine law_from (H := H) kin gl bl bb nol gens ho room G bd (fun b => ?_) (fun b u z => ?_) (fun _ => q0) (.inl (.inr ⟨ob, at_⟩)) res
    · by_cases hb : b = a
      · subst hb
        exact .inr ⟨rfl, _, _, at_⟩
      · exact .inl (off b hb)
    · by_cases hb : b = a
      · subst hb
        rw [at_] at z
        cases z
        exact ⟨ho, by rw [List.length_map]; exact hl, vs, _, rv, ho⟩
      · rw [off b hb] at z
        cases z
end
/-- the end of a law: its def is F, and F of every script is True -/
theorem walkJ {l : PySem.W.OpenLaw} {n k : Nat} {q : Program} {loose : List Str} {XP : (Str → Option Value) → Heap → Prop} {YP : World → Heap → Prop} {d : DefRec} {K : Params → PySem.W.Frag} {st : Stmt} {x : Str} {F : Fd}
    (hn : l.most = some n) (hn2 : n ≤ sizeLine) (hdf : d.params.defaults = []) (room : Room k callerA) (hY : ∀ (w : World) (h : Heap), YP w h → (K w.params).In h)
    (D : ∀ (w : World) (mg : Str → Option Value) (h : Heap), (K w.params).In h → h.Ns mainGlobals mg → ∀ base : Heap, (K w.params).In base → base.Ns mainGlobals mg → Def l.prog w (K w.params) mg base d.name st k [x] F)
    (hb : ∀ (kV doc pm : Value) (an : Option Addr) (cdv ct : Value) (u : Value), bindArgs (PySem.W.fnOf d.name d.name (defArgs st) (defBody st) (defScope st) .none kV doc pm an cdv ct) ⟨[u], []⟩ = pure [(x, u)])
    (res : ∀ ns : List Int, ns.length ≤ n → (∀ i ∈ ns, Builtin.Int.intBits i ≤ 1048576) → F [.scr (ns.map J.D.int)] [] = .ok (.bl true) []) :
    PySem.W.WalkO q loose XP YP l.row.toRowW d [] (fun f vs => PySem.call f vs) := by
  refine Att.attach_callB hn hdf fun w s₀ s₁ mg mb fa o pm cd doc a vs ns G Y ho hd hcd hmg hobj hints hlen hbits hg => ?_
  have KX := hY w _ Y
  have key : ∀ base : Heap, (K w.params).In base → base.Ns mainGlobals mg → ∃ fd, (∀ (s : Shared) (u : Value), BindsTo s fd ⟨[u], []⟩ [(x, u)]) ∧ FnG l.prog w (K w.params) mg base CX0 k fa fd [x] (spJ (K w.params) 1 F) ∧ ∃ oc od osl, (K w.params).lookup fa = some ⟨oc, od, .func fd, osl⟩ := by
    intro base h1 h2
    obtain ⟨f, fd, e1, U, Gf⟩ := (D w mg _ KX G.T.g base h1 h2).ex
    have e2 := e1.symm.trans hmg
    cases e2
    obtain ⟨oc, od, kV, doc', pm', an, cdv, ct, osl, rfl, lk, hcd'⟩ := U.ex
    exact ⟨_, fun s u => .of_eq (hb kV doc' pm' an cdv ct u), Gf, oc, od, osl, lk⟩
  obtain ⟨fd, bd, _, oc, od, osl, lk⟩ := key _ KX G.T.g
  refine law_runs KX G.T.g G.T.b G.T.builtins G.T.nolimit hg hobj hints (Nat.le_trans hlen hn2) room (fun base h1 h2 => ?_) bd (res ns hlen hbits)
  obtain ⟨fd', _, Gf, oc', od', osl', lk'⟩ := key base h1 h2
  rw [lk] at lk'
  cases lk'
  exact Gf
end J
namespace J
open PySem L2 PySem.Spec PyProof.Rows

/-! ### operations on data -/
def gAdd (d e : D) (cs : Cs) : R D := match d, e with
  | .int i, .int j => .ok (.int (i + j)) cs
  | .str x, .str y => if x.length + y.length ≤ LIM then .ok (.str (x ++ y)) cs else .stuck
  | .tup xs, .tup ys => if xs.length + ys.length ≤ LIM then .ok (.tup (xs ++ ys)) cs else .stuck
  | .lst xs, .lst ys => if xs.length + ys.length ≤ LIM then .ok (.lst (xs ++ ys)) cs else .stuck
  | _, _ => .stuck
def gSub (d e : D) (cs : Cs) : R D := match d, e with
  | .int i, .int j => .ok (.int (i - j)) cs
  | _, _ => .stuck
def small (i : Int) : Bool := decide (-(2 ^ 64) < i ∧ i < 2 ^ 64)
def gMul (d e : D) (cs : Cs) : R D := match d, e with
  | .int i, .int j => if small i = true ∨ small j = true then .ok (.int (i * j)) cs else .stuck
  | .lst xs, .int k => if 0 ≤ k ∧ k ≤ 1000 ∧ xs.length ≤ 1000 then .ok (.lst (List.replicate k.toNat xs).flatten) cs else .stuck
  | .tup xs, .int k => if xs ≠ [] ∧ 2 ≤ k ∧ k ≤ 1000 ∧ xs.length ≤ 1000 then .ok (.tup (List.replicate k.toNat xs).flatten) cs else .stuck
  | _, _ => .stuck
def gMod (d e : D) (cs : Cs) : R D := match d, e with
  | .int i, .int j => if 0 < j then .ok (.int (i % j)) cs else .stuck
  | _, _ => .stuck
def gDiv (d e : D) (cs : Cs) : R D := match d, e with
  | .int i, .int j => if 0 < j ∧ j < 1073741824 then .ok (.int (i / j)) cs else .stuck
  | _, _ => .stuck
def gPow (d e : D) (cs : Cs) : R D := match d, e with
  | .int i, .int j => if 0 ≤ j ∧ j ≤ 1000000 ∧ i.natAbs < 2 ^ 64 then .ok (.int (i ^ j.toNat)) cs else .stuck
  | _, _ => .stuck
def gNeg (d : D) (cs : Cs) : R D := match d with
  | .int i => .ok (.int (-i)) cs
  | _ => .stuck
def gCmp (f : Int → Int → Bool) (d e : D) (cs : Cs) : R D := match d, e with
  | .int i, .int j => .ok (.bl (f i j)) cs
  | _, _ => .stuck
def gLt := gCmp fun i j => decide (i < j)
def gLe := gCmp fun i j => decide (i ≤ j)
def gGt := gCmp fun i j => decide (j < i)
def gGe := gCmp fun i j => decide (j ≤ i)

section
variable {K : PySem.W.Frag} {ρ : List Addr} {H : Hp}
theorem Dvs.rep {vs : List V} {ds : List D} (h : Dvs K ρ H vs ds) : ∀ n : Nat, Dvs K ρ H (List.replicate n vs).flatten (List.replicate n ds).flatten
  | 0 => .nil
  | n + 1 => by
    rw [List.replicate_succ, List.replicate_succ, List.flatten_cons, List.flatten_cons]
    exact h.append (Dvs.rep h n)
theorem Dvs.ne {vs : List V} {ds : List D} (h : Dvs K ρ H vs ds) (n : ds ≠ []) : vs ≠ [] := by
  cases h with
  | nil => exact absurd rfl n
  | cons => simp
theorem Dvs.nil_iff {vs : List V} {ds : List D} (h : Dvs K ρ H vs ds) : vs = [] ↔ ds = [] := by
  cases h <;> simp
end
section
variable {X : Cx}
theorem op2 {f : Value → Value → Sem Value} {g : D → D → Cs → R D} (h : ∀ (pins : List (Addr × Obj)) (s : Shared) (σ : L2.St) (x y : V) (v u : Value) (Q : VK) (cs : Cs) (w : Wd) (d e : D), Inv X pins σ w.H s → RelV x v → RelV y u → Rel X.K cs w → Dv X.K w.ρ w.Hd x d → Dv X.K w.ρ w.Hd y e → PostE X.K (g d e cs) w Q →
    wpAny (model X.prog X.w) X.A (f v u) (EP X pins σ Q) X.xe s) : OpR X f (rJ2 X.K g) := by
  intro pins s σ H x y v u Q I rx ry hh
  obtain ⟨cs, w, d, e, rfl, r, dx, dy, p⟩ := hh
  exact h pins s σ x y v u Q cs w d e I rx ry r dx dy p
theorem op_gAdd : OpR X (binaryOp .Add) (rJ2 X.K gAdd) := op2 fun pins s σ x y v u Q cs w d e I rx ry r dx dy p => by
  cases dx with
  | int i =>
    cases dy with
    | int j => exact op_add pins s σ w.H _ _ v u Q I rx ry ⟨i, j, rfl, rfl, p _ w (Ext.refl _) r (.int _)⟩
    | _ => exact p.elim
  | str a ha =>
    cases dy with
    | str b hb =>
      change PostE X.K (if a.length + b.length ≤ LIM then _ else _) w Q at p
      split at p
      · rename_i hl
        have hz : a.length + b.length ≤ sizeLine := Nat.le_trans hl (Nat.le_of_lt lim_lt)
        exact op_add_str pins s σ w.H _ _ v u Q I rx ry ⟨a, b, rfl, rfl, hz, p _ w (Ext.refl _) r (.str _ (by rw [strLen_append]; exact hz))⟩
      · exact p.elim
    | _ => exact p.elim
  | @tup a vs xs ha hv =>
    cases dy with
    | @tup b us ys hb hu =>
      change PostE X.K (if xs.length + ys.length ≤ LIM then _ else _) w Q at p
      split at p
      · rename_i hl
        have hz : vs.length + us.length ≤ sizeLine := by rw [hv.length, hu.length]; exact Nat.le_trans hl (Nat.le_of_lt lim_lt)
        refine op_catA pins s σ w.H _ _ v u Q I rx ry ⟨a, b, vs, us, rfl, rfl, SqT.of (r.same _ _ ha), SqT.of (r.same _ _ hb), hz, fun e => ?_, fun e1 e2 => ?_, fun e1 e2 q hq => ?_⟩
        · have := hv.nil_iff.mp e
          subst this
          exact p _ w (Ext.refl _) r (.tup hb hu)
        · have := hu.nil_iff.mp e2
          subst this
          rw [List.append_nil] at p
          exact p _ w (Ext.refl _) r (.tup ha hv)
        · have x := r.xlay hq (.tup (vs ++ us))
          exact p _ (w.lay q (.tup (vs ++ us))) x (r.lay hq _) (.tup upd_same (Dvs.ext x (hv.append hu)))
      · exact p.elim
    | _ => exact p.elim
  | @lst a vs xs ha hv =>
    cases dy with
    | @lst b us ys hb hu =>
      change PostE X.K (if xs.length + ys.length ≤ LIM then _ else _) w Q at p
      split at p
      · rename_i hl
        have hz : vs.length + us.length ≤ sizeLine := by rw [hv.length, hu.length]; exact Nat.le_trans hl (Nat.le_of_lt lim_lt)
        refine op_cat pins s σ w.H _ _ v u Q I rx ry ⟨a, b, vs, us, rfl, rfl, r.same _ _ ha, r.same _ _ hb, hz, fun q hq => ?_⟩
        have x := r.xlay hq (.lst (vs ++ us))
        exact p _ (w.lay q (.lst (vs ++ us))) x (r.lay hq _) (.lst upd_same (Dvs.ext x (hv.append hu)))
      · exact p.elim
    | _ => exact p.elim
  | _ => cases dy <;> exact p.elim
theorem op_gSub : OpR X (binaryOp .Sub) (rJ2 X.K gSub) := op2 fun pins s σ x y v u Q cs w d e I rx ry r dx dy p => by
  cases dx with
  | int i =>
    cases dy with
    | int j => exact op_sub pins s σ w.H _ _ v u Q I rx ry ⟨i, j, rfl, rfl, p _ w (Ext.refl _) r (.int _)⟩
    | _ => exact p.elim
  | _ => cases dy <;> exact p.elim
theorem op_gMul : OpR X (binaryOp .Mult) (rJ2 X.K gMul) := op2 fun pins s σ x y v u Q cs w d e I rx ry r dx dy p => by
  cases dx with
  | int i =>
    cases dy with
    | int j =>
      change PostE X.K (if small i = true ∨ small j = true then _ else _) w Q at p
      split at p
      · rename_i hl
        have hc : CMul i j := hl.elim (fun z => .inl (of_decide_eq_true z)) fun z => .inr (of_decide_eq_true z)
        exact op_mul pins s σ w.H _ _ v u Q I rx ry ⟨i, j, rfl, rfl, hc, p _ w (Ext.refl _) r (.int _)⟩
      · exact p.elim
    | _ => exact p.elim
  | @lst a vs xs ha hv =>
    cases dy with
    | int k =>
      change PostE X.K (if 0 ≤ k ∧ k ≤ 1000 ∧ xs.length ≤ 1000 then _ else _) w Q at p
      split at p
      · rename_i hl
        have hz : vs.length * k.toNat ≤ sizeLine := by
          have h1 : vs.length ≤ 1000 := by rw [hv.length]; exact hl.2.2
          have h2 : k.toNat ≤ 1000 := by omega
          exact Nat.le_trans (Nat.mul_le_mul h1 h2) (by rw [sizeLine_eq]; decide)
        refine op_rep pins s σ w.H _ _ v u Q I rx ry ⟨a, k, vs, rfl, rfl, r.same _ _ ha, by omega, by omega, hz, fun q hq => ?_⟩
        have x := r.xlay hq (.lst (List.replicate k.toNat vs).flatten)
        exact p _ (w.lay q _) x (r.lay hq _) (.lst upd_same (Dvs.ext x (hv.rep _)))
      · exact p.elim
    | _ => exact p.elim
  | @tup a vs xs ha hv =>
    cases dy with
    | int k =>
      change PostE X.K (if xs ≠ [] ∧ 2 ≤ k ∧ k ≤ 1000 ∧ xs.length ≤ 1000 then _ else _) w Q at p
      split at p
      · rename_i hl
        refine op_repT pins s σ w.H _ _ v u Q I rx ry ⟨a, k, vs, rfl, rfl, SqT.of (r.same _ _ ha), hv.ne hl.1, hl.2.1, hl.2.2.1, by rw [hv.length]; exact hl.2.2.2, fun q hq => ?_⟩
        have x := r.xlay hq (.tup (List.replicate k.toNat vs).flatten)
        exact p _ (w.lay q _) x (r.lay hq _) (.tup upd_same (Dvs.ext x (hv.rep _)))
      · exact p.elim
    | _ => exact p.elim
  | _ => cases dy <;> exact p.elim
theorem op_gMod : OpR X (binaryOp .Mod) (rJ2 X.K gMod) := op2 fun pins s σ x y v u Q cs w d e I rx ry r dx dy p => by
  cases dx with
  | int i =>
    cases dy with
    | int j =>
      change PostE X.K (if 0 < j then _ else _) w Q at p
      split at p
      · rename_i hl
        exact op_mod pins s σ w.H _ _ v u Q I rx ry ⟨i, j, rfl, rfl, hl, p _ w (Ext.refl _) r (.int _)⟩
      · exact p.elim
    | _ => exact p.elim
  | _ => cases dy <;> exact p.elim
theorem op_gDiv : OpR X (binaryOp .FloorDiv) (rJ2 X.K gDiv) := op2 fun pins s σ x y v u Q cs w d e I rx ry r dx dy p => by
  cases dx with
  | int i =>
    cases dy with
    | int j =>
      change PostE X.K (if 0 < j ∧ j < 1073741824 then _ else _) w Q at p
      split at p
      · rename_i hl
        exact op_fdiv pins s σ w.H _ _ v u Q I rx ry ⟨i, j, rfl, rfl, hl, p _ w (Ext.refl _) r (.int _)⟩
      · exact p.elim
    | _ => exact p.elim
  | _ => cases dy <;> exact p.elim
theorem op_gPow : OpR X (binaryOp .Pow) (rJ2 X.K gPow) := op2 fun pins s σ x y v u Q cs w d e I rx ry r dx dy p => by
  cases dx with
  | int i =>
    cases dy with
    | int j =>
      change PostE X.K (if 0 ≤ j ∧ j ≤ 1000000 ∧ i.natAbs < 2 ^ 64 then _ else _) w Q at p
      split at p
      · rename_i hl
        exact op_pow pins s σ w.H _ _ v u Q I rx ry ⟨i, j, rfl, rfl, hl, p _ w (Ext.refl _) r (.int _)⟩
      · exact p.elim
    | _ => exact p.elim
  | _ => cases dy <;> exact p.elim
theorem un_gNeg : UnR X (unaryOp .USub) (rJ1 X.K gNeg) := by
  intro pins s σ H x v Q I rx hh
  obtain ⟨cs, w, d, rfl, r, dx, p⟩ := hh
  cases dx with
  | int i => exact un_neg pins s σ w.H _ v Q I rx ⟨i, rfl, p _ w (Ext.refl _) r (.int _)⟩
  | _ => exact p.elim
theorem op_gCmp {op : CmpOp} {f : Int → Int → Bool} (h : OpR X (compareOp op) (rI0 fun i j => .bl (f i j))) : OpR X (compareOp op) (rJ2 X.K (gCmp f)) := op2 fun pins s σ x y v u Q cs w d e I rx ry r dx dy p => by
  cases dx with
  | int i =>
    cases dy with
    | int j => exact h pins s σ w.H _ _ v u Q I rx ry ⟨i, j, rfl, rfl, p _ w (Ext.refl _) r (.bl _)⟩
    | _ => exact p.elim
  | _ => cases dy <;> exact p.elim
theorem op_gLt : OpR X (compareOp .Lt) (rJ2 X.K gLt) := op_gCmp op_lt
theorem op_gLe : OpR X (compareOp .LtE) (rJ2 X.K gLe) := op_gCmp op_le
theorem op_gGt : OpR X (compareOp .Gt) (rJ2 X.K gGt) := op_gCmp op_gt
theorem op_gGe : OpR X (compareOp .GtE) (rJ2 X.K gGe) := op_gCmp op_ge
end
theorem bl_gCmp {f : Int → Int → Bool} {x y : D} {cs cs' : Cs} {d : D} (h : gCmp f x y cs = .ok d cs') : ∃ b, d = .bl b := by
  unfold gCmp at h
  split at h
  · cases h; exact ⟨_, rfl⟩
  · cases h

/-! ### solid data: as the library's data -/
mutual
def py : D → PyData
  | .non => .none
  | .bl b => .bool b
  | .int i => .int i
  | .str x => .str x
  | .tup xs => .tuple (pys xs)
  | .lst xs => .list (pys xs)
  | .scr xs => .list (pys xs)
  | .dct ks vs => .dict ((pys ks).zip (pys vs))
  | .ptr _ => .none
  | .ty _ => .none
def pys : List D → List PyData
  | [] => []
  | x :: xs => py x :: pys xs
end
/-- comparable: numbers, truths, texts, None, tuples and lists of these, at most n deep -/
def lays : Nat → D → Bool
  | _, .non | _, .bl _ | _, .int _ => true
  | _, .str x => PyData.strOk x
  | n + 1, .tup xs => xs.all (lays n)
  | n + 1, .lst xs => xs.all (lays n)
  | _, _ => false
theorem pys_map : ∀ xs : List D, pys xs = xs.map py
  | [] => rfl
  | x :: xs => by simp [pys, pys_map xs]
theorem lays_all {n : Nat} (ih : ∀ d, lays n d = true → (py d).canLay0 = true ∧ (py d).depth ≤ n) : ∀ xs : List D, xs.all (lays n) = true → PyData.canLayAll0 (pys xs) = true ∧ PyData.depthAll (pys xs) ≤ n
  | [], _ => ⟨by simp [pys, PyData.canLayAll0], by simp [pys, PyData.depthAll]⟩
  | x :: xs, h => by
    simp only [List.all_cons, Bool.and_eq_true] at h
    obtain ⟨a1, a2⟩ := ih x h.1
    obtain ⟨b1, b2⟩ := lays_all ih xs h.2
    refine ⟨by simp [pys, PyData.canLayAll0, a1, b1], ?_⟩
    simp only [pys, PyData.depthAll]
    omega
theorem lays_py : ∀ (n : Nat) (d : D), lays n d = true → (py d).canLay0 = true ∧ (py d).depth ≤ n
  | n, .non, _ => ⟨by simp [py, PyData.canLay0], by simp [py, PyData.depth]⟩
  | n, .bl _, _ => ⟨by simp [py, PyData.canLay0], by simp [py, PyData.depth]⟩
  | n, .int _, _ => ⟨by simp [py, PyData.canLay0], by simp [py, PyData.depth]⟩
  | n, .str x, h => by
    have h' : PyData.strOk x = true := by cases n <;> simpa [lays] using h
    exact ⟨by simp [py, PyData.canLay0, h'], by simp [py, PyData.depth]⟩
  | 0, .tup _, h => by simp [lays] at h
  | 0, .lst _, h => by simp [lays] at h
  | n + 1, .tup xs, h => by
    obtain ⟨a, b⟩ := lays_all (lays_py n) xs (by simpa [lays] using h)
    exact ⟨by simp [py, PyData.canLay0, a], by simp only [py, PyData.depth]; omega⟩
  | n + 1, .lst xs, h => by
    obtain ⟨a, b⟩ := lays_all (lays_py n) xs (by simpa [lays] using h)
    exact ⟨by simp [py, PyData.canLay0, a], by simp only [py, PyData.depth]; omega⟩
  | n, .dct _ _, h => by cases n <;> simp [lays] at h
  | n, .ptr _, h => by cases n <;> simp [lays] at h
  | n, .scr _, h => by cases n <;> simp [lays] at h
  | n, .ty _, h => by cases n <;> simp [lays] at h
theorem lays_shaped {d : D} (h : lays 60 d = true) : SeqAt.shaped (py d) = true := by
  obtain ⟨a, b⟩ := lays_py 60 d h
  unfold SeqAt.shaped
  rw [Bool.and_eq_true]
  exact ⟨a, decide_eq_true (by omega)⟩
theorem lays_dps {K : PySem.W.Frag} {w : Wd} {cs : Cs} (r : Rel K cs w) {n : Nat} (ih : ∀ {v : V} {d : D}, Dv K w.ρ w.Hd v d → lays n d = true → Dp K w.H v (py d)) : ∀ {vs : List V} {ds : List D}, Dvs K w.ρ w.Hd vs ds → ds.all (lays n) = true → DpAll K w.H vs (pys ds)
  | _, _, .nil, _ => .nil
  | _, _, .cons h g, l => by
    simp only [List.all_cons, Bool.and_eq_true] at l
    exact .cons (ih h l.1) (lays_dps r ih g l.2)
theorem lays_dp {K : PySem.W.Frag} {w : Wd} {cs : Cs} (r : Rel K cs w) : ∀ (n : Nat) {v : V} {d : D}, Dv K w.ρ w.Hd v d → lays n d = true → Dp K w.H v (py d)
  | n, _, _, .non, _ => .non
  | n, _, _, .bl b, _ => .bl b
  | n, _, _, .int i, _ => .int i
  | n, _, _, .str x _, _ => .str x
  | 0, _, _, .tup _ _, h => by simp [lays] at h
  | 0, _, _, .lst _ _, h => by simp [lays] at h
  | n + 1, _, _, .tup h g, l => .tup (SqT.of (r.same _ _ h)) (lays_dps r (lays_dp r n) g (by simpa [lays] using l))
  | n + 1, _, _, .lst h g, l => .lst (SqL.of (r.same _ _ h)) (lays_dps r (lays_dp r n) g (by simpa [lays] using l))
  | n, _, _, .scr _ _, h => by cases n <;> simp [lays] at h
  | n, _, _, .dct _ _ _, h => by cases n <;> simp [lays] at h
  | n, _, _, .ptr _, h => by cases n <;> simp [lays] at h
  | n, _, _, .ty _, h => by cases n <;> simp [lays] at h
def eqD (d e : D) : Bool := PyData.eqv (py d) (py e)
def gEq (d e : D) (cs : Cs) : R D := match d, e with
  | .str x, .str y => .ok (.bl (decide (x = y))) cs
  | d, e => if lays 60 d = true ∧ lays 60 e = true then .ok (.bl (eqD d e)) cs else .stuck
def gNe (d e : D) (cs : Cs) : R D := match d, e with
  | .str x, .str y => .ok (.bl (!decide (x = y))) cs
  | d, e => if lays 60 d = true ∧ lays 60 e = true then .ok (.bl (!eqD d e)) cs else .stuck
theorem bl_gEq {x y : D} {cs cs' : Cs} {d : D} (h : gEq x y cs = .ok d cs') : ∃ b, d = .bl b := by
  unfold gEq at h
  split at h
  · cases h; exact ⟨_, rfl⟩
  · split at h
    · cases h; exact ⟨_, rfl⟩
    · cases h
theorem bl_gNe {x y : D} {cs cs' : Cs} {d : D} (h : gNe x y cs = .ok d cs') : ∃ b, d = .bl b := by
  unfold gNe at h
  split at h
  · cases h; exact ⟨_, rfl⟩
  · split at h
    · cases h; exact ⟨_, rfl⟩
    · cases h
def gIn (d e : D) (cs : Cs) : R D := match e with
  | .lst ds => if lays 60 d = true ∧ lays 60 (.lst ds) = true then .ok (.bl (ds.any fun z => eqD z d)) cs else .stuck
  | _ => .stuck
theorem str_dec (x y : Str) : decide (V.str x = V.str y) = decide (x = y) := by
  by_cases h : x = y
  · subst h; simp
  · rw [decide_eq_false h, decide_eq_false fun q => h (V.str.inj q)]
section
variable {X : Cx} {m : Nat}
theorem op_gEq (c : Ctx X m) : OpR X (compareOp .Eq) (rJ2 X.K gEq) := op2 fun pins s σ x y v u Q cs w d e I rx ry r dx dy p => by
  unfold gEq at p
  split at p
  · cases dx
    cases dy
    refine op_eq pins s σ w.H _ _ v u Q I rx ry ⟨rfl, ?_⟩
    rw [str_dec]
    exact p _ w (Ext.refl _) r (.bl _)
  split at p
  · rename_i hl
    exact op_eqD c.room.units pins s σ w.H _ _ v u Q I rx ry ⟨py d, py e, lays_dp r 60 dx hl.1, lays_dp r 60 dy hl.2, lays_shaped hl.1, lays_shaped hl.2, p _ w (Ext.refl _) r (.bl _)⟩
  · exact p.elim
theorem op_gNe (c : Ctx X m) : OpR X (compareOp .NotEq) (rJ2 X.K gNe) := op2 fun pins s σ x y v u Q cs w d e I rx ry r dx dy p => by
  unfold gNe at p
  split at p
  · cases dx
    cases dy
    refine op_ne pins s σ w.H _ _ v u Q I rx ry ⟨rfl, ?_⟩
    rw [str_dec]
    exact p _ w (Ext.refl _) r (.bl _)
  split at p
  · rename_i hl
    exact op_neD c.room.units pins s σ w.H _ _ v u Q I rx ry ⟨py d, py e, lays_dp r 60 dx hl.1, lays_dp r 60 dy hl.2, lays_shaped hl.1, lays_shaped hl.2, p _ w (Ext.refl _) r (.bl _)⟩
  · exact p.elim
end

/-! ### subscripts and slices -/
def seqOf (d : D) (cs : Cs) : Option (List D) := match d with
  | .tup xs => some xs
  | .lst xs => some xs
  | .scr xs => some xs
  | .ptr k => match cs[k]? with
    | some (.lst xs) => some xs
    | _ => none
  | _ => none
def gIx (d e : D) (cs : Cs) : R D := match seqOf d cs, e with
  | some xs, .int i => ofO (atI xs i) cs
  | _, _ => .stuck
section
variable {X : Cx} {cs : Cs} {w : Wd}
/-- what may be walked or read by place stands in the heap -/
theorem seq_at {K : PySem.W.Frag} (r : Rel K cs w) {v : V} {d : D} (h : Dv K w.ρ w.Hd v d) {xs : List D} (e : seqOf d cs = some xs) : ∃ a vs, v = .ref a ∧ (SqL K w.H a vs ∨ SqT K w.H a vs) ∧ Dvs K w.ρ w.Hd vs xs := by
  cases h with
  | tup h g => cases e; exact ⟨_, _, rfl, .inr (SqT.of (r.same _ _ h)), g⟩
  | lst h g => cases e; exact ⟨_, _, rfl, .inl (SqL.of (r.same _ _ h)), g⟩
  | scr h g => cases e; exact ⟨_, _, rfl, .inl (same_sqL r.same h), g⟩
  | @ptr a k h =>
    cases hc : cs[k]? with
    | none => simp [seqOf, hc] at e
    | some o =>
      cases o with
      | dead => simp [seqOf, hc] at e
      | lst ys =>
        simp only [seqOf, hc] at e
        cases e
        obtain ⟨vs, e1, e2⟩ := r.get h hc
        exact ⟨a, vs, rfl, .inl (SqL.of e1), e2⟩
  | _ => cases e
theorem atI_dvs {K : PySem.W.Frag} {ρ : List Addr} {H : Hp} {vs : List V} {ds : List D} (h : Dvs K ρ H vs ds) {i : Int} {d : D} (e : atI ds i = some d) : ∃ v, atI vs i = some v ∧ Dv K ρ H v d := by
  unfold atI at e ⊢
  rw [h.length]
  cases q : ixN ds.length i with
  | none => rw [q] at e; cases e
  | some j =>
    rw [q] at e
    exact h.get (i := j) e
theorem ix_g : IxR X (rJ2 X.K gIx) := by
  intro value slice pins s σ H x y v u Q I rx ry hh hs
  obtain ⟨cs, w, d, e, rfl, r, dx, dy, p⟩ := hh
  unfold gIx at p
  cases q : seqOf d cs with
  | none => rw [q] at p; exact p.elim
  | some xs =>
    rw [q] at p
    cases dy with
    | int i =>
      cases q2 : atI xs i with
      | none => simp only [q2] at p; exact p.elim
      | some z =>
        simp only [q2] at p
        obtain ⟨a, vs, rfl, hsq, dvs⟩ := seq_at r dx q
        obtain ⟨zv, e1, e2⟩ := atI_dvs dvs q2
        rcases hsq with hq | hq
        · exact ix_list value slice pins s σ w.H _ _ v u Q I rx ry ⟨a, vs, i, zv, rfl, rfl, hq, e1, p _ w (Ext.refl _) r e2⟩ hs
        · exact ix_tup value slice pins s σ w.H _ _ v u Q I rx ry ⟨a, vs, i, zv, rfl, rfl, hq, e1, p _ w (Ext.refl _) r e2⟩ hs
    | _ => exact p.elim
theorem je_ix {a b : Expr} {fa fb : Ev} {pos : Pos} (ha : JE X a fa) (hb : JE X b fb) (hs : PlainIx b) : JE X (.Subscript a b pos) (c2 gIx fa fb) :=
  (pe_ix ix_g ha hb hs).wk fun σ Q cs w σd r e p => ⟨cs, w, σd, rfl, r, e, bEE p fun v d cs1 w1 x1 r1 d1 p1 => ⟨cs1, w1, σd, rfl, r1, e.ext x1, bEE p1 fun u d2 cs2 w2 x2 r2 v2 p2 => ⟨cs2, w2, d, d2, rfl, r2, d1.ext x2, v2, p2⟩⟩⟩
end
end J
namespace J
open PySem L2 PySem.Spec PyProof.Rows

/-! ### displays -/
def gTup (ds : List D) (cs : Cs) : R D := if ds.length ≤ LIM then .ok (.tup ds) cs else .stuck
def gLst (ds : List D) (cs : Cs) : R D := if ds.length ≤ LIM then .ok (.lst ds) cs else .stuck
def gCell (ds : List D) (cs : Cs) : R D := if ds.length ≤ LIM then .ok (.ptr cs.length) (cs ++ [.lst ds]) else .stuck
section
variable {X : Cx} {es : List Expr} {fs : El} {pos : Pos}
theorem je_tup {k} (h : JL X es fs) : JE X (.Tuple es k pos) (cN gTup fs) := by
  refine (pe_tup h).wk fun σ Q cs w σd r e p => ⟨cs, w, σd, rfl, r, e, bLE p fun v d cs1 w1 x1 r1 d1 p1 => ?_⟩
  unfold gTup at p1
  split at p1
  · rename_i hl
    refine ⟨by rw [d1.length]; exact Nat.le_trans hl (Nat.le_of_lt lim_lt), fun q hq => ?_⟩
    have x := r1.xlay hq (.tup v)
    exact p1 _ (w1.lay q _) x (r1.lay hq _) (.tup upd_same (Dvs.ext x d1))
  · exact p1.elim
theorem je_lst (h : JL X es fs) : JE X (.List es pos) (cN gLst fs) := by
  refine (pe_lst h).wk fun σ Q cs w σd r e p => ⟨cs, w, σd, rfl, r, e, bLE p fun v d cs1 w1 x1 r1 d1 p1 => ?_⟩
  unfold gLst at p1
  split at p1
  · rename_i hl
    refine ⟨by rw [d1.length]; exact Nat.le_trans hl (Nat.le_of_lt lim_lt), fun q hq => ?_⟩
    have x := r1.xlay hq (.lst v)
    exact p1 _ (w1.lay q _) x (r1.lay hq _) (.lst upd_same (Dvs.ext x d1))
  · exact p1.elim
/-- a list that will be changed -/
theorem je_cell (h : JL X es fs) : JE X (.List es pos) (cN gCell fs) := by
  refine (pe_lst h).wk fun σ Q cs w σd r e p => ⟨cs, w, σd, rfl, r, e, bLE p fun v d cs1 w1 x1 r1 d1 p1 => ?_⟩
  unfold gCell at p1
  split at p1
  · rename_i hl
    refine ⟨by rw [d1.length]; exact Nat.le_trans hl (Nat.le_of_lt lim_lt), fun q hq => ?_⟩
    have x := r1.xcell hq (.lst v)
    refine p1 _ (w1.cell q _) x (r1.layCell hq d1) (.ptr ?_)
    show (w1.ρ ++ [q])[cs1.length]? = some q
    rw [← r1.len, List.getElem?_append_right (Nat.le_refl _), Nat.sub_self]
    rfl
  · exact p1.elim
/-- {} -/
theorem je_dict0 : JE X (.Dict [] [] pos) (cK (.dct [] [])) := by
  refine (pe_dnewK).wk fun σ Q cs w σd r e p => fun q hq => ?_
  have x := r.xlay hq (.dK [])
  exact p _ (w.lay q _) x (r.lay hq _) (.dct upd_same .nil .nil)
end
/-- {k: v}, one key, a number -/
def gDict1 (k v : D) (cs : Cs) : R D := match k with
  | .int i => .ok (.dct [.int i] [v]) cs
  | _ => .stuck

/-! ### slices -/
abbrev Eo := En → Cs → R (Option Int)
def oNone : Eo := fun _ cs => .ok none cs
def oSome (a : Ev) : Eo := fun σ cs => (a σ cs).bind fun d cs1 => match d with
  | .int i => .ok (some i) cs1
  | _ => .stuck
def PostO (K : PySem.W.Frag) (r : R (Option Int)) (w : Wd) (Q : Option Int → Hp → Prop) : Prop := match r with
  | .ok o cs' => ∀ w', Ext w w' → Rel K cs' w' → Q o w'.H
  | .stuck => False
theorem PostO.ext {K : PySem.W.Frag} {w w' : Wd} {r : R (Option Int)} {Q : Option Int → Hp → Prop} (h : PostO K r w Q) (x : Ext w w') : PostO K r w' Q := by
  cases r with
  | ok d cs => exact fun w1 x1 => h w1 (x.trans x1)
  | stuck => exact h
def tJo (K : PySem.W.Frag) (f : Eo) : TO := fun σ H Q => ∃ cs w σd, w.H = H ∧ Rel K cs w ∧ EnvR K w σ σd ∧ PostO K (f σd cs) w Q
theorem bOE {K : PySem.W.Frag} {w : Wd} {Q : VK} {r : R (Option Int)} {G : Option Int → Hp → Prop} {k : Option Int → Cs → R D} (h : PostE K (r.bind k) w Q) (g : ∀ d cs1 w1, Ext w w1 → Rel K cs1 w1 → PostE K (k d cs1) w1 Q → G d w1.H) : PostO K r w G := by
  cases r with
  | ok d cs => exact fun w1 x r1 => g d cs w1 x r1 (PostE.ext h x)
  | stuck => exact h.elim
section
variable {X : Cx} {e : Expr} {fa : Ev} {lo hi : Option Expr} {fl fh : Eo} {pos p2 : Pos}
abbrev JO (X : Cx) (o : Option Expr) (f : Eo) : Prop := PO X o (tJo X.K f)
theorem po_weak {t t' : TO} (h : PO X lo t) (w : ∀ σ H Q, t' σ H Q → t σ H Q) : PO X lo t' := ⟨fun pins s σ H Q I hw => h.run pins s σ H Q I (w _ _ _ hw)⟩
theorem jo_none : JO X none oNone := po_weak po_none fun σ H Q h => by
  obtain ⟨cs, w, σd, rfl, r, e, p⟩ := h
  exact p w (Ext.refl _) r
theorem jo_some (h : JE X e fa) : JO X (some e) (oSome fa) := po_weak (po_some h) fun σ H Q h => by
  obtain ⟨cs, w, σd, rfl, r, en, p⟩ := h
  refine ⟨cs, w, σd, rfl, r, en, ?_⟩
  unfold oSome at p
  cases q : fa σd cs with
  | stuck => rw [q] at p; exact p.elim
  | ok d cs1 =>
    rw [q] at p
    intro v w1 x1 r1 d1
    have p1 := PostO.ext p x1
    cases d1 with
    | int i => exact ⟨i, rfl, p1 w1 (Ext.refl _) r1⟩
    | _ => exact p1.elim
def cutD (xs : List D) (lo hi : Option Int) : List D := (xs.drop (HT.sIx xs.length 0 lo)).take (HT.sIx xs.length xs.length hi - HT.sIx xs.length 0 lo)
theorem Dvs.cut {K : PySem.W.Frag} {ρ : List Addr} {H : Hp} {vs : List V} {ds : List D} (h : Dvs K ρ H vs ds) (lo hi : Option Int) : Dvs K ρ H (cutV vs lo hi) (cutD ds lo hi) := by
  unfold cutV cutD
  rw [h.length]
  exact (h.drop _).take _
def gSl (d : D) (lo hi : Option Int) (cs : Cs) : R D := match d with
  | .tup xs => .ok (.tup (cutD xs lo hi)) cs
  | .lst xs => .ok (.lst (cutD xs lo hi)) cs
  | .scr xs => .ok (.lst (cutD xs lo hi)) cs
  | .ptr k => match cs[k]? with
    | some (.lst xs) => .ok (.lst (cutD xs lo hi)) cs
    | _ => .stuck
  | _ => .stuck
def rJSl (K : PySem.W.Frag) (g : D → Option Int → Option Int → Cs → R D) : V → Option Int → Option Int → Hp → VK → Prop := fun x lo hi H Q => ∃ cs w d, w.H = H ∧ Rel K cs w ∧ Dv K w.ρ w.Hd x d ∧ PostE K (g d lo hi cs) w Q
theorem cut_whole {xs : List V} {lo hi : Option Int} (h : HT.sIx xs.length 0 lo = 0 ∧ HT.sIx xs.length xs.length hi = xs.length) : cutV xs lo hi = xs := by
  unfold cutV
  rw [h.1, h.2]
  simp
theorem sl_g : SlR X (rJSl X.K gSl) := by
  intro pins s σ H x v vl vu lo hi sl Q I rx hs pl pu hh
  obtain ⟨cs, w, d, rfl, r, dx, p⟩ := hh
  have lst : ∀ {a vs xs}, x = .ref a → SqL X.K w.H a vs → Dvs X.K w.ρ w.Hd vs xs → PostE X.K (.ok (.lst (cutD xs lo hi)) cs) w Q → ∃ T id, typeLookup (.type T) "__getitem__" = pure (some (.builtin id)) ∧ s.TypeIs v T ∧ wpAny (model X.prog X.w) X.A (getItem v (.ref sl)) (EP X pins σ Q) X.xe s := by
    intro a vs xs ex hq hv p
    refine sl_list pins s σ w.H x v vl vu lo hi sl Q I rx hs pl pu ⟨a, vs, ex, hq, fun q hq' => ?_⟩
    have z := r.xlay hq' (.lst (cutV vs lo hi))
    exact p _ (w.lay q _) z (r.lay hq' _) (.lst upd_same (Dvs.ext z (hv.cut lo hi)))
  cases dx with
  | @tup a vs xs h g =>
    refine sl_tupA pins s σ w.H _ v vl vu lo hi sl Q I rx hs pl pu ⟨a, vs, rfl, SqT.of (r.same _ _ h), fun e => ?_, fun _ q hq => ?_⟩
    · have c := g.cut lo hi
      rw [cut_whole e] at c
      exact p _ w (Ext.refl _) r (.tup h c)
    · have z := r.xlay hq (.tup (cutV vs lo hi))
      exact p _ (w.lay q _) z (r.lay hq _) (.tup upd_same (Dvs.ext z (g.cut lo hi)))
  | lst h g => exact lst rfl (SqL.of (r.same _ _ h)) g p
  | scr h g => exact lst rfl (same_sqL r.same h) g p
  | @ptr a k h =>
    cases hc : cs[k]? with
    | none => simp [gSl, hc] at p; exact p.elim
    | some o =>
      cases o with
      | dead => simp [gSl, hc] at p; exact p.elim
      | lst ys =>
        simp only [gSl, hc] at p
        obtain ⟨vs, e1, e2⟩ := r.get h hc
        exact lst rfl (SqL.of e1) e2 p
  | _ => exact p.elim
def cSl (a : Ev) (l h : Eo) : Ev := fun σ cs => (a σ cs).bind fun d cs1 => (l σ cs1).bind fun x cs2 => (h σ cs2).bind fun y cs3 => gSl d x y cs3
theorem je_slice (he : JE X e fa) (hl : JO X lo fl) (hh : JO X hi fh) : JE X (.Subscript e (.Slice lo hi none p2) pos) (cSl fa fl fh) :=
  (pe_slice sl_g he hl hh).wk fun σ Q cs w σd r e p => ⟨cs, w, σd, rfl, r, e, bEE p fun v d cs1 w1 x1 r1 d1 p1 => ⟨cs1, w1, σd, rfl, r1, e.ext x1, bOE p1 fun o cs2 w2 x2 r2 p2 => ⟨cs2, w2, σd, rfl, r2, e.ext (x1.trans x2), bOE p2 fun o2 cs3 w3 x3 r3 p3 => ⟨cs3, w3, d, rfl, r3, d1.ext (x2.trans x3), p3⟩⟩⟩⟩
end

/-! ### o[i] = e, o.append(e) of cells -/
def gSet (o i d : D) (cs : Cs) : Option Cs := match o, i with
  | .ptr k, .int n => match cs[k]? with
    | some (.lst xs) => (ixN xs.length n).map fun j => cs.set k (.lst (xs.set j d))
    | _ => none
  | _, _ => none
def sSetI (e o i : Ev) : Sv := fun σ cs => RS.of (e σ cs) fun d cs1 => RS.of (o σ cs1) fun x cs2 => RS.of (i σ cs2) fun y cs3 => match gSet x y d cs3 with
  | some cs4 => .nx σ cs4
  | none => .stuck
section
variable {X : Cx} {e o i : Expr} {fe fo fi : Ev} {pos tpos : Pos}
theorem js_setI (he : JE X e fe) (ho : JE X o fo) (hi : JE X i fi) (ha : ∀ v, assign (.Subscript o i tpos) X.env v = (do
      let ov ← holding [v] (eval o X.env)
      let iv ← holding [v, ov] (eval i X.env)
      standAt tpos
      holding [v, ov, iv] (setItem ov iv v)
      release [v, ov, iv] []) := by intro _; rfl) (hs : swapsWithSole [.Subscript o i tpos] e pos.line X.env = pure false := by rfl) (hw : swappedStores [.Subscript o i tpos] e X.env = pure none := by rfl)
    (h1 : (assignEach [.Subscript o i tpos] X.env).map (·.2) = [assign (.Subscript o i tpos) X.env] := by rfl) : JS X (.Assign [.Subscript o i tpos] e pos) (sSetI fe fo fi) := by
  refine PS.wk (ps_asg he (pg_sub ho hi set_list ha) hs hw h1) fun E σ cs w σd r en p => ⟨cs, w, σd, rfl, r, en, sEE p fun v d cs1 w1 x1 r1 d1 p1 => ⟨cs1, w1, σd, rfl, r1, en.ext x1, sEE p1 fun ov od cs2 w2 x2 r2 d2 p2 => ⟨cs2, w2, σd, rfl, r2, en.ext (x1.trans x2), sEE p2 fun iv id cs3 w3 x3 r3 d3 p3 => ?_⟩⟩⟩
  cases q : gSet od id d cs3 with
  | none => rw [q] at p3; exact p3.elim
  | some cs4 =>
    rw [q] at p3
    have d2' := d2.ext x3
    cases d2' with
    | @ptr a k h =>
      cases d3 with
      | int n =>
        cases hc : cs3[k]? with
        | none => simp [gSet, hc] at q
        | some ob =>
          cases ob with
          | dead => simp [gSet, hc] at q
          | lst xs =>
            cases hj : ixN xs.length n with
            | none => simp [gSet, hc, hj] at q
            | some j =>
              simp only [gSet, hc, hj, Option.map_some, Option.some.injEq] at q
              subst q
              obtain ⟨vs, e1, e2⟩ := r3.get h hc
              refine ⟨a, vs, n, j, rfl, rfl, e1, by rw [e2.length]; exact hj, ?_⟩
              have z := xput h (.lst (vs.set j v))
              exact p3 σ (w3.put a _) z (r3.put h hc (e2.set (d1.ext (x2.trans x3)) j)) (en.ext (x1.trans (x2.trans (x3.trans z))))
      | _ => simp [gSet] at q
    | _ => simp [gSet] at q
end
def liveL (d : D) (cs : Cs) : Bool := match d with
  | .ptr k => match cs[k]? with
    | some (.lst _) => true
    | _ => false
  | _ => false
def gApp (o : D) (ds : List D) (cs : Cs) : R D := match o, ds with
  | .ptr k, [d] => match cs[k]? with
    | some (.lst xs) => if xs.length < LIM then .ok .non (cs.set k (.lst (xs ++ [d]))) else .stuck
    | _ => .stuck
  | _, _ => .stuck
def cMethL (g : D → List D → Cs → R D) (o : Ev) (as : El) : Ev := fun σ cs => (o σ cs).bind fun d cs1 => if liveL d cs1 = true then (as σ cs1).bind fun ds cs2 => g d ds cs2 else .stuck
section
variable {X : Cx} {e o : Expr} {fo : Ev} {fs : El} {cpos apos : Pos}
theorem live_ptr {K : PySem.W.Frag} {cs : Cs} {w : Wd} (r : Rel K cs w) {v : V} {d : D} (h : Dv K w.ρ w.Hd v d) (l : liveL d cs = true) : ∃ a k xs vs, v = .ref a ∧ d = .ptr k ∧ w.ρ[k]? = some a ∧ cs[k]? = some (.lst xs) ∧ w.H a = some (.lst vs) ∧ Dvs K w.ρ w.Hd vs xs := by
  cases h with
  | @ptr a k h =>
    cases hc : cs[k]? with
    | none => simp [liveL, hc] at l
    | some ob =>
      cases ob with
      | dead => simp [liveL, hc] at l
      | lst xs =>
        obtain ⟨vs, e1, e2⟩ := r.get h hc
        exact ⟨a, k, xs, vs, rfl, rfl, h, hc, e1, e2⟩
  | _ => simp [liveL] at l
theorem je_append (ho : JE X o fo) (ha : JL X [e] fs) (hbase : attributeBase o (Str.ofString "append") X.env (eval o X.env) = eval o X.env := by rfl)
    (hfew : ((((backTo cpos (starEach [e] X.env)).all fun x => !x.fst) && (backToKw cpos (keywordEach [] X.env)).all fun x => x.fst.isSome) && decide (([e].length + ([] : List Keyword).length + if ([] : List Keyword).isEmpty = true then 0 else 1) < 30)) = true := by rfl)
    (hline : (apos.endLine == cpos.line) = true := by rfl) (hst : starEach [e] X.env = (false, eval e X.env) :: starEach [] X.env := by rfl) : JE X (.Call (.Attribute o (Str.ofString "append") apos) [e] [] cpos) (cMethL gApp fo fs) := by
  refine (pe_bm PySem.F.plainAttrs_list PySem.F.slot_list_append PySem.F.type_list_append mt_append ho ha hbase hfew hline hst).wk fun σ Q cs w σd r en p => ⟨cs, w, σd, rfl, r, en, bEE p fun v d cs1 w1 x1 r1 d1 p1 => ?_⟩
  split at p1
  · rename_i hl
    obtain ⟨a, k, xs, vs, rfl, rfl, h, hc, e1, e2⟩ := live_ptr r1 d1 hl
    refine ⟨.inl ⟨rfl, vs, SqL.of e1⟩, cs1, w1, σd, rfl, r1, en.ext x1, bLE p1 fun us ds cs2 w2 x2 r2 d2 p2 => ?_⟩
    cases d2 with
    | nil => simp [gApp] at p2; exact p2.elim
    | cons y t =>
      cases t with
      | cons => simp [gApp] at p2; exact p2.elim
      | nil =>
        cases hc2 : cs2[k]? with
        | none => simp [gApp, hc2] at p2; exact p2.elim
        | some ob =>
          cases ob with
          | dead => simp [gApp, hc2] at p2; exact p2.elim
          | lst ys =>
            simp only [gApp, hc2] at p2
            split at p2
            · rename_i hlt
              have h2 := pre_get x2.pre h
              obtain ⟨vs2, e3, e4⟩ := r2.get h2 hc2
              refine ⟨a, vs2, _, rfl, rfl, e3, by rw [e4.length]; exact Nat.lt_trans hlt lim_lt, ?_⟩
              exact p2 .non (w2.put a _) (xput h2 _) (r2.put h2 hc2 (e4.append (.one y))) .non
            · exact p2.elim
  · exact p1.elim
end
end J
namespace J
open PySem L2 PySem.Spec PyProof.Rows

/-! ### calls of built-ins -/
theorem Dvs.ints {K : PySem.W.Frag} {ρ : List Addr} {H : Hp} : ∀ {ns : List Int} {vs : List V}, Dvs K ρ H vs (ns.map D.int) → vs = ns.map V.int := fun {ns} => by
  induction ns with
  | nil => intro vs h; cases h; rfl
  | cons n ns ih =>
    intro vs h
    cases h with
    | cons a t =>
      cases a
      rw [List.map_cons, ih t]
theorem Dvs.bls {K : PySem.W.Frag} {ρ : List Addr} {H : Hp} : ∀ {ns : List Bool} {vs : List V}, Dvs K ρ H vs (ns.map D.bl) → vs = ns.map V.bl := fun {ns} => by
  induction ns with
  | nil => intro vs h; cases h; rfl
  | cons n ns ih =>
    intro vs h
    cases h with
    | cons a t =>
      cases a
      rw [List.map_cons, ih t]
def asBool : D → Option Bool
  | .bl b => some b
  | _ => none
def asBools : List D → Option (List Bool)
  | [] => some []
  | d :: ds => (asBool d).bind fun b => (asBools ds).map fun bs => b :: bs
theorem asBools_map : ∀ {ds : List D} {bs : List Bool}, asBools ds = some bs → ds = bs.map D.bl
  | [], bs, h => by cases h; rfl
  | d :: ds, bs, h => by
    unfold asBools at h
    cases d with
    | bl b =>
      cases q : asBools ds with
      | none => simp [asBool, q] at h
      | some cs =>
        simp [asBool, q] at h
        subst h
        rw [List.map_cons, asBools_map q]
    | _ => simp [asBool] at h
def gLen (ds : List D) (cs : Cs) : R D := match ds with
  | [.str x] => .ok (.int x.length) cs
  | [d] => (ofO (seqOf d cs) cs).bind fun xs cs1 => .ok (.int xs.length) cs1
  | _ => .stuck
def gAll (ds : List D) (cs : Cs) : R D := match ds with
  | [.lst xs] => (ofO (asBools xs) cs).bind fun bs cs1 => .ok (.bl (bs.all id)) cs1
  | _ => .stuck
def gAny (ds : List D) (cs : Cs) : R D := match ds with
  | [.lst xs] => (ofO (asBools xs) cs).bind fun bs cs1 => .ok (.bl (bs.any id)) cs1
  | _ => .stuck
def gInt (ds : List D) (cs : Cs) : R D := match ds with
  | [.int i] => .ok (.int i) cs
  | [.bl b] => .ok (.int (if b then 1 else 0)) cs
  | _ => .stuck
def gMax (ds : List D) (cs : Cs) : R D := match ds with
  | [.int i, .int j] => .ok (.int (if j > i then j else i)) cs
  | _ => .stuck
def gMin (ds : List D) (cs : Cs) : R D := match ds with
  | [.int i, .int j] => .ok (.int (if j < i then j else i)) cs
  | _ => .stuck
def gTuple (ds : List D) (cs : Cs) : R D := match ds with
  | [d] => (ofO (seqOf d cs) cs).bind fun xs cs1 => .ok (.tup xs) cs1
  | _ => .stuck
def gList (ds : List D) (cs : Cs) : R D := match ds with
  | [d] => (ofO (seqOf d cs) cs).bind fun xs cs1 => .ok (.lst xs) cs1
  | _ => .stuck
def tyOf (d : D) (cs : Cs) : Option Ty := match d with
  | .non => some .nt
  | .bl _ => some .bool
  | .int _ => some .int
  | .str _ => some .str
  | .tup _ => some .tuple
  | .lst _ => some .list
  | .dct _ _ => some .dict
  | .ptr k => match cs[k]? with
    | some (.lst _) => some .list
    | _ => none
  | _ => none
def isT (a b : Ty) : Bool := decide (a = b) || (decide (a = .bool) && decide (b = .int))
def gIsi (ds : List D) (cs : Cs) : R D := match ds with
  | [d, .ty t] => (ofO (tyOf d cs) cs).bind fun u cs1 => .ok (.bl (isT u t)) cs1
  | _ => .stuck
theorem kit_isT (a b : Ty) : kitB a.name b.name = some (isT a b) := by
  cases a <;> cases b <;> decide +kernel
section
variable {X : Cx}
theorem callN {f : Value} {g : List D → Cs → R D} (h : ∀ (pins : List (Addr × Obj)) (s : Shared) (σ : L2.St) (vs : List V) (us : List Value) (Q : VK) (cs : Cs) (w : Wd) (ds : List D), Inv X pins σ w.H s → Vals vs us → Rel X.K cs w → Dvs X.K w.ρ w.Hd vs ds → PostE X.K (g ds cs) w Q →
    wpAny (model X.prog X.w) X.A (call f us) (EP X pins σ Q) X.xe s) : CallR X f (rJN X.K g) := by
  intro pins s σ H xs us Q I r hh
  obtain ⟨cs, w, ds, rfl, rr, dv, p⟩ := hh
  exact h pins s σ xs us Q cs w ds I r rr dv p
theorem Dvs.inv1 {K : PySem.W.Frag} {ρ : List Addr} {H : Hp} {vs : List V} {d : D} (h : Dvs K ρ H vs [d]) : ∃ v, vs = [v] ∧ Dv K ρ H v d := by
  cases h with
  | cons a t => cases t; exact ⟨_, rfl, a⟩
theorem Dvs.inv2 {K : PySem.W.Frag} {ρ : List Addr} {H : Hp} {vs : List V} {d e : D} (h : Dvs K ρ H vs [d, e]) : ∃ v u, vs = [v, u] ∧ Dv K ρ H v d ∧ Dv K ρ H u e := by
  cases h with
  | cons a t =>
    cases t with
    | cons b t => cases t; exact ⟨_, _, rfl, a, b⟩
theorem cr_gLen : CallR X (.builtin "len") (rJN X.K gLen) := callN fun pins s σ vs us Q cs w ds I rv r dv p => by
  have seq : ∀ d, ds = [d] → PostE X.K ((ofO (seqOf d cs) cs).bind fun xs cs1 => .ok (.int xs.length) cs1) w Q → wpAny (model X.prog X.w) X.A (call (.builtin "len") us) (EP X pins σ Q) X.xe s := by
    rintro d rfl p
    obtain ⟨v, rfl, d1⟩ := dv.inv1
    obtain ⟨xs, e, p1⟩ := ofO_bind p
    obtain ⟨a, ws, rfl, hq, hv⟩ := seq_at r d1 e
    have q : Q (.int (ws.length : Nat)) w.H := p1 _ w (Ext.refl _) r (by rw [hv.length]; exact .int _)
    exact call_len pins s σ w.H _ us Q I rv ⟨.ref a, ws.length, rfl, hq.elim (fun z => .inl ⟨ws, z, rfl⟩) (fun z => .inr ⟨ws, z, rfl⟩), q⟩
  match ds, p, dv, seq with
  | [.str x], p, dv, _ =>
    obtain ⟨v, rfl, d1⟩ := dv.inv1
    cases d1 with
    | str _ hx => exact call_len pins s σ w.H _ us Q I rv ⟨.str x, x.length, rfl, ⟨hx, rfl⟩, p _ w (Ext.refl _) r (.int _)⟩
  | [.non], p, _, sq => exact sq _ rfl p
  | [.bl _], p, _, sq => exact sq _ rfl p
  | [.int _], p, _, sq => exact sq _ rfl p
  | [.tup _], p, _, sq => exact sq _ rfl p
  | [.lst _], p, _, sq => exact sq _ rfl p
  | [.dct _ _], p, _, sq => exact sq _ rfl p
  | [.ptr _], p, _, sq => exact sq _ rfl p
  | [.scr _], p, _, sq => exact sq _ rfl p
  | [.ty _], p, _, sq => exact sq _ rfl p
  | [], p, _, _ => exact p.elim
  | _ :: _ :: _, p, _, _ => exact (show False by simpa [gLen, PostE] using p).elim
theorem cr_gAll (hc : X.calm = true) : CallR X (.builtin "all") (rJN X.K gAll) := callN fun pins s σ vs us Q cs w ds I rv r dv p => by
  match ds, p, dv with
  | [.lst xs], p, dv =>
    obtain ⟨v, rfl, d1⟩ := dv.inv1
    obtain ⟨bs, e, p1⟩ := ofO_bind p
    cases d1 with
    | @lst a ws _ h g =>
      rw [asBools_map e] at g
      exact cr_all hc pins s σ w.H _ us Q I rv ⟨a, bs, rfl, by rw [← g.bls]; exact SqL.of (r.same _ _ h), p1 _ w (Ext.refl _) r (.bl _)⟩
  | [], p, _ => exact p.elim
  | [.non], p, _ => exact p.elim
  | [.bl _], p, _ => exact p.elim
  | [.int _], p, _ => exact p.elim
  | [.str _], p, _ => exact p.elim
  | [.tup _], p, _ => exact p.elim
  | [.dct _ _], p, _ => exact p.elim
  | [.ptr _], p, _ => exact p.elim
  | [.scr _], p, _ => exact p.elim
  | [.ty _], p, _ => exact p.elim
  | a :: _ :: _, p, _ => exact (show False by simpa [gAll, PostE] using p).elim
theorem cr_gAny (hc : X.calm = true) : CallR X (.builtin "any") (rJN X.K gAny) := callN fun pins s σ vs us Q cs w ds I rv r dv p => by
  match ds, p, dv with
  | [.lst xs], p, dv =>
    obtain ⟨v, rfl, d1⟩ := dv.inv1
    obtain ⟨bs, e, p1⟩ := ofO_bind p
    cases d1 with
    | @lst a ws _ h g =>
      rw [asBools_map e] at g
      exact cr_any hc pins s σ w.H _ us Q I rv ⟨a, bs, rfl, by rw [← g.bls]; exact SqL.of (r.same _ _ h), p1 _ w (Ext.refl _) r (.bl _)⟩
  | [], p, _ => exact p.elim
  | [.non], p, _ => exact p.elim
  | [.bl _], p, _ => exact p.elim
  | [.int _], p, _ => exact p.elim
  | [.str _], p, _ => exact p.elim
  | [.tup _], p, _ => exact p.elim
  | [.dct _ _], p, _ => exact p.elim
  | [.ptr _], p, _ => exact p.elim
  | [.scr _], p, _ => exact p.elim
  | [.ty _], p, _ => exact p.elim
  | a :: _ :: _, p, _ => exact (show False by simpa [gAny, PostE] using p).elim
theorem cr_gInt : CallR X (.type "int") (rJN X.K gInt) := callN fun pins s σ vs us Q cs w ds I rv r dv p => by
  unfold gInt at p
  split at p
  · obtain ⟨v, rfl, d1⟩ := dv.inv1
    cases d1
    exact call_int1 pins s σ w.H _ us Q I rv (.inl ⟨_, rfl, p _ w (Ext.refl _) r (.int _)⟩)
  · obtain ⟨v, rfl, d1⟩ := dv.inv1
    cases d1
    exact call_int1 pins s σ w.H _ us Q I rv (.inr ⟨_, rfl, p _ w (Ext.refl _) r (.int _)⟩)
  · exact p.elim
theorem cr_gMax (hc : X.calm = true) : CallR X (.builtin "max") (rJN X.K gMax) := callN fun pins s σ vs us Q cs w ds I rv r dv p => by
  unfold gMax at p
  split at p
  · obtain ⟨v, u, rfl, d1, d2⟩ := dv.inv2
    cases d1
    cases d2
    exact call_max2 hc pins s σ w.H _ us Q I rv ⟨_, _, rfl, p _ w (Ext.refl _) r (.int _)⟩
  · exact p.elim
theorem cr_gMin (hc : X.calm = true) : CallR X (.builtin "min") (rJN X.K gMin) := callN fun pins s σ vs us Q cs w ds I rv r dv p => by
  unfold gMin at p
  split at p
  · obtain ⟨v, u, rfl, d1, d2⟩ := dv.inv2
    cases d1
    cases d2
    exact call_min2 hc pins s σ w.H _ us Q I rv ⟨_, _, rfl, p _ w (Ext.refl _) r (.int _)⟩
  · exact p.elim
theorem cr_gTuple : CallR X (.type "tuple") (rJN X.K gTuple) := callN fun pins s σ vs us Q cs w ds I rv r dv p => by
  unfold gTuple at p
  split at p
  · rename_i d
    obtain ⟨v, rfl, d1⟩ := dv.inv1
    obtain ⟨xs, e, p1⟩ := ofO_bind p
    have tup_or : (∃ a ws, v = .ref a ∧ w.Hd a = some (.tup ws) ∧ Dvs X.K w.ρ w.Hd ws xs) ∨ ∃ a ws, v = .ref a ∧ SqL X.K w.H a ws ∧ Dvs X.K w.ρ w.Hd ws xs := by
      cases d1 with
      | tup h g => cases e; exact .inl ⟨_, _, rfl, h, g⟩
      | lst h g => cases e; exact .inr ⟨_, _, rfl, SqL.of (r.same _ _ h), g⟩
      | scr h g => cases e; exact .inr ⟨_, _, rfl, same_sqL r.same h, g⟩
      | @ptr a k h =>
        cases hc : cs[k]? with
        | none => simp [seqOf, hc] at e
        | some o =>
          cases o with
          | dead => simp [seqOf, hc] at e
          | lst ys =>
            simp only [seqOf, hc] at e
            cases e
            obtain ⟨ws, e1, e2⟩ := r.get h hc
            exact .inr ⟨a, ws, rfl, SqL.of e1, e2⟩
      | _ => cases e
    rcases tup_or with ⟨a, ws, rfl, h, g⟩ | ⟨a, ws, rfl, h, g⟩
    · exact call_tuple_of pins s σ w.H _ us Q I rv ⟨a, ws, rfl, .inr ⟨SqT.of (r.same _ _ h), p1 _ w (Ext.refl _) r (.tup h g)⟩⟩
    · refine call_tuple_of pins s σ w.H _ us Q I rv ⟨a, ws, rfl, .inl ⟨h, fun q hq => ?_⟩⟩
      have x := r.xlay hq (.tup ws)
      exact p1 _ (w.lay q _) x (r.lay hq _) (.tup upd_same (Dvs.ext x g))
  · exact p.elim
theorem cr_gList : CallR X (.type "list") (rJN X.K gList) := callN fun pins s σ vs us Q cs w ds I rv r dv p => by
  unfold gList at p
  split at p
  · obtain ⟨v, rfl, d1⟩ := dv.inv1
    obtain ⟨xs, e, p1⟩ := ofO_bind p
    obtain ⟨a, ws, rfl, hq, hv⟩ := seq_at r d1 e
    refine call_list_of pins s σ w.H _ us Q I rv ⟨a, ws, rfl, hq, fun q hq => ?_⟩
    have x := r.xlay hq (.lst ws)
    exact p1 _ (w.lay q _) x (r.lay hq _) (.lst upd_same (Dvs.ext x hv))
  · exact p.elim
theorem tyX_of {K : PySem.W.Frag} {cs : Cs} {w : Wd} (r : Rel K cs w) {v : V} {d : D} (h : Dv K w.ρ w.Hd v d) {t : Ty} (e : tyOf d cs = some t) : TyX K w.H v (.type t.name) := by
  cases h with
  | non => cases e; exact .base .non
  | bl b => cases e; exact .base (.bl b)
  | int i => cases e; exact .base (.int i)
  | str x _ => cases e; exact .base (.str x)
  | tup h g => cases e; exact .base (.tup (r.same _ _ h))
  | lst h g => cases e; exact .base (.lst (r.same _ _ h))
  | dct h _ _ => cases e; exact .base (.dK (r.same _ _ h))
  | scr => cases e
  | ty => cases e
  | @ptr a k h =>
    cases hc : cs[k]? with
    | none => simp [tyOf, hc] at e
    | some o =>
      cases o with
      | dead => simp [tyOf, hc] at e
      | lst ys =>
        simp only [tyOf, hc] at e
        cases e
        obtain ⟨ws, e1, e2⟩ := r.get h hc
        exact .base (.lst e1)
theorem cr_gIsi : CallR X (.builtin "isinstance") (rJN X.K gIsi) := callN fun pins s σ vs us Q cs w ds I rv r dv p => by
  unfold gIsi at p
  split at p
  · rename_i d t
    obtain ⟨v, u, rfl, d1, d2⟩ := dv.inv2
    obtain ⟨ty, e, p1⟩ := ofO_bind p
    cases d2
    exact call_isi pins s σ w.H _ us Q I rv ⟨v, .ty t.name, .type ty.name, .type t.name, isT ty t, rfl, .ty _, tyX_of r d1 e, kit_ty (kit_isT ty t), p1 _ w (Ext.refl _) r (.bl _)⟩
  · exact p.elim
theorem je_ty {x : Str} {pos : Pos} (t : Ty) (hg : Gl X x) (hm : X.mg x = none) (hv : bootBuiltins x = some (.type t.name)) (hn : x ≠ "__name__" := by decide) (hd : (x == ("__debug__" : Str)) = false := by decide) : JE X (.Name x pos) (cK (.ty t)) :=
  je_const (v := .ty t.name) (pe_bltn hg hm hv rfl hn hd) fun _ _ _ => .ty t
end

/-! ### what is walked -/
def iSeq (a : Ev) : El := fun σ cs => (a σ cs).bind fun d cs1 => match d with
  | .tup xs => .ok xs cs1
  | .lst xs => .ok xs cs1
  | .scr xs => .ok xs cs1
  | _ => .stuck
def rng (lo : Int) (n : Nat) : List D := (List.range n).map fun i : Nat => .int (lo + i)
def iRange1 (as : El) : El := fun σ cs => (as σ cs).bind fun ds cs1 => match ds with
  | [.int j] => if -1000000000 ≤ j ∧ j ≤ 1000000000 then .ok (rng 0 j.toNat) cs1 else .stuck
  | _ => .stuck
def iRange2 (as : El) : El := fun σ cs => (as σ cs).bind fun ds cs1 => match ds with
  | [.int i, .int j] => if (-1000000000 ≤ i ∧ i ≤ 1000000000) ∧ -1000000000 ≤ j ∧ j ≤ 1000000000 then .ok (rng i (j - i).toNat) cs1 else .stuck
  | _ => .stuck
section
variable {K : PySem.W.Frag} {w : Wd} {cs : Cs}
theorem walk_list {a : Addr} {vs : List V} {ds : List D} (h : SqL K w.Hd a vs) (g : Dvs K w.ρ w.Hd vs ds) : WalkOf K w (Itl K a) ds := by
  have at_ : ∀ {w' cs'}, Ext w w' → Rel K cs' w' → SqL K w'.H a vs := fun x r => same_sqL r.same (same_sqL x.same h)
  have hl := g.length
  refine ⟨fun i w' cs' x r hi => ?_, fun i w' cs' v H' d x r hd hy => ?_, fun w' cs' x r => ⟨vs, at_ x r, Nat.le_of_eq hl⟩⟩
  · exact ⟨vs, vs[i]'(by rw [hl]; exact hi), at_ x r, List.getElem?_eq_getElem _⟩
  · obtain ⟨rfl, hv⟩ := hy
    obtain ⟨v', e1, e2⟩ := g.get hd
    have e3 := hv vs (at_ x r)
    rw [e1] at e3
    cases e3
    exact ⟨w', rfl, Ext.refl _, r, e2.ext x⟩
theorem walk_tup {a : Addr} {vs : List V} {ds : List D} (h : w.Hd a = some (.tup vs)) (g : Dvs K w.ρ w.Hd vs ds) : WalkOf K w (Itt K a) ds := by
  have at_ : ∀ {w' cs'}, Ext w w' → Rel K cs' w' → SqT K w'.H a vs := fun x r => SqT.of (r.same _ _ (x.same _ _ h))
  have hl := g.length
  refine ⟨fun i w' cs' x r hi => ?_, fun i w' cs' v H' d x r hd hy => ?_, fun w' cs' x r => ⟨vs, at_ x r, Nat.le_of_eq hl⟩⟩
  · exact ⟨vs, vs[i]'(by rw [hl]; exact hi), at_ x r, List.getElem?_eq_getElem _⟩
  · obtain ⟨rfl, hv⟩ := hy
    obtain ⟨v', e1, e2⟩ := g.get hd
    have e3 := hv vs (at_ x r)
    rw [e1] at e3
    cases e3
    exact ⟨w', rfl, Ext.refl _, r, e2.ext x⟩
theorem walk_range (lo : Int) (n : Nat) : WalkOf K w (Itr lo n) (rng lo n) := by
  have hl : (rng lo n).length = n := by simp [rng]
  refine ⟨fun i w' cs' x r hi => by rw [hl] at hi; exact hi, fun i w' cs' v H' d x r hd hy => ?_, fun w' cs' x r => by rw [hl]; exact Nat.le_refl _⟩
  obtain ⟨rfl, rfl⟩ := hy
  refine ⟨w', rfl, Ext.refl _, r, ?_⟩
  have hi : i < n := by
    have := (List.getElem?_eq_some_iff.mp hd).1
    rw [hl] at this
    exact this
  have e : (rng lo n)[i]? = some (.int (lo + i)) := by simp [rng, hi]
  rw [e] at hd
  cases hd
  exact .int _
end
section
variable {X : Cx} {tg l a b : Expr} {fa : Ev} {fs : El} {p pos : Pos}
theorem pi_weak {t t' : TI} (h : PI X tg l t) (w : ∀ σ H Rr, t' σ H Rr → t σ H Rr) : PI X tg l t' := ⟨fun pins s σ H Q I hw => h.run pins s σ H Q I (w _ _ _ hw)⟩
/-- a list or a tuple, whichever comes -/
theorem pi_seq {tl : TE} (hl : PE X l tl) : PI X tg l (fun σ H Rr => tl σ H fun x H1 => ∃ a, x = .ref a ∧ (((∃ xs, SqL X.K H1 a xs) ∧ Rr (Itl X.K a) H1) ∨ ((∃ xs, SqT X.K H1 a xs) ∧ Rr (Itt X.K a) H1))) := by
  refine ⟨fun pins s σ H Rr I h => ?_⟩
  apply thn (hl.run pins s σ H _ I h)
  rintro v s1 ⟨x, H1, I1, r1, a, rfl, hq⟩
  cases r1
  have new : ∀ (o : Obj), Inv X pins σ H1 { s1 with heap := s1.heap.push o } := fun o => I1.kept (t' := s1.toks) fun b ob e => Heap.get?_push_of_some _ e
  have fp : ∀ b ∈ [s1.heap.objs.size], FpOk X pins H1 b := by
    intro b hb
    have : b = s1.heap.objs.size := by simpa using hb
    rw [this]
    exact I1.fpOk (Nat.le_refl _) (I1.hok.fresh (Nat.le_refl _))
  rcases hq with ⟨⟨xs, hq⟩, q⟩ | ⟨⟨xs, hq⟩, q⟩
  · obtain ⟨its, rv, pl, _⟩ := I1.list hq
    exact wpAny_pyIter_list pl.isList ⟨s1.heap.objs.size, [s1.heap.objs.size], _, _, H1, rfl, new _, turn_list a _, ⟨_, Heap.get?_push_size _ rfl, rfl, rfl⟩, fp, q⟩
  · obtain ⟨its, rv, pl, _⟩ := I1.tuple hq
    exact wpAny_pyIter_tuple (show s1.heap.IsTuple a its.toArray from pl) ⟨s1.heap.objs.size, [s1.heap.objs.size], _, _, H1, rfl, new _, turn_tuple a _, ⟨_, Heap.get?_push_size _ rfl, rfl, rfl⟩, fp, q⟩
theorem iE {K : PySem.W.Frag} {w : Wd} {r : R D} {G : VK} {Rr : It → Hp → Prop} {k : D → Cs → R (List D)} (h : PostI K (r.bind k) w Rr) (g : ∀ v d cs1 w1, Ext w w1 → Rel K cs1 w1 → Dv K w1.ρ w1.Hd v d → PostI K (k d cs1) w1 Rr → G v w1.H) : PostE K r w G := by
  cases r with
  | ok d cs =>
    refine fun v w1 x r1 dv => g v d cs w1 x r1 dv ?_
    change PostI K (k d cs) w Rr at h
    cases q : k d cs with
    | stuck => rw [q] at h; exact h
    | ok ds cs2 => rw [q] at h; exact fun J w2 x2 => h J w2 (x.trans x2)
  | stuck => exact h.elim
theorem iL {K : PySem.W.Frag} {w : Wd} {r : R (List D)} {G : List V → Hp → Prop} {Rr : It → Hp → Prop} {k : List D → Cs → R (List D)} (h : PostI K (r.bind k) w Rr) (g : ∀ v d cs1 w1, Ext w w1 → Rel K cs1 w1 → Dvs K w1.ρ w1.Hd v d → PostI K (k d cs1) w1 Rr → G v w1.H) : PostL K r w G := by
  cases r with
  | ok d cs =>
    refine fun v w1 x r1 dv => g v d cs w1 x r1 dv ?_
    change PostI K (k d cs) w Rr at h
    cases q : k d cs with
    | stuck => rw [q] at h; exact h
    | ok ds cs2 => rw [q] at h; exact fun J w2 x2 => h J w2 (x.trans x2)
  | stuck => exact h.elim
theorem ji_seq (hl : JE X l fa) : JI X tg l (iSeq fa) := by
  refine pi_weak (pi_seq hl) fun σ H Rr h => ?_
  obtain ⟨cs, w, σd, rfl, r, e, p⟩ := h
  refine ⟨cs, w, σd, rfl, r, e, iE p fun v d cs1 w1 x1 r1 d1 p1 => ?_⟩
  cases d1 with
  | @tup a vs xs h g => exact ⟨a, rfl, .inr ⟨⟨vs, SqT.of (r1.same _ _ h)⟩, p1 _ w1 (Ext.refl _) r1 (walk_tup h g)⟩⟩
  | @lst a vs xs h g => exact ⟨a, rfl, .inl ⟨⟨vs, SqL.of (r1.same _ _ h)⟩, p1 _ w1 (Ext.refl _) r1 (walk_list (SqL.of h) g)⟩⟩
  | @scr a vs xs h g => exact ⟨a, rfl, .inl ⟨⟨vs, same_sqL r1.same h⟩, p1 _ w1 (Ext.refl _) r1 (walk_list h g)⟩⟩
  | _ => exact p1.elim
theorem ji_range1 (hg : Gl X "range") (hm : X.mg "range" = none) (ha : JL X [a] fs) (hs : starEach [a] X.env = [(false, eval a X.env)] := by rfl) : JI X tg (.Call (.Name "range" p) [a] [] pos) (iRange1 fs) := by
  refine pi_weak (pi_range1 hg hm ha hs) fun σ H Rr h => ?_
  obtain ⟨cs, w, σd, rfl, r, e, p⟩ := h
  refine ⟨cs, w, σd, rfl, r, e, iL p fun v d cs1 w1 x1 r1 d1 p1 => ?_⟩
  split at p1
  · rename_i j
    obtain ⟨v, rfl, d2⟩ := d1.inv1
    cases d2
    split at p1
    · rename_i hl
      exact ⟨j, rfl, by omega, by omega, p1 _ w1 (Ext.refl _) r1 (walk_range 0 _)⟩
    · exact p1.elim
  · exact p1.elim
theorem ji_range2 (hg : Gl X "range") (hm : X.mg "range" = none) (ha : JL X [a, b] fs) (hs : starEach [a, b] X.env = [(false, eval a X.env), (false, eval b X.env)] := by rfl) (hs2 : starEach [b] X.env = [(false, eval b X.env)] := by rfl) : JI X tg (.Call (.Name "range" p) [a, b] [] pos) (iRange2 fs) := by
  refine pi_weak (pi_range2 hg hm ha hs hs2) fun σ H Rr h => ?_
  obtain ⟨cs, w, σd, rfl, r, e, p⟩ := h
  refine ⟨cs, w, σd, rfl, r, e, iL p fun v d cs1 w1 x1 r1 d1 p1 => ?_⟩
  split at p1
  · rename_i i j
    obtain ⟨v, u, rfl, d2, d3⟩ := d1.inv2
    cases d2
    cases d3
    split at p1
    · rename_i hl
      exact ⟨i, j, rfl, ⟨by omega, by omega, by omega, by omega⟩, p1 _ w1 (Ext.refl _) r1 (walk_range i _)⟩
    · exact p1.elim
  · exact p1.elim
/-- tuple(range(..)), list(range(..)) -/
def rgD (a b : Int) : List D := rng a (b - a).toNat
end
end J
/-! enumerate over tuples -/
namespace PySem
open Sem (wp)
open AutoSeq1 (wpAny_loadPart')
theorem jm_enumT (t : Addr) (items : Array Value) (n : Nat) (dct : Option Addr) (sl : Array (Option Value)) :
    Meets (Builtin.«enumerate.__new__» ⟨[.type "enumerate", .ref t], []⟩) (fun _ R s =>
      s.heap.get? t = some { cls := .type "tuple", dict := dct, data := .seq items n, slots := sl } ∧
        R (.ok (.ret (.ref (s.heap.push { cls := .type "tuple_iterator", data := .fields #[.ref t, .int 0 0] }).objs.size)))
          { s with heap := ((s.heap.push { cls := .type "tuple_iterator", data := .fields #[.ref t, .int 0 0] }).push ({ cls := .type "enumerate", data := .fields #[.none, .bool false, .ref s.heap.objs.size, rawInt 0, .none, .none] } : Obj)) }) :=
  .of_wp fun prog w A R s hh => by
    obtain ⟨hp, g, d, tk, os⟩ := s
    obtain ⟨ht, h⟩ := hh
    have hsub := sub_enumerate
    have hT : Heap.IsTuple (Shared.heap ⟨hp, g, d, tk, os⟩) t items := ⟨_, ht, rfl, n, rfl⟩
    wp_walk using wpAny_loadPart' ht
    refine wpAny_stack_any fun st => wpAny_pure ?_
    split
    · rename_i c _ _ _ _ _
      cases (c == Value.type "enumerate") <;>
        (wp_walk using wpAny_loadPart' ht, wpAny_pyIter_tuple hT; exact ⟨_, rfl, h⟩)
    · wp_walk using wpAny_loadPart' ht, wpAny_pyIter_tuple hT
      exact ⟨_, rfl, h⟩
theorem jm_callEnumT {prog : Program} {w : World} {A : Around} {E : Value → Shared → Prop} {s : Shared} {t : Addr} {items : Array Value} {Q : Value → Shared → Prop} (hT : s.heap.IsTuple t items)
    (h : ∀ h', IsEnum h' (s.heap.objs.size + 1) s.heap.objs.size 0 .none → h'.IsTupleIter s.heap.objs.size t 0 → (∀ b o, s.heap.get? b = some o → h'.get? b = some o) → Q (.ref (s.heap.objs.size + 1)) { s with heap := h' }) :
    wpAny (model prog w) A (call (.type "enumerate") [.ref t]) Q E s := by
  obtain ⟨⟨c, dct, dt, sl⟩, hl, hc, n, hd⟩ := hT
  obtain rfl : c = .type "tuple" := hc
  obtain rfl : dt = .seq items n := hd
  apply callType_new F.called_enumerate (by decide) (F.typeCall_enumerate_1 _) (F.newCall_enumerate_1 _) (fun obj => F.args_object_init_2 obj _) F.entry_enumerate_new (jm_enumT t items n dct sl)
  have sz := Heap.size_push s.heap { cls := .type "tuple_iterator", data := .fields #[.ref t, .int 0 0] }
  refine ⟨hl, ?_⟩
  generalize hh1 : s.heap.push { cls := .type "tuple_iterator", data := .fields #[.ref t, .int 0 0] } = h1 at sz ⊢
  have i1 : h1.get? s.heap.objs.size = some { cls := .type "tuple_iterator", data := .fields #[.ref t, .int 0 0] } := by
    rw [← hh1]
    exact Heap.get?_push_size _ rfl
  have old : ∀ b o, s.heap.get? b = some o → h1.get? b = some o := fun b o e => by
    rw [← hh1]
    exact Heap.get?_push_of_some _ e
  have e1 := Heap.get?_push_size h1 (o := { cls := .type "enumerate", data := .fields #[.none, .bool false, .ref s.heap.objs.size, rawInt 0, .none, .none] }) rfl
  show _ ∧ _
  rw [sz] at e1 ⊢
  have i2 : (h1.push { cls := .type "enumerate", data := .fields #[.none, .bool false, .ref s.heap.objs.size, rawInt 0, .none, .none] }).IsTupleIter s.heap.objs.size t 0 := ⟨{ cls := .type "tuple_iterator", data := .fields #[.ref t, .int 0 0] }, Heap.get?_push_of_some _ i1, rfl, rfl⟩
  exact ⟨⟨_, e1, rfl⟩, h _ e1 i2 fun b o x => Heap.get?_push_of_some _ (old b o x)⟩
end PySem
namespace J
open PySem L2 PySem.Spec PyProof.Rows
/-- the tuple at a, each item in a new pair with its number -/
def IteT (K : PySem.W.Frag) (a : Addr) : It :=
  ⟨fun i H => ∃ (xs : List V) (x : V), SqT K H a xs ∧ xs[i]? = some x, fun i H v H' => ∃ T x, v = .ref T ∧ H T = none ∧ H' = upd H T (.tup [.int (i : Nat), x]) ∧ ∀ xs, SqT K H a xs → xs[i]? = some x, fun i H => ∃ xs : List V, SqT K H a xs ∧ xs.length = i⟩
theorem turn_enumT {P : Program} {w : World} {K : PySem.W.Frag} {elts : List Expr} {kk : Nat} {tpos : Pos} (a e it : Addr) (hia : it ≠ a) (hea : e ≠ a) :
    Turn P w K (.Tuple elts kk tpos) (IteT K a) [e, it] e (fun i h => (∃ old, IsEnum h e it ((i : Nat) : Int) old) ∧ h.IsTupleIter it a i ∧ e ≠ it) where
  mem := by simp
  obj := by
    rintro i h ⟨⟨old, he⟩, ⟨o, ho, hc, hd⟩, _⟩ b hb
    rcases List.mem_cons.mp hb with rfl | hb
    · exact ⟨_, he, fun v q => nomatch q⟩
    · obtain rfl : b = it := by simpa using hb
      exact ⟨o, ho, fun v q => by rw [hd] at q; cases q⟩
  keep := by
    rintro i h h' ⟨⟨old, he⟩, hi, hne⟩ k
    exact ⟨⟨old, k e (by simp) _ he⟩, hi.at fun o q => k it (by simp) o q, hne⟩
  item := by
    intro X hP hw hK hc i pins s σ H E I hf st hg
    subst hP hw hK
    obtain ⟨⟨old, he⟩, hit, hne⟩ := st
    obtain ⟨xs, x, hq, hx⟩ := hg
    obtain ⟨its, rv, pl, hz⟩ := I.tuple hq
    have hi : i < its.toArray.size := by
      have := (List.getElem?_eq_some_iff.mp hx).1
      have := rv.length
      simp
      omega
    have hel : e < s.heap.objs.size := Heap.lt_size he
    have hil : it < s.heap.objs.size := by obtain ⟨_, q, _⟩ := hit; exact Heap.lt_size q
    have D := Draws.tuple (prog := X.prog) (w := X.w) (A := X.A.in1) (I.ok.hd hc) it a (Ne.symm hia) its.toArray
    refine wpAny_pyNext_enum_itemD D he ⟨hit, pl⟩ hi hne (by simp [hne, hea]) fun u h' tk pu ho hit' hT hsz hk => ?_
    obtain ⟨u', hu', ru⟩ := rv.get hx
    have eu : u = u' := by
      have q : its[i]? = some u := by simpa using pu
      rw [hu'] at q
      exact (Option.some.inj q).symm
    subst eu
    refine ⟨_, rfl, wpAny_letOwnedTupleGo_enum (s := { s with heap := h', toks := tk + 1 }) ho fun h'' he' sb => ?_⟩
    have new : ObjOk X.prog X.w (upd H s.heap.objs.size (.tup [.int (i : Nat), x])) h'' s.heap.objs.size (.tup [.int (i : Nat), x]) :=
      ⟨by show 2 ≤ sizeLine; decide, [.int i tk, u], .cons ⟨_, rfl⟩ (.cons ru .nil), ⟨_, (sb.2 _ (Nat.ne_of_gt hel)).trans hT, rfl, _, rfl⟩⟩
    have I1 := I.turnedNew (h' := h'') (t' := tk + 1) (ch := [e, it]) (fun b ob hb q => by
      have n1 : b ≠ e := fun z => hb (by simp [z])
      have n2 : b ≠ it := fun z => hb (by simp [z])
      exact (sb.2 b n1).trans (hk b ob n1 n2 q)) hf (Nat.le_refl _) new
    refine ⟨.ref s.heap.objs.size, _, I1, rfl, ⟨_, x, rfl, I.hok.fresh (Nat.le_refl _), rfl, fun ys hy => by rw [I.tuple_inj hy hq]; exact hx⟩, ⟨⟨u, ?_⟩, hit'.1.at fun o q => (sb.2 it (Ne.symm hne)).trans q, hne⟩, fun b hb => ?_⟩
    · have e1 : ((i + 1 : Nat) : Int) = (i : Int) + 1 := by omega
      rw [e1]
      exact he'
    · have lt : b < s.heap.objs.size := by
        rcases List.mem_cons.mp hb with rfl | hb
        · exact hel
        · obtain rfl : b = it := by simpa using hb
          exact hil
      rw [upd_ne (Nat.ne_of_lt lt)]
      exact (hf b hb).1
  done := by
    intro X hP hw hK hc i pins s σ H E I hf st hg
    subst hP hw hK
    obtain ⟨⟨old, he⟩, hit, hne⟩ := st
    obtain ⟨xs, hq, hx⟩ := hg
    obtain ⟨its, rv, pl, hz⟩ := I.tuple hq
    obtain ⟨f0, f1, f2, f3, f4, f5⟩ := hf it (by simp)
    have D := Draws.tuple (prog := X.prog) (w := X.w) (A := X.A.in1) (I.ok.hd hc) it a (Ne.symm hia) its.toArray
    have en : its.toArray.size = i := by
      have := rv.length
      simp
      omega
    refine wpAny_pyNext_enum_endD D he (by rw [en]; exact ⟨hit, pl⟩) fun h' eb => ⟨rfl, I.turned (t' := s.toks) (fun b o hb q => eb b o hb q) f0 f1 f3 f4 f5⟩
  self := by
    rintro A i s Q E ⟨⟨_, he⟩, _⟩ h
    exact wpAny_pyIter_enum he h
section
variable {X : Cx} {e : Expr} {p pos tpos : Pos} {elts : List Expr} {kk : Nat}
/-- enumerate of a list or of a tuple -/
theorem pi_enumA {ta : TA} (hg : Gl X "enumerate") (hm : X.mg "enumerate" = none) (ha : PA X [e] ta) (hs : starEach [e] X.env = [(false, eval e X.env)] := by rfl) :
    PI X (.Tuple elts kk tpos) (.Call (.Name "enumerate" p) [e] [] pos) (fun σ H Rr => ta σ H fun vs H1 => ∃ a xs, vs = [.ref a] ∧ ((SqL X.K H1 a xs ∧ Rr (Ite X.K a) H1) ∨ (SqT X.K H1 a xs ∧ Rr (IteT X.K a) H1))) := by
  refine ⟨fun pins s σ H Rr I h => ?_⟩
  refine Call_ (ld_blt I hg hm boot_enumerate (PyProof.Rows.callWith_type1 (thn (ha.run pos pins s σ H _ I h) fun us s1 hh => ?_) hs rfl))
  obtain ⟨vs, H1, I1, r1, a, xs, rfl, q⟩ := hh
  obtain ⟨u, rfl, ru⟩ : ∃ u, us = [u] ∧ RelV (V.ref a) u := by
    cases r1 with
    | cons r rr => cases rr; exact ⟨_, rfl, r⟩
  cases ru
  have fp : ∀ b ∈ [s1.heap.objs.size + 1, s1.heap.objs.size], FpOk X pins H1 b := by
    intro b hb
    have hle : s1.heap.objs.size ≤ b := by
      rcases List.mem_cons.mp hb with z | z
      · rw [z]; exact Nat.le_succ _
      · have : b = s1.heap.objs.size := by simpa using z
        rw [this]; exact Nat.le_refl _
    exact I1.fpOk hle (I1.hok.fresh hle)
  rcases q with ⟨hq, q⟩ | ⟨hq, q⟩
  · obtain ⟨its, rv, pl, _⟩ := I1.list hq
    refine call_enumerate_list pl.isList fun h' he hit _ hk => wpAny_pyIter_enum he ?_
    exact ⟨_, [s1.heap.objs.size + 1, s1.heap.objs.size], _, _, H1, rfl, I1.kept (t' := s1.toks) hk, turn_enum a _ _, ⟨⟨.none, he⟩, hit, Nat.succ_ne_self _⟩, fp, q⟩
  · obtain ⟨its, rv, pl, _⟩ := I1.tuple hq
    have hal : a < s1.heap.objs.size := by obtain ⟨o, ho, _⟩ := pl; exact Heap.lt_size ho
    refine jm_callEnumT (show s1.heap.IsTuple a its.toArray from pl) fun h' he hit hk => wpAny_pyIter_enum he ?_
    exact ⟨_, [s1.heap.objs.size + 1, s1.heap.objs.size], _, _, H1, rfl, I1.kept (t' := s1.toks) hk, turn_enumT a _ _ (Nat.ne_of_gt hal) (Nat.ne_of_gt (Nat.lt_succ_of_lt hal)), ⟨⟨.none, he⟩, hit, Nat.succ_ne_self _⟩, fp, q⟩
end
def enumD (xs : List D) : List D := xs.mapIdx fun i x => .tup [.int (i : Nat), x]
def iEnum (as : El) : El := fun σ cs => (as σ cs).bind fun ds cs1 => match ds with
  | [.tup xs] => .ok (enumD xs) cs1
  | [.lst xs] => .ok (enumD xs) cs1
  | [.scr xs] => .ok (enumD xs) cs1
  | _ => .stuck
section
variable {K : PySem.W.Frag} {w : Wd}
theorem enumD_get {xs : List D} {i : Nat} {d : D} (h : (enumD xs)[i]? = some d) : ∃ x, xs[i]? = some x ∧ d = .tup [.int (i : Nat), x] := by
  unfold enumD at h
  rw [List.getElem?_mapIdx] at h
  cases e : xs[i]? with
  | none => rw [e] at h; cases h
  | some x => rw [e] at h; cases h; exact ⟨x, rfl, rfl⟩
theorem walk_enumL {a : Addr} {vs : List V} {ds : List D} (h : SqL K w.Hd a vs) (g : Dvs K w.ρ w.Hd vs ds) : WalkOf K w (Ite K a) (enumD ds) := by
  have at_ : ∀ {w' cs'}, Ext w w' → Rel K cs' w' → SqL K w'.H a vs := fun x r => same_sqL r.same (same_sqL x.same h)
  have hl := g.length
  have hn : (enumD ds).length = ds.length := by simp [enumD]
  refine ⟨fun i w' cs' x r hi => ⟨vs, vs[i]'(by omega), at_ x r, List.getElem?_eq_getElem _⟩, fun i w' cs' v H' d x r hd hy => ?_, fun w' cs' x r => ⟨vs, at_ x r, by omega⟩⟩
  obtain ⟨y, e1, rfl⟩ := enumD_get hd
  obtain ⟨T, z, rfl, hT, rfl, hz⟩ := hy
  obtain ⟨v', e2, e3⟩ := g.get e1
  have e4 := hz vs (at_ x r)
  rw [e2] at e4
  cases e4
  have xl := r.xlay hT (.tup [.int (i : Nat), z])
  exact ⟨w'.lay T _, rfl, xl, r.lay hT _, .tup upd_same (.cons (.int _) (.one (e3.ext (x.trans xl))))⟩
theorem walk_enumT {a : Addr} {vs : List V} {ds : List D} (h : w.Hd a = some (.tup vs)) (g : Dvs K w.ρ w.Hd vs ds) : WalkOf K w (IteT K a) (enumD ds) := by
  have at_ : ∀ {w' cs'}, Ext w w' → Rel K cs' w' → SqT K w'.H a vs := fun x r => SqT.of (r.same _ _ (x.same _ _ h))
  have hl := g.length
  have hn : (enumD ds).length = ds.length := by simp [enumD]
  refine ⟨fun i w' cs' x r hi => ⟨vs, vs[i]'(by omega), at_ x r, List.getElem?_eq_getElem _⟩, fun i w' cs' v H' d x r hd hy => ?_, fun w' cs' x r => ⟨vs, at_ x r, by omega⟩⟩
  · obtain ⟨y, e1, rfl⟩ := enumD_get hd
    obtain ⟨T, z, rfl, hT, rfl, hz⟩ := hy
    obtain ⟨v', e2, e3⟩ := g.get e1
    have e4 := hz vs (at_ x r)
    rw [e2] at e4
    cases e4
    have xl := r.xlay hT (.tup [.int (i : Nat), z])
    exact ⟨w'.lay T _, rfl, xl, r.lay hT _, .tup upd_same (.cons (.int _) (.one (e3.ext (x.trans xl))))⟩
end
section
variable {X : Cx} {e : Expr} {p pos tpos : Pos} {elts : List Expr} {kk : Nat} {fs : El}
theorem ji_enum (hg : Gl X "enumerate") (hm : X.mg "enumerate" = none) (ha : JL X [e] fs) (hs : starEach [e] X.env = [(false, eval e X.env)] := by rfl) : JI X (.Tuple elts kk tpos) (.Call (.Name "enumerate" p) [e] [] pos) (iEnum fs) := by
  refine pi_weak (pi_enumA hg hm ha hs) fun σ H Rr h => ?_
  obtain ⟨cs, w, σd, rfl, r, en, p⟩ := h
  refine ⟨cs, w, σd, rfl, r, en, iL p fun v d cs1 w1 x1 r1 d1 p1 => ?_⟩
  split at p1
  · obtain ⟨v, rfl, d2⟩ := d1.inv1
    cases d2 with
    | @tup a vs xs h g => exact ⟨a, vs, rfl, .inr ⟨SqT.of (r1.same _ _ h), p1 _ w1 (Ext.refl _) r1 (walk_enumT h g)⟩⟩
  · obtain ⟨v, rfl, d2⟩ := d1.inv1
    cases d2 with
    | @lst a vs xs h g => exact ⟨a, vs, rfl, .inl ⟨SqL.of (r1.same _ _ h), p1 _ w1 (Ext.refl _) r1 (walk_enumL (SqL.of h) g)⟩⟩
  · obtain ⟨v, rfl, d2⟩ := d1.inv1
    cases d2 with
    | @scr a vs xs h g => exact ⟨a, vs, rfl, .inl ⟨same_sqL r1.same h, p1 _ w1 (Ext.refl _) r1 (walk_enumL h g)⟩⟩
  · exact p1.elim
end
end J
namespace J
open PySem L2 PySem.Spec PyProof.Rows
/-! ### repr of data -/
mutual
def solid : D → Bool
  | .non | .bl _ | .int _ | .str _ => true
  | .tup xs => solids xs
  | .lst xs => solids xs
  | .dct ks vs => solids ks && solids vs
  | .scr _ | .ptr _ | .ty _ => false
def solids : List D → Bool
  | [] => true
  | x :: xs => solid x && solids xs
end
theorem pairs_vals {P : Program} {w : World} : ∀ {es : List DictEntry} {vs : List (Key × Value)} {kvs : List (Key × V)}, Pairs (mixKind P w) es vs → KV kvs vs → Vals (kvs.map fun p => kV p.1) (es.map (·.key)) ∧ Vals (kvs.map fun p => p.2) (es.map (·.val))
  | _, _, _, .nil, .nil => ⟨.nil, .nil⟩
  | _, _, _, .cons h1 h2 t, .cons (a := ⟨k, v⟩) r rt => by
    obtain ⟨a1, a2⟩ := pairs_vals t rt
    obtain ⟨rk, rv⟩ := r
    have rk' : k = _ := rk
    refine ⟨.cons ?_ a1, .cons (by dsimp only; rw [h2]; exact rv) a2⟩
    subst rk'
    rcases keyIs_shape h1 with ⟨i, t, e, e2⟩ | ⟨x, t, e, e2⟩
    · dsimp only
      rw [e, e2]
      exact ⟨t, rfl⟩
    · dsimp only
      rw [e, e2]
      exact ⟨t, rfl⟩
section
variable {X : Cx} {pins : List (Addr × Obj)} {σ : L2.St} {s : Shared} {cs : Cs} {w : Wd}
/-- what repr asks of a value that is data -/
def Rk (X : Cx) (h : Heap) (u : Value) (d : PyData) : Prop := ∃ as, Reads h u d as ∧ (d.showable = true → d.shown.length ≤ sizeLine → ∃ bs, ReadAtMost h d.depth bs ∧ ReprK X.prog X.w bs h d.depth u d.shown)
def Rks (X : Cx) (h : Heap) (us : List Value) (ds : List PyData) : Prop := ∃ as, ReadsAll h us ds as ∧ (PyData.showableAll ds = true → (∀ t ∈ PyData.shownAll ds, t.length ≤ sizeLine) → ∃ bs, ReadAtMost h (PyData.depthAll ds) bs ∧ ReprAllK X.prog X.w bs h (PyData.depthAll ds) us (PyData.shownAll ds))
theorem Rk.leaf {h : Heap} {u : Value} {d : PyData} (r : Reads h u d []) (hd : d.depth = 0) (k : d.showable = true → d.shown.length ≤ sizeLine → ReprIs X.prog X.w u d.shown) : Rk X h u d :=
  ⟨[], r, fun a b => ⟨[], (fun _ z => nomatch z), .of_is (k a b) _ _ _⟩⟩
theorem zip_fst {α : Type} {a b : List α} (h : a.length = b.length) : (a.zip b).map (·.1) = a := List.map_fst_zip (by omega)
theorem zip_snd {α : Type} {a b : List α} (h : a.length = b.length) : (a.zip b).map (·.2) = b := List.map_snd_zip (by omega)
theorem pys_length (xs : List D) : (pys xs).length = xs.length := by rw [pys_map, List.length_map]
mutual
theorem rk (I : Inv X pins σ w.H s) (r : Same w.Hd w.H) : ∀ {v : V} {d : D}, Dv X.K w.ρ w.Hd v d → ∀ {u : Value}, RelV v u → solid d = true → Rk X s.heap u (py d)
  | _, _, .non, u, ru, _ => by
    cases ru
    exact .leaf .none (by simp [py, PyData.depth]) fun _ _ => by simp only [py, PyData.shown]; exact ReprIs.none
  | _, _, .bl b, u, ru, _ => by
    cases ru
    exact .leaf (.bool b) (by simp [py, PyData.depth]) fun _ _ => by simp only [py, PyData.shown]; exact ReprIs.bool b
  | _, _, .int i, u, ru, _ => by
    obtain ⟨t, rfl⟩ := ru
    exact .leaf (.int i t) (by simp [py, PyData.depth]) fun a _ => by simp only [py, PyData.shown]; exact ReprIs.int t (by simpa [py, PyData.showable] using a)
  | _, _, .str x _, u, ru, _ => by
    obtain ⟨t, rfl⟩ := ru
    exact .leaf (.str x t) (by simp [py, PyData.depth]) fun _ b => by simp only [py, PyData.shown] at b ⊢; exact ReprIs.str x t b
  | _, _, .tup (a := a) (vs := vs) (ds := ds) h g, u, ru, so => by
    cases ru
    obtain ⟨_, its, rv, ob, h1, h2, n, h3⟩ := I.hok a _ (r _ _ h)
    obtain ⟨as, ra, rb⟩ := rks I r g rv (by simpa [solid] using so)
    have rd : Reads s.heap (.ref a) (.tuple (pys ds)) as := .tuple h1 h2 h3 (by simpa using ra)
    refine ⟨as, by simp only [py]; exact rd, fun sh sz => ?_⟩
    simp only [py, PyData.shown] at sz
    simp only [py, PyData.depth, PyData.shown]
    obtain ⟨bs, hb, hk⟩ := rb (by simpa [py, PyData.showable] using sh) fun t ht => Nat.le_trans (tupleText_mem_le ht) sz
    have hn : a ∉ bs := not_mem_of_deeper rd (by simp only [PyData.depth]; omega) hb
    exact ⟨a :: bs, ReadAtMost.cons rd (by simp only [PyData.depth]; omega) hb, ReprK.tuple h1 h2 h3 hn (by simpa using hk)⟩
  | _, _, .lst (a := a) (vs := vs) (ds := ds) h g, u, ru, so => by
    cases ru
    obtain ⟨_, its, n, rv, h1⟩ := I.hok a _ (r _ _ h)
    obtain ⟨as, ra, rb⟩ := rks I r g rv (by simpa [solid] using so)
    have rd : Reads s.heap (.ref a) (.list (pys ds)) (a :: as) := .list h1 rfl rfl (by simpa using ra)
    refine ⟨a :: as, by simp only [py]; exact rd, fun sh sz => ?_⟩
    simp only [py, PyData.shown] at sz
    simp only [py, PyData.depth, PyData.shown]
    obtain ⟨bs, hb, hk⟩ := rb (by simpa [py, PyData.showable] using sh) fun t ht => Nat.le_trans (listText_mem_le ht) sz
    have hn : a ∉ bs := not_mem_of_deeper rd (by simp only [PyData.depth]; omega) hb
    refine ⟨a :: bs, ReadAtMost.cons rd (by simp only [PyData.depth]; omega) hb, ?_⟩
    match its, hk, h1, ra with
    | [], hk, h1, ra =>
      cases e : pys ds with
      | cons x t => rw [e] at ra; cases ra
      | nil =>
        simp only [PyData.shownAll, listText_nil]
        exact ReprK.listEmpty h1 rfl rfl
    | y :: ys, hk, h1, ra => exact ReprK.list h1 rfl rfl hn (by simpa using hk.length_eq) fun i z e => hk.item i z (by simpa using e)
  | _, _, .dct (a := a) (kvs := kvs) (ks := ks) (vs := vs) h g k, u, ru, so => by
    cases ru
    obtain ⟨_, hs, us, kv, ob, es, ep, h1, h2, h3, h4, h5, h6⟩ := I.hok a _ (r _ _ h)
    have so' : solids ks = true ∧ solids vs = true := by simpa [solid] using so
    obtain ⟨p1, p2⟩ := pairs_vals h5 kv
    obtain ⟨as1, ra1, rb1⟩ := rks I r g p1 so'.1
    obtain ⟨as2, ra2, rb2⟩ := rks I r k p2 so'.2
    have hl : (pys ks).length = (pys vs).length := by
      rw [pys_length, pys_length, ← g.length, ← k.length, List.length_map, List.length_map]
    have f1 := zip_fst hl
    have f2 := zip_snd hl
    have rd : Reads s.heap (.ref a) (.dict ((pys ks).zip (pys vs))) (a :: as1 ++ as2) := .dict h1 h2.1 h3 (by rw [f1]; exact ra1) (by rw [f2]; exact ra2)
    refine ⟨a :: as1 ++ as2, by simp only [py]; exact rd, fun sh sz => ?_⟩
    simp only [py, PyData.shown] at sz
    simp only [py, PyData.showable] at sh
    obtain ⟨s1, s2⟩ := PyData.showableKv_split _ sh
    rw [f1] at s1
    rw [f2] at s2
    simp only [py, PyData.depth, PyData.shown]
    obtain ⟨b1, hb1, k1⟩ := rb1 s1 fun t ht => by
      obtain ⟨q, hq, hl⟩ := PyData.shownKv_key_le ((pys ks).zip (pys vs)) t (by rw [f1]; exact ht)
      exact Nat.le_trans hl (Nat.le_trans (dictText_mem_le hq) sz)
    obtain ⟨b2, hb2, k2⟩ := rb2 s2 fun t ht => by
      obtain ⟨q, hq, hl⟩ := PyData.shownKv_val_le ((pys ks).zip (pys vs)) t (by rw [f2]; exact ht)
      exact Nat.le_trans hl (Nat.le_trans (dictText_mem_le hq) sz)
    have d1 := PyData.depthAll_keys_le ((pys ks).zip (pys vs))
    have d2 := PyData.depthAll_vals_le ((pys ks).zip (pys vs))
    rw [f1] at d1
    rw [f2] at d2
    have hb : ReadAtMost s.heap (PyData.depthKv ((pys ks).zip (pys vs))) (b1 ++ b2) := (hb1.mono d1).append (hb2.mono d2)
    have hn : a ∉ b1 ++ b2 := not_mem_of_deeper rd (by simp only [PyData.depth]; omega) hb
    refine ⟨a :: (b1 ++ b2), ReadAtMost.cons rd (by simp only [PyData.depth]; omega) hb, ?_⟩
    rw [PyData.shownKv_eq, f1, f2]
    exact ReprK.dict h1 h2.1 h3 hs hn (ReprEntriesK.of_two es.toList _ _ (k1.more_le (fun b z => List.mem_append_left _ z) d1) (k2.more_le (fun b z => List.mem_append_right _ z) d2))
  | _, _, .scr _ _, _, _, so => by simp [solid] at so
  | _, _, .ptr _, _, _, so => by simp [solid] at so
  | _, _, .ty _, _, _, so => by simp [solid] at so
theorem rks (I : Inv X pins σ w.H s) (r : Same w.Hd w.H) : ∀ {vs : List V} {ds : List D}, Dvs X.K w.ρ w.Hd vs ds → ∀ {us : List Value}, Vals vs us → solids ds = true → Rks X s.heap us (pys ds)
  | _, _, .nil, _, .nil, _ => ⟨[], .nil, fun _ _ => ⟨[], (fun _ z => nomatch z), by simp only [pys, PyData.shownAll]; exact .nil⟩⟩
  | _, _, .cons h g, _, .cons ru rus, so => by
    have so' := so
    simp only [solids, Bool.and_eq_true] at so'
    obtain ⟨a1, r1, k1⟩ := rk I r h ru so'.1
    obtain ⟨a2, r2, k2⟩ := rks I r g rus so'.2
    refine ⟨a1 ++ a2, .cons r1 r2, fun sh sz => ?_⟩
    have sh' := sh
    simp only [pys, PyData.showableAll, Bool.and_eq_true] at sh'
    obtain ⟨b1, hb1, q1⟩ := k1 sh'.1 (sz _ (by simp only [pys, PyData.shownAll]; exact List.mem_cons_self))
    obtain ⟨b2, hb2, q2⟩ := k2 sh'.2 fun t ht => sz t (by simp only [pys, PyData.shownAll]; exact List.mem_cons_of_mem _ ht)
    simp only [pys, PyData.depthAll, PyData.shownAll]
    exact ⟨b1 ++ b2, (hb1.mono (Nat.le_max_left _ _)).append (hb2.mono (Nat.le_max_right _ _)), .cons ((q1.more fun b z => List.mem_append_left _ z).level_le (Nat.le_max_left _ _)) (q2.more_le (fun b z => List.mem_append_right _ z) (Nat.le_max_right _ _))⟩
end
end
/-- repr can be told: at most n deep -/
def shows : Nat → D → Bool
  | _, .non | _, .bl _ => true
  | _, .int i => decide (i.natAbs.log2 < 1920)
  | _, .str x => PyData.strOk x
  | n + 1, .tup xs => xs.all (shows n)
  | n + 1, .lst xs => xs.all (shows n)
  | n + 1, .dct ks vs => ks.all (shows n) && vs.all (shows n)
  | _, _ => false
mutual
/-- how many signs repr may come to, at most -/
def cost : D → Nat
  | .non => 4
  | .bl _ => 5
  | .int i => if i.natAbs < 10 ^ 12 then 13 else 1921
  | .str x => 10 * x.length + 2
  | .tup xs => costs xs + 3
  | .lst xs => costs xs + 3
  | .dct ks vs => costs ks + costs vs + 3
  | .scr _ | .ptr _ | .ty _ => 0
def costs : List D → Nat
  | [] => 0
  | x :: xs => cost x + 2 + costs xs
end
/-- what the library asks -/
structure ShowOk (n : Nat) (d : D) : Prop where
  solid : solid d = true
  sh : (py d).showable = true
  dp : (py d).depth ≤ n
  sz : (py d).shown.length ≤ cost d
structure ShowsOk (n : Nat) (ds : List D) : Prop where
  solid : solids ds = true
  sh : PyData.showableAll (pys ds) = true
  dp : PyData.depthAll (pys ds) ≤ n
  sz : ((PyData.shownAll (pys ds)).map (·.length)).sum + 2 * (PyData.shownAll (pys ds)).length ≤ costs ds
mutual
/-- dicts have as many keys as values -/
def evenD : D → Bool
  | .tup xs => evenDs xs
  | .lst xs => evenDs xs
  | .dct ks vs => decide (ks.length = vs.length) && evenDs ks && evenDs vs
  | _ => true
def evenDs : List D → Bool
  | [] => true
  | x :: xs => evenD x && evenDs xs
end
theorem shows_all {n : Nat} (ih : ∀ d, shows n d = true → evenD d = true → ShowOk n d) : ∀ ds : List D, ds.all (shows n) = true → evenDs ds = true → ShowsOk n ds
  | [], _, _ => ⟨by simp [solids], by simp [pys, PyData.showableAll], by simp [pys, PyData.depthAll], by simp [pys, PyData.shownAll, costs]⟩
  | d :: ds, h, g => by
    simp only [List.all_cons, Bool.and_eq_true] at h
    simp only [evenDs, Bool.and_eq_true] at g
    have a := ih d h.1 g.1
    have b := shows_all ih ds h.2 g.2
    refine ⟨by simp [solids, a.solid, b.solid], by simp [pys, PyData.showableAll, a.sh, b.sh], ?_, ?_⟩
    · have := a.dp
      have := b.dp
      simp only [pys, PyData.depthAll]
      omega
    · have := a.sz
      have := b.sz
      simp only [pys, PyData.shownAll, List.map_cons, List.sum_cons, List.length_cons, costs]
      omega
theorem shownAll_length : ∀ xs : List PyData, (PyData.shownAll xs).length = xs.length
  | [] => by simp [PyData.shownAll]
  | x :: xs => by simp [PyData.shownAll, shownAll_length xs]
theorem zipW_sum : ∀ (a b : List Str), a.length = b.length → ((List.zipWith (fun k v : Str => k ++ ": " ++ v) a b).map (·.length)).sum + 2 * (List.zipWith (fun k v : Str => k ++ ": " ++ v) a b).length ≤ ((a.map (·.length)).sum + 2 * a.length) + ((b.map (·.length)).sum + 2 * b.length)
  | [], [], _ => by simp
  | [], _ :: _, h => by simp at h
  | _ :: _, [], h => by simp at h
  | x :: xs, y :: ys, h => by
    have ih := zipW_sum xs ys (by simpa using h)
    have e : ((": " : String) : Str).length = 2 := by decide +kernel
    simp only [List.zipWith_cons_cons, List.map_cons, List.sum_cons, List.length_cons, strLen_append, e]
    omega
theorem none_len : ((("None" : String) : Str)).length = 4 := by decide +kernel
theorem true_len (b : Bool) : (if b = true then Str.ofString "True" else Str.ofString "False").length ≤ 5 := by cases b <;> decide +kernel
theorem showOk : ∀ (n : Nat) (d : D), shows n d = true → evenD d = true → ShowOk n d
  | n, .non, _, _ => ⟨rfl, by simp [py, PyData.showable], by simp [py, PyData.depth], by simp only [py, PyData.shown, cost]; exact Nat.le_of_eq none_len⟩
  | n, .bl b, _, _ => ⟨rfl, by simp [py, PyData.showable], by simp [py, PyData.depth], by simp only [py, PyData.shown, cost]; exact true_len b⟩
  | n, .int i, h, _ => by
    have h' : i.natAbs.log2 < 1920 := by cases n <;> simpa [shows] using h
    refine ⟨rfl, by simp [py, PyData.showable, h'], by simp [py, PyData.depth], ?_⟩
    simp only [py, cost]
    split
    · rename_i hl
      exact PyData.shown_int_le hl
    · simp only [PyData.shown]
      exact int_text_len_1921 h'
  | n, .str x, h, _ => by
    have h' : PyData.strOk x = true := by cases n <;> simpa [shows] using h
    refine ⟨rfl, by simp [py, PyData.showable], by simp [py, PyData.depth], ?_⟩
    simp only [py, PyData.shown, cost]
    refine StrLaws.reprText_len x fun c hc => ?_
    have := (Array.all_eq_true_iff_forall_mem.mp (show x.cps.all (· < 0x110000) = true from h')) c (by simpa using hc)
    have := of_decide_eq_true this
    omega
  | 0, .tup _, h, _ => by simp [shows] at h
  | 0, .lst _, h, _ => by simp [shows] at h
  | 0, .dct _ _, h, _ => by simp [shows] at h
  | n + 1, .tup xs, h, g => by
    have a := shows_all (showOk n) xs (by simpa [shows] using h) (by simpa [evenD] using g)
    refine ⟨by simp [solid, a.solid], by simp [py, PyData.showable, a.sh], by simp only [py, PyData.depth]; have := a.dp; omega, ?_⟩
    have := a.sz
    have := tupleText_len_le (PyData.shownAll (pys xs))
    simp only [py, PyData.shown, cost]
    omega
  | n + 1, .lst xs, h, g => by
    have a := shows_all (showOk n) xs (by simpa [shows] using h) (by simpa [evenD] using g)
    refine ⟨by simp [solid, a.solid], by simp [py, PyData.showable, a.sh], by simp only [py, PyData.depth]; have := a.dp; omega, ?_⟩
    have := a.sz
    have := listText_len_le (PyData.shownAll (pys xs))
    simp only [py, PyData.shown, cost]
    omega
  | n + 1, .dct ks vs, h, g => by
    have h' : ks.all (shows n) = true ∧ vs.all (shows n) = true := by simpa [shows] using h
    have g' : (ks.length = vs.length ∧ evenDs ks = true) ∧ evenDs vs = true := by simpa [evenD] using g
    have a := shows_all (showOk n) ks h'.1 g'.1.2
    have b := shows_all (showOk n) vs h'.2 g'.2
    have hl : (pys ks).length = (pys vs).length := by rw [pys_length, pys_length]; exact g'.1.1
    have kv : ∀ (x y : List PyData), x.length = y.length → PyData.showableAll x = true → PyData.showableAll y = true → PyData.showableKv (x.zip y) = true := by
      intro x
      induction x with
      | nil => intro y _ _ _; simp [PyData.showableKv]
      | cons p x ih =>
        intro y hxy h1 h2
        cases y with
        | nil => simp at hxy
        | cons q y =>
          simp only [PyData.showableAll, Bool.and_eq_true] at h1 h2
          simp [PyData.showableKv, h1.1, h2.1, ih y (by simpa using hxy) h1.2 h2.2]
    have dp : ∀ (x y : List PyData) (m : Nat), PyData.depthAll x ≤ m → PyData.depthAll y ≤ m → PyData.depthKv (x.zip y) ≤ m := by
      intro x
      induction x with
      | nil => intro y m _ _; simp [PyData.depthKv]
      | cons p x ih =>
        intro y m h1 h2
        cases y with
        | nil => simp [PyData.depthKv]
        | cons q y =>
          simp only [PyData.depthAll] at h1 h2
          have := ih y m (by omega) (by omega)
          simp only [List.zip_cons_cons, PyData.depthKv]
          omega
    refine ⟨by simp [solid, a.solid, b.solid], by simp only [py, PyData.showable]; exact kv _ _ hl a.sh b.sh, by simp only [py, PyData.depth]; have := dp _ _ n a.dp b.dp; omega, ?_⟩
    have z1 := a.sz
    have z2 := b.sz
    have z3 := dictText_len_le (PyData.shownKv ((pys ks).zip (pys vs)))
    rw [PyData.shownKv_eq, zip_fst hl, zip_snd hl] at z3
    have z4 := zipW_sum (PyData.shownAll (pys ks)) (PyData.shownAll (pys vs)) (by rw [shownAll_length, shownAll_length]; exact hl)
    simp only [py, PyData.shown, cost]
    rw [PyData.shownKv_eq, zip_fst hl, zip_snd hl]
    omega
  | n, .scr _, h, _ => by cases n <;> simp [shows] at h
  | n, .ptr _, h, _ => by cases n <;> simp [shows] at h
  | n, .ty _, h, _ => by cases n <;> simp [shows] at h
def reprOk (d : D) : Bool := shows 50 d && evenD d && decide (cost d ≤ 16000000)
theorem reprOk_at {d : D} (h : reprOk d = true) : solid d = true ∧ (py d).showable = true ∧ (py d).depth ≤ 50 ∧ (py d).shown.length ≤ sizeLine := by
  simp only [reprOk, Bool.and_eq_true, decide_eq_true_eq] at h
  have a := showOk 50 d h.1.1 h.1.2
  exact ⟨a.solid, a.sh, a.dp, Nat.le_trans a.sz (Nat.le_trans h.2 (by rw [sizeLine_eq]; decide))⟩
def gRepr (ds : List D) (cs : Cs) : R D := match ds with
  | [d] => if reprOk d = true then .ok (.str (py d).shown) cs else .stuck
  | _ => .stuck
section
variable {X : Cx} {m : Nat}
theorem cr_gRepr (c : Ctx X m) : CallR X (.builtin "repr") (rJN X.K gRepr) := callN fun pins s σ vs us Q cs w ds I rv r dv p => by
  unfold gRepr at p
  split at p
  · rename_i d
    split at p
    · rename_i ok
      obtain ⟨so, sh, dp, sz'⟩ := reprOk_at ok
      obtain ⟨v, rfl, d1⟩ := dv.inv1
      obtain ⟨u, rfl, ru⟩ := vals1 rv
      have q : ∀ (s' : Shared), Inv X pins σ w.H s' → ∀ t, EP X pins σ Q (.str (py d).shown t) s' := fun s' I' t => ⟨.str _, w.H, I', ⟨t, rfl⟩, p _ w (Ext.refl _) r (.str _ sz')⟩
      have un := c.room.un
      cases d1 with
      | non =>
        cases ru
        simp only [py, PyData.shown] at q
        exact PySem.P.repr_of_none (q _ (I.tok _) _)
      | bl b =>
        cases ru
        simp only [py, PyData.shown] at q
        exact PySem.P.repr_of_bool (q _ (I.tok _) _)
      | int i =>
        obtain ⟨t, rfl⟩ := ru
        simp only [py, PyData.shown] at q
        exact PySem.P.repr_of_int (by simpa [py, PyData.showable] using sh) (q _ (I.tok _) _)
      | str x hx =>
        obtain ⟨t, rfl⟩ := ru
        simp only [py, PyData.shown] at q sz'
        exact PySem.P.repr_of_str (q _ (I.tok _) _) sz'
      | scr => simp [solid] at so
      | ptr => simp [solid] at so
      | ty => simp [solid] at so
      | @tup a ws xs h g =>
        cases ru
        obtain ⟨_, its, rw', ob, h1, h2, n, h3⟩ := I.hok a _ (r.same _ _ h)
        obtain ⟨as, ra, rb⟩ := rks I r.same g rw' (by simpa [solid] using so)
        have rd : Reads s.heap (.ref a) (.tuple (pys xs)) as := .tuple h1 h2 h3 (by simpa using ra)
        simp only [py, PyData.shown] at q sz'
        simp only [py, PyData.depth] at dp
        obtain ⟨bs, hb, hk⟩ := rb (by simpa [py, PyData.showable] using sh) fun t ht => Nat.le_trans (tupleText_mem_le ht) sz'
        have hn : a ∉ bs := not_mem_of_deeper rd (by simp only [PyData.depth]; omega) hb
        refine call_repr_slot (T := "tuple") (idr := "tuple.__repr__") (by omega) ⟨ob, h1, h2⟩ F.slot_tuple_repr ?_
        exact call_tuple_reprK (A := X.A.in1) h1 h2 h3 hn (by simpa using hk) c.gd (fun b _ => Clear.nil b) (by show X.A.units + 1 + _ < _; omega) (fun _ _ e => e) (fun h' u tk hk' => ⟨_, _, rfl, q _ (I.kept hk') u⟩) sz'
      | @lst a ws xs h g =>
        cases ru
        obtain ⟨_, its, n, rw', h1⟩ := I.hok a _ (r.same _ _ h)
        obtain ⟨as, ra, rb⟩ := rks I r.same g rw' (by simpa [solid] using so)
        have rd : Reads s.heap (.ref a) (.list (pys xs)) (a :: as) := .list h1 rfl rfl (by simpa using ra)
        simp only [py, PyData.shown] at q sz'
        simp only [py, PyData.depth] at dp
        obtain ⟨bs, hb, hk⟩ := rb (by simpa [py, PyData.showable] using sh) fun t ht => Nat.le_trans (listText_mem_le ht) sz'
        have hn : a ∉ bs := not_mem_of_deeper rd (by simp only [PyData.depth]; omega) hb
        refine call_repr_slot (T := "list") (idr := "list.__repr__") (by omega) ⟨_, h1, rfl⟩ F.slot_list_repr.toG ?_
        match its, hk, h1, ra with
        | [], hk, h1, ra =>
          cases e : pys xs with
          | cons x t => rw [e] at ra; cases ra
          | nil =>
            rw [e] at q
            simp only [PyData.shownAll, listText_nil] at q
            exact call_list_repr_empty ⟨_, h1, rfl⟩ h1 rfl ⟨_, _, rfl, q _ (I.tok _) _⟩
        | y :: ys, hk, h1, ra =>
          exact call_list_reprK (A := X.A.in1) h1 rfl rfl hn (by simpa using hk.length_eq) (fun i z e => hk.item i z (by simpa using e)) c.gd (fun b _ => Clear.nil b) (by show X.A.units + 1 + _ < _; omega) (fun _ _ e => e) (fun h' u tk hk' => ⟨_, _, rfl, q _ (I.kept hk') u⟩) sz'
      | @dct a kvs ks zs h g k =>
        have rd := rk I r.same (.dct h g k) ru so
        cases ru
        obtain ⟨_, hs, us, kv, ob, es, ep, h1, h2, h3, h4, h5, h6⟩ := I.hok a _ (r.same _ _ h)
        have so' : solids ks = true ∧ solids zs = true := by simpa [solid] using so
        obtain ⟨p1, p2⟩ := pairs_vals h5 kv
        obtain ⟨as1, ra1, rb1⟩ := rks I r.same g p1 so'.1
        obtain ⟨as2, ra2, rb2⟩ := rks I r.same k p2 so'.2
        have hl : (pys ks).length = (pys zs).length := by
          rw [pys_length, pys_length, ← g.length, ← k.length, List.length_map, List.length_map]
        have f1 := zip_fst hl
        have f2 := zip_snd hl
        have rd : Reads s.heap (.ref a) (.dict ((pys ks).zip (pys zs))) (a :: as1 ++ as2) := .dict h1 h2.1 h3 (by rw [f1]; exact ra1) (by rw [f2]; exact ra2)
        simp only [py, PyData.shown] at sz' q
        simp only [py, PyData.showable] at sh
        simp only [py, PyData.depth] at dp
        obtain ⟨s1, s2⟩ := PyData.showableKv_split _ sh
        rw [f1] at s1
        rw [f2] at s2
        obtain ⟨b1, hb1, k1⟩ := rb1 s1 fun t ht => by
          obtain ⟨q, hq, hl⟩ := PyData.shownKv_key_le ((pys ks).zip (pys zs)) t (by rw [f1]; exact ht)
          exact Nat.le_trans hl (Nat.le_trans (dictText_mem_le hq) sz')
        obtain ⟨b2, hb2, k2⟩ := rb2 s2 fun t ht => by
          obtain ⟨q, hq, hl⟩ := PyData.shownKv_val_le ((pys ks).zip (pys zs)) t (by rw [f2]; exact ht)
          exact Nat.le_trans hl (Nat.le_trans (dictText_mem_le hq) sz')
        have d1 := PyData.depthAll_keys_le ((pys ks).zip (pys zs))
        have d2 := PyData.depthAll_vals_le ((pys ks).zip (pys zs))
        rw [f1] at d1
        rw [f2] at d2
        have hb : ReadAtMost s.heap (PyData.depthKv ((pys ks).zip (pys zs))) (b1 ++ b2) := (hb1.mono d1).append (hb2.mono d2)
        have hn : a ∉ b1 ++ b2 := not_mem_of_deeper rd (by simp only [PyData.depth]; omega) hb
        rw [PyData.shownKv_eq, f1, f2] at q sz'
        refine call_repr_slot (T := "dict") (idr := "dict.__repr__") (by omega) ⟨ob, h1, h2.1⟩ F.slot_dict_repr ?_
        exact call_dict_reprK (A := X.A.in1) h1 h2.1 h3 hs hn (ReprEntriesK.of_two es.toList _ _ (k1.more_le (fun b z => List.mem_append_left _ z) d1) (k2.more_le (fun b z => List.mem_append_right _ z) d2)) c.gd (fun b _ => Clear.nil b) (by show X.A.units + 1 + _ < _; omega) (fun _ _ e => e) (fun h' u tk hk' => ⟨_, _, rfl, q _ (I.kept hk') u⟩) sz'
    · exact p.elim
  · exact p.elim
end
end J
/-! t[::-1] of a tuple -/
namespace J
open PySem L2 PySem.Spec PyProof.Rows HT
section
variable {prog : Program} {w : World} {A : Around} {E : Value → Shared → Prop} {s : Shared}
theorem applied_rev {sl : Addr} {t : Tok} {n : Nat} {Q : Int × Int × Nat → Shared → Prop} (hs : s.heap.IsSliceOf sl .none .none (.int (-1) t)) (h : Q ((n : Int) - 1, -1, n) s) :
    wpAny (model prog w) A (Builtin.Slice.sliceApplied (.ref sl) (pure (n : Int))) Q E s := by
  obtain ⟨os, hos, hcs, hds⟩ := id hs
  unfold Builtin.Slice.sliceApplied Builtin.Slice.sliceFields
  apply wpAny_bind
  apply wpAny_bind (wpAny_field hos hds (x := .none) rfl _)
  apply wpAny_bind (wpAny_field hos hds (x := .none) rfl _)
  apply wpAny_bind (wpAny_field hos hds (x := .int (-1) t) rfl _)
  apply wpAny_pure
  apply wpAny_bind (slicePart_int _)
  show wpAny _ _ (if ((-1 : Int) == 0) = true then _ else _) _ _ s
  rw [if_neg (by decide)]
  apply wpAny_bind (slicePart_none _)
  apply wpAny_bind (slicePart_none _)
  apply wpAny_bind
  apply wpAny_pure
  have e : Builtin.Slice.slicePlaces ((n : Int) - 1) (-1) (-1) = n := by
    unfold Builtin.Slice.slicePlaces
    have h1 : ¬ ((-1 : Int) > 0) := by omega
    simp only [h1, if_false, Int.neg_neg, Int.ediv_one]
    split <;> omega
  show wpAny _ _ (pure ((n : Int) - 1, (-1 : Int), Builtin.Slice.slicePlaces ((n : Int) - 1) (-1) (-1))) _ _ s
  rw [e]
  exact wpAny_pure h
theorem pick_rev (xs : Array Value) : ((List.range xs.size).filterMap fun (k : Nat) => xs[(((xs.size : Int) - 1) + (k : Int) * (-1)).toNat]?).toArray = xs.toList.reverse.toArray := by
  congr 1
  refine List.ext_getElem? fun i => ?_
  have all : ((List.range xs.size).filterMap fun (k : Nat) => xs[(((xs.size : Int) - 1) + (k : Int) * (-1)).toNat]?) = (List.range xs.size).map fun k => xs.getD (xs.size - 1 - k) .none := by
    have gen : ∀ l : List Nat, (∀ k ∈ l, k < xs.size) → (l.filterMap fun (k : Nat) => xs[(((xs.size : Int) - 1) + (k : Int) * (-1)).toNat]?) = l.map fun k => xs.getD (xs.size - 1 - k) .none := by
      intro l hl
      induction l with
      | nil => rfl
      | cons k l ih =>
        have hk : k < xs.size := hl k List.mem_cons_self
        have e : (((xs.size : Int) - 1) + (k : Int) * (-1)).toNat = xs.size - 1 - k := by omega
        have e2 : xs[xs.size - 1 - k]? = some (xs.getD (xs.size - 1 - k) .none) := by
          rw [Array.getElem?_eq_getElem (by omega), Array.getD_eq_getD_getElem?, Array.getElem?_eq_getElem (by omega)]
          rfl
        rw [List.filterMap_cons, e, e2, List.map_cons, ih fun k hk => hl k (List.mem_cons_of_mem _ hk)]
    exact gen _ fun k hk => List.mem_range.mp hk
  rw [all]
  by_cases hi : i < xs.size
  · rw [List.getElem?_map, List.getElem?_range hi, List.getElem?_reverse (by simpa using hi)]
    simp only [Option.map_some, Array.length_toList, Array.getElem?_toList]
    rw [Array.getD_eq_getD_getElem?, Array.getElem?_eq_getElem (by omega)]
    rfl
  · rw [List.getElem?_eq_none (by simpa using hi), List.getElem?_eq_none (by simpa using hi)]
theorem getItem_tuple_rev {t sl : Addr} {items : Array Value} {tk : Tok} {Q : Value → Shared → Prop} (ht : IsTup s.heap t items) (hs : s.heap.IsSliceOf sl .none .none (.int (-1) tk)) (hz : items.size ≤ sizeLine)
    (h : Q (.ref s.heap.objs.size) { s with heap := s.heap.push { cls := .type "tuple", data := .seq items.toList.reverse.toArray } }) : wpAny (model prog w) A (getItem (.ref t) (.ref sl)) Q E s := by
  have so : sizeOk (.seq items.toList.reverse.toArray) := by
    show items.toList.reverse.toArray.size ≤ sizeLine
    rw [List.size_toArray, List.length_reverse, Array.length_toList]
    exact hz
  obtain ⟨os, hos, hcs, hds⟩ := id hs
  have hTs : s.TypeIs (.ref sl) "slice" := ⟨os, hos, hcs⟩
  unfold getItem
  try with_reducible refine wpAny_holding ?_
  first | refine wpAny_bind (wpAny_pure ?_) | skip
  apply wpAny_bind
  apply wpAny_sequenceKey ht.typeIs (by decide)
  apply wpAny_bind
  apply wpAny_callSpecial?_slot (name := Str.ofString "__getitem__") ht.typeIs PyProof.Rows.slot_tuple_getitem
  apply wpAny_call_entry PyProof.Rows.slot_tuple_getitem ht.typeIs entry_tuple_getitem _ (args_tuple_getitem _ _)
  show wpAny _ _ (Builtin.Tuple.tupleItemsOf (.ref t) >>= _) _ _ s
  apply wpAny_bind
  apply tupleItemsOf_ ht
  apply wpAny_bind
  apply wpAny_typeOf hTs
  rw [if_pos (by decide)]
  apply wpAny_bind
  apply applied_rev hs
  show wpAny _ _ (if (((items.size : Int) - 1 == 0 && (-1 : Int) == 1 && items.size == items.size)) = true then _ else _) _ _ s
  rw [if_neg (by simp), pick_rev]
  first
    | exact wpAny_bind (m := Builtin.Tuple.tupleExact _) (wpAny_newObj_type (wpAny_pure ⟨_, rfl, wpAny_pure h⟩) so)
    | exact wpAny_bind (m := Builtin.Tuple.tupleExact _) (wpAny_newObj_type (wpAny_bind (wpAny_pure (wpAny_pure ⟨_, rfl, wpAny_pure h⟩))) so)
    | exact wpAny_bind (wpAny_bind (m := Builtin.Tuple.tupleExact _) (wpAny_newObj_type (wpAny_pure (wpAny_pure ⟨_, rfl, wpAny_pure h⟩)) so))
    | exact wpAny_bind (wpAny_bind (m := Builtin.Tuple.tupleExact _) (wpAny_newObj_type (wpAny_pure ⟨_, rfl, wpAny_pure h⟩) so))
end
def gRev (d : D) (cs : Cs) : R D := match d with
  | .lst xs => .ok (.lst xs.reverse) cs
  | .scr xs => .ok (.lst xs.reverse) cs
  | .tup xs => .ok (.tup xs.reverse) cs
  | .ptr k => match cs[k]? with
    | some (.lst xs) => .ok (.lst xs.reverse) cs
    | _ => .stuck
  | _ => .stuck
section
variable {X : Cx} {e a b c : Expr} {fa fb fc : Ev} {pos : Pos}
/-- e[::-1] of a list or a tuple -/
theorem pe_rev {te : TE} {k : Nat} {p1 p2 p3 : Pos} (he : PE X e te) : PE X (.Subscript e (.Slice none none (some (.UnaryOp .USub (.Constant (.int 1) k p1) p2)) p3) pos)
    (fun σ H Q => te σ H fun x H1 => ∃ a xs, x = .ref a ∧ ((SqL X.K H1 a xs ∧ ∀ p, H1 p = none → Q (.ref p) (upd H1 p (.lst xs.reverse))) ∨ (SqT X.K H1 a xs ∧ ∀ p, H1 p = none → Q (.ref p) (upd H1 p (.tup xs.reverse))))) := by
  refine ⟨fun pins s σ H Q I h => ?_⟩
  apply Subscript_
  apply thn (he.run pins s σ H _ I h)
  rintro v s1 ⟨x, H1, I1, r1, a, xs, rfl, hq⟩
  cases r1
  have stp : PO X (some (.UnaryOp .USub (.Constant (.int 1) k p1) p2)) (tPart (tUn (rU fun i => .int (-i)) (tC (.int 1)))) := po_some (pe_un un_neg pe_int)
  apply wpAny_Slice
  apply thn ((po_none (X := X)).run pins s1 σ H1 (fun o H2 => o = none ∧ H2 = H1) I1 ⟨rfl, rfl⟩)
  rintro vl s2 ⟨l, H2, I2, pl, rfl, rfl⟩
  apply thn ((po_none (X := X)).run pins s2 σ H2 (fun o H3 => o = none ∧ H3 = H2) I2 ⟨rfl, rfl⟩)
  rintro vu s3 ⟨u, H3, I3, pu, rfl, rfl⟩
  apply thn (stp.run pins s3 σ H3 (fun o H4 => o = some (-1) ∧ H4 = H3) I3 ⟨1, rfl, -1, rfl, rfl, rfl⟩)
  rintro vs s4 ⟨o, H4, I4, ps, rfl, rfl⟩
  cases pl
  cases pu
  obtain ⟨t, rfl⟩ : ∃ t, vs = Value.int (-1) t := by cases ps; exact ⟨_, rfl⟩
  have I5 : Inv X pins σ H4 { s4 with heap := s4.heap.push { cls := .type "slice", data := .fields #[.none, .none, .int (-1) t] } } := I4.kept (t' := s4.toks) fun b ob q => Heap.get?_push_of_some _ q
  show wpAny (model X.prog X.w) X.A (subscriptTail e _ (.ref a) (.ref s4.heap.objs.size)) (EP X pins σ Q) X.xe _
  rcases hq with ⟨hx, q⟩ | ⟨hx, q⟩
  · obtain ⟨its, r, pl, hz⟩ := I5.list hx
    apply tail_any (ops := [.ref a, .ref s4.heap.objs.size]) pl.isList.typeIs PySem.slot_list_getitem.lookup _ (by with_unfolding_all rfl)
    apply wpAny_getItem_list_slice pl.isList (Heap.IsSliceOf.new _ _ _ _) .none .none (.int (-1) t) (by decide) _ (by rw [List.size_toArray, ← r.length]; exact hz)
    rw [PySem.W.krv_pick]
    exact ⟨.ref _, _, I5.laid (t' := s4.toks) (o := .lst xs.reverse) (fun b ob q => Heap.get?_push_of_some _ q) (Nat.le_refl _) ⟨by rw [List.length_reverse]; exact hz, _, 0, r.reverse, Heap.get?_push_size _ rfl⟩, rfl, q _ (I5.hok.fresh (Nat.le_refl _))⟩
  · obtain ⟨its, r, pt, hz⟩ := I5.tuple hx
    apply tail_any (ops := [.ref a, .ref s4.heap.objs.size]) pt.typeIs PyProof.Rows.slot_tuple_getitem.lookup _ (by with_unfolding_all rfl)
    apply getItem_tuple_rev pt (Heap.IsSliceOf.new _ _ _ _) (by rw [List.size_toArray, ← r.length]; exact hz)
    exact ⟨.ref _, _, I5.laid (t' := s4.toks) (o := .tup xs.reverse) (fun b ob q => Heap.get?_push_of_some _ q) (Nat.le_refl _) ⟨by rw [List.length_reverse]; exact hz, _, r.reverse, ⟨_, Heap.get?_push_size _ rfl, rfl, _, rfl⟩⟩, rfl, q _ (I5.hok.fresh (Nat.le_refl _))⟩
theorem je_rev {k : Nat} {p1 p2 p3 : Pos} (he : JE X e fa) : JE X (.Subscript e (.Slice none none (some (.UnaryOp .USub (.Constant (.int 1) k p1) p2)) p3) pos) (c1 gRev fa) := by
  refine (pe_rev he).wk fun σ Q cs w σd r en p => ⟨cs, w, σd, rfl, r, en, bEE p fun v d cs1 w1 x1 r1 d1 p1 => ?_⟩
  have lst : ∀ {a : Addr} {vs : List V} {xs : List D}, v = .ref a → SqL X.K w1.H a vs → Dvs X.K w1.ρ w1.Hd vs xs → PostE X.K (.ok (.lst xs.reverse) cs1) w1 Q → ∃ a xs, v = .ref a ∧ ((SqL X.K w1.H a xs ∧ ∀ p, w1.H p = none → Q (.ref p) (upd w1.H p (.lst xs.reverse))) ∨ (SqT X.K w1.H a xs ∧ ∀ p, w1.H p = none → Q (.ref p) (upd w1.H p (.tup xs.reverse)))) := by
    intro a vs xs e1 h g p
    refine ⟨a, vs, e1, .inl ⟨h, fun q hq => ?_⟩⟩
    have x := r1.xlay hq (.lst vs.reverse)
    exact p _ (w1.lay q _) x (r1.lay hq _) (.lst upd_same (Dvs.ext x g.reverse))
  cases d1 with
  | @tup a vs xs h g =>
    refine ⟨a, vs, rfl, .inr ⟨SqT.of (r1.same _ _ h), fun q hq => ?_⟩⟩
    have x := r1.xlay hq (.tup vs.reverse)
    exact p1 _ (w1.lay q _) x (r1.lay hq _) (.tup upd_same (Dvs.ext x g.reverse))
  | lst h g => exact lst rfl (SqL.of (r1.same _ _ h)) g p1
  | scr h g => exact lst rfl (same_sqL r1.same h) g p1
  | @ptr a k h =>
    cases hc : cs1[k]? with
    | none => simp [gRev, hc] at p1; exact p1.elim
    | some o =>
      cases o with
      | dead => simp [gRev, hc] at p1; exact p1.elim
      | lst ys =>
        simp only [gRev, hc] at p1
        obtain ⟨vs, e1, e2⟩ := r1.get h hc
        exact lst rfl (SqL.of e1) e2 p1
  | _ => exact p1.elim
/-! a < b < c -/
def cChain (g1 g2 : D → D → Cs → R D) (a b c : Ev) : Ev := fun σ cs => (a σ cs).bind fun x cs1 => (b σ cs1).bind fun y cs2 => (g1 x y cs2).bind fun z cs3 => match z with
  | .bl true => (c σ cs3).bind fun u cs4 => g2 y u cs4
  | .bl false => .ok (.bl false) cs3
  | _ => .stuck
theorem chain_imp {op op' : CmpOp} {g1 g2 : D → D → Cs → R D} {σ : L2.St} {cs : Cs} {w : Wd} {σd : En} {Q : VK} (r : Rel X.K cs w) (e : EnvR X.K w σ σd) (p : PostE X.K (cChain g1 g2 fa fb fc σd cs) w Q) :
    tChain (rJ2 X.K g1) (rJ2 X.K g2) (tJ X.K fa) (tJ X.K fb) (tJ X.K fc) σ w.H Q := by
  refine ⟨cs, w, σd, rfl, r, e, bEE p fun v d cs1 w1 x1 r1 d1 p1 => ⟨cs1, w1, σd, rfl, r1, e.ext x1, bEE p1 fun u d2 cs2 w2 x2 r2 v2 p2 => ⟨cs2, w2, d, d2, rfl, r2, d1.ext x2, v2, bEE p2 fun z d3 cs3 w3 x3 r3 v3 p3 => ?_⟩⟩⟩
  cases v3 with
  | bl b =>
    refine ⟨b, rfl, ?_⟩
    cases b with
    | false => exact p3 _ w3 (Ext.refl _) r3 (.bl _)
    | true => exact ⟨cs3, w3, σd, rfl, r3, e.ext (x1.trans (x2.trans x3)), bEE p3 fun t d4 cs4 w4 x4 r4 v4 p4 => ⟨cs4, w4, d2, d4, rfl, r4, v2.ext (x3.trans x4), v4, p4⟩⟩
  | _ => exact p3.elim
theorem je_chain {op op' : CmpOp} {g1 g2 : D → D → Cs → R D} (ho : OpR X (compareOp op) (rJ2 X.K g1)) (ho' : OpR X (compareOp op') (rJ2 X.K g2)) (ha : JE X a fa) (hb : JE X b fb) (hc : JE X c fc) (hm : lastMarks [op, op'] [b, c] = false := by with_unfolding_all rfl) : JE X (.Compare a [op, op'] [b, c] pos) (cChain g1 g2 fa fb fc) :=
  (pe_chain ho ho' ha hb hc hm).wk fun σ Q cs w σd r e p => chain_imp (op := op) (op' := op') r e p
/-- a test whose value is a truth -/
theorem jb_of {t : TE} {f : Ev} (h : PT X e (tTest t)) (himp : ∀ {σ cs w σd Q}, Rel X.K cs w → EnvR X.K w σ σd → PostE X.K (f σd cs) w Q → t σ w.H Q) (hb : ∀ σ cs d cs', f σ cs = .ok d cs' → ∃ b, d = .bl b) : JB X e (bV f) := by
  refine PT.wk h fun σ Q cs w σd r en p => himp r en ?_
  unfold bV at p
  cases q : f σd cs with
  | stuck => rw [q] at p; exact p.elim
  | ok d cs1 =>
    obtain ⟨b, rfl⟩ := hb _ _ _ _ q
    rw [q] at p
    intro v w1 x1 r1 d1
    cases d1
    exact ⟨b, rfl, p w1 x1 r1⟩
theorem bl_chain {g1 g2 : D → D → Cs → R D} (h : ∀ x y cs d cs', g2 x y cs = .ok d cs' → ∃ b, d = .bl b) : ∀ σ cs d cs', cChain g1 g2 fa fb fc σ cs = .ok d cs' → ∃ b, d = .bl b := by
  intro σ cs d cs' q
  unfold cChain at q
  cases q1 : fa σ cs with
  | stuck => rw [q1] at q; cases q
  | ok x cs1 =>
    rw [q1] at q
    change (fb σ cs1).bind _ = _ at q
    cases q2 : fb σ cs1 with
    | stuck => rw [q2] at q; cases q
    | ok y cs2 =>
      rw [q2] at q
      change (g1 x y cs2).bind _ = _ at q
      cases q3 : g1 x y cs2 with
      | stuck => rw [q3] at q; cases q
      | ok z cs3 =>
        rw [q3] at q
        cases z with
        | bl b =>
          cases b with
          | false => cases q; exact ⟨_, rfl⟩
          | true =>
            change (fc σ cs3).bind _ = _ at q
            cases q4 : fc σ cs3 with
            | stuck => rw [q4] at q; cases q
            | ok u cs4 =>
              rw [q4] at q
              exact h _ _ _ _ _ q
        | _ => cases q
theorem jb_chain {op op' : CmpOp} {g1 g2 : D → D → Cs → R D} (ho : OpR X (compareOp op) (rJ2 X.K g1)) (ho' : OpR X (compareOp op') (rJ2 X.K g2)) (ha : JE X a fa) (hb : JE X b fb) (hc : JE X c fc) (hg : ∀ x y cs d cs', g2 x y cs = .ok d cs' → ∃ b, d = .bl b) (hm : lastMarks [op, op'] [b, c] = false := by with_unfolding_all rfl) : JB X (.Compare a [op, op'] [b, c] pos) (bV (cChain g1 g2 fa fb fc)) :=
  jb_of (pt_chain ho ho' ha hb hc hm) (fun r e p => chain_imp (op := op) (op' := op') r e p) (bl_chain hg)
/-! tuple(range(n)), list(range(n)) -/
def gTupR (d : D) (cs : Cs) : R D := match d with
  | .int n => if -1000000 ≤ n ∧ n ≤ 1000000 then .ok (.tup (rng 0 n.toNat)) cs else .stuck
  | _ => .stuck
def gLstR (d : D) (cs : Cs) : R D := match d with
  | .int n => if -1000000 ≤ n ∧ n ≤ 1000000 then .ok (.lst (rng 0 n.toNat)) cs else .stuck
  | _ => .stuck
theorem rng_dvs {K : PySem.W.Frag} {ρ : List Addr} {H : Hp} (n : Int) : Dvs K ρ H (rgV 0 n) (rng 0 n.toNat) := by
  unfold rgV rng
  rw [Int.sub_zero]
  have all : ∀ l : List Nat, Dvs K ρ H (l.map fun i => V.int (0 + ((i : Nat) : Int))) (l.map fun i : Nat => D.int (0 + (i : Int))) := by
    intro l
    induction l with
    | nil => exact .nil
    | cons x l ih => exact .cons (.int _) ih
  exact all _
theorem rg_ok {n : Int} (h : -1000000 ≤ n ∧ n ≤ 1000000) : RgOk 0 n := ⟨by omega, by omega, by omega, by omega, by omega⟩
theorem je_tupR {p p' pos' : Pos} (hc : X.calm = true) (hg : Gl X "tuple") (hm : X.mg "tuple" = none) (hg' : Gl X "range") (hm' : X.mg "range" = none) (ha : JE X a fa) (na : starEach [a] X.env = (false, eval a X.env) :: starEach [] X.env := by rfl)
    (nb : starEach [.Call (.Name "range" p') [a] [] pos'] X.env = (false, eval (.Call (.Name "range" p') [a] [] pos') X.env) :: starEach [] X.env := by rfl) : JE X (.Call (.Name "tuple" p) [.Call (.Name "range" p') [a] [] pos'] [] pos) (c1 gTupR fa) := by
  refine (pe_tupRg hc hg hm (prg_1 hg' hm' ha na) nb).wk fun σ Q cs w σd r en p => ⟨cs, w, σd, rfl, r, en, bEE p fun v d cs1 w1 x1 r1 d1 p1 => ?_⟩
  cases d1 with
  | int n =>
    change PostE X.K (if -1000000 ≤ n ∧ n ≤ 1000000 then _ else _) w1 Q at p1
    split at p1
    · rename_i hl
      refine ⟨n, rfl, rg_ok hl, fun q hq => ?_⟩
      have x := r1.xlay hq (.tup (rgV 0 n))
      exact p1 _ (w1.lay q _) x (r1.lay hq _) (.tup upd_same (rng_dvs n))
    · exact p1.elim
  | _ => exact p1.elim
theorem je_lstR {p p' pos' : Pos} (hc : X.calm = true) (hg : Gl X "list") (hm : X.mg "list" = none) (hg' : Gl X "range") (hm' : X.mg "range" = none) (ha : JE X a fa) (na : starEach [a] X.env = (false, eval a X.env) :: starEach [] X.env := by rfl)
    (nb : starEach [.Call (.Name "range" p') [a] [] pos'] X.env = (false, eval (.Call (.Name "range" p') [a] [] pos') X.env) :: starEach [] X.env := by rfl) : JE X (.Call (.Name "list" p) [.Call (.Name "range" p') [a] [] pos'] [] pos) (c1 gLstR fa) := by
  refine (pe_listRg hc hg hm (prg_1 hg' hm' ha na) nb).wk fun σ Q cs w σd r en p => ⟨cs, w, σd, rfl, r, en, bEE p fun v d cs1 w1 x1 r1 d1 p1 => ?_⟩
  cases d1 with
  | int n =>
    change PostE X.K (if -1000000 ≤ n ∧ n ≤ 1000000 then _ else _) w1 Q at p1
    split at p1
    · rename_i hl
      refine ⟨n, rfl, rg_ok hl, fun q hq => ?_⟩
      have x := r1.xlay hq (.lst (rgV 0 n))
      exact p1 _ (w1.lay q _) x (r1.lay hq _) (.lst upd_same (rng_dvs n))
    · exact p1.elim
  | _ => exact p1.elim
end
end J
namespace J
open PySem L2 PySem.Spec PyProof.Rows
theorem je_dictI {X : Cx} {i j : Int} {k1 k2} {p1 p2 pos : Pos} : JE X (.Dict [some (.Constant (.int i) k1 p1)] [.Constant (.int j) k2 p2] pos) (cK (.dct [.int i] [.int j])) := by
  refine (pe_disp (pps_cons pe_int pe_int pps_nil) rfl rfl (by simp) (by show 1 ≤ 15; decide)).wk fun σ Q cs w σd r e p => fun q hq => ?_
  refine ⟨upd_same, [(Sum.inl i, .int j)], rfl, by show 1 ≤ 15; decide, ?_⟩
  have x := r.xlay hq (.dK [(Sum.inl i, V.int j)])
  have e1 : upd (upd w.H q (.dK [])) q (.dK (mergeK [] [(Sum.inl i, V.int j)])) = upd w.H q (.dK [(Sum.inl i, V.int j)]) := upd_upd
  show Q (.ref q) (upd (upd w.H q (.dK [])) q (.dK (mergeK [] [(Sum.inl i, V.int j)])))
  rw [e1]
  exact p _ (w.lay q _) x (r.lay hq _) (.dct upd_same (.one (.int i)) (.one (.int j)))
theorem bb_len : bootBuiltins "len" = some (.builtin "len") := by decide +kernel
theorem bb_all : bootBuiltins "all" = some (.builtin "all") := by decide +kernel
theorem bb_any : bootBuiltins "any" = some (.builtin "any") := by decide +kernel
theorem bb_max : bootBuiltins "max" = some (.builtin "max") := by decide +kernel
theorem bb_min : bootBuiltins "min" = some (.builtin "min") := by decide +kernel
theorem bb_repr : bootBuiltins "repr" = some (.builtin "repr") := by decide +kernel
theorem bb_isinstance : bootBuiltins "isinstance" = some (.builtin "isinstance") := by decide +kernel
theorem bb_int : bootBuiltins "int" = some (.type "int") := by decide +kernel
theorem bb_bool : bootBuiltins "bool" = some (.type "bool") := by decide +kernel
theorem bb_str : bootBuiltins "str" = some (.type "str") := by decide +kernel
theorem bb_tuple : bootBuiltins "tuple" = some (.type "tuple") := by decide +kernel
theorem bb_list : bootBuiltins "list" = some (.type "list") := by decide +kernel
theorem bb_dict : bootBuiltins "dict" = some (.type "dict") := by decide +kernel
end J
namespace J
open PySem L2
/-! ### running the combinators -/
theorem bind_ok {α β : Type} (a : α) (cs : Cs) (k : α → Cs → R β) : (R.ok a cs).bind k = k a cs := rfl
theorem of_ok {α : Type} (a : α) (cs : Cs) (k : α → Cs → RS) : RS.of (R.ok a cs) k = k a cs := rfl
theorem ofO_some {α : Type} (a : α) (cs : Cs) : ofO (some a) cs = .ok a cs := rfl
theorem lim_ge {n : Nat} (h : n ≤ 1000) : n ≤ LIM := Nat.le_trans h (by decide)
theorem fin_same (d : D) (cs : Cs) : fin cs.length d cs = .ok d cs := by simp [fin]
theorem fin_eq {n : Nat} {d : D} {cs : Cs} (h : cs.length = n) : fin n d cs = .ok d cs := by simp [fin, h]
theorem map_mapIdx' {α β γ : Type} (f : Nat → α → β) (g : β → γ) (xs : List α) : (xs.mapIdx f).map g = xs.mapIdx fun i x => g (f i x) := by
  apply List.ext_getElem?
  intro i
  simp [List.getElem?_mapIdx, Option.map_map, Function.comp_def]
/-- a comprehension whose element is a function of the item -/
theorem comp_pure {g : Tg} {t : Eb} {f : Ev} {σ : En} {h : D → D} {cs : Cs} : ∀ (xs : List D), (∀ x ∈ xs, ∃ σ1, g x σ = some σ1 ∧ t σ1 cs = .ok true cs ∧ f σ1 cs = .ok (h x) cs) → compD g t f σ xs cs = .ok (xs.map h) cs
  | [], _ => rfl
  | x :: xs, H => by
    obtain ⟨σ1, e1, e2, e3⟩ := H x List.mem_cons_self
    have ih := comp_pure xs fun y hy => H y (List.mem_cons_of_mem _ hy)
    simp [compD, e1, e2, e3, bind_ok, ih]
/-- .. with tests that are functions of the item -/
theorem comp_filter {g : Tg} {t : Eb} {f : Ev} {σ : En} {h : D → D} {q : D → Bool} {cs : Cs} : ∀ (xs : List D), (∀ x ∈ xs, ∃ σ1, g x σ = some σ1 ∧ t σ1 cs = .ok (q x) cs ∧ (q x = true → f σ1 cs = .ok (h x) cs)) → compD g t f σ xs cs = .ok ((xs.filter q).map h) cs
  | [], _ => rfl
  | x :: xs, H => by
    obtain ⟨σ1, e1, e2, e3⟩ := H x List.mem_cons_self
    have ih := comp_filter xs fun y hy => H y (List.mem_cons_of_mem _ hy)
    cases hq : q x with
    | true => simp [compD, e1, e2, hq, e3 hq, bind_ok, ih]
    | false => simp [compD, e1, e2, hq, bind_ok, ih]
inductive All2 {α β : Type} (Q : α → β → Prop) : List α → List β → Prop
  | nil : All2 Q [] []
  | cons {x : α} {y : β} {xs : List α} {ys : List β} : Q x y → All2 Q xs ys → All2 Q (x :: xs) (y :: ys)
theorem All2.length {α β : Type} {Q : α → β → Prop} {xs : List α} {ys : List β} (h : All2 Q xs ys) : ys.length = xs.length := by
  induction h with
  | nil => rfl
  | cons _ _ ih => simp [ih]
theorem All2.mem {α β : Type} {Q : α → β → Prop} {xs : List α} {ys : List β} (h : All2 Q xs ys) : ∀ y ∈ ys, ∃ x ∈ xs, Q x y := by
  induction h with
  | nil => intro y hy; cases hy
  | cons q _ ih =>
    intro y hy
    rcases List.mem_cons.mp hy with rfl | hy
    · exact ⟨_, List.mem_cons_self, q⟩
    · obtain ⟨x, hx, hq⟩ := ih y hy
      exact ⟨x, List.mem_cons_of_mem _ hx, hq⟩
/-- .. whose element draws: I holds of the cells throughout, Q of each element -/
theorem comp_inv {g : Tg} {t : Eb} {f : Ev} {σ : En} (I : Cs → Prop) (Q : D → D → Prop) : ∀ (xs : List D) (cs : Cs), I cs → (∀ x ∈ xs, ∀ cs, I cs → ∃ σ1, g x σ = some σ1 ∧ t σ1 cs = .ok true cs ∧ ∃ y cs', f σ1 cs = .ok y cs' ∧ I cs' ∧ Q x y) →
    ∃ ys cs', compD g t f σ xs cs = .ok ys cs' ∧ I cs' ∧ All2 Q xs ys
  | [], cs, h, _ => ⟨[], cs, rfl, h, .nil⟩
  | x :: xs, cs, h, H => by
    obtain ⟨σ1, e1, e2, y, cs1, e3, h1, q1⟩ := H x List.mem_cons_self cs h
    obtain ⟨ys, cs2, e4, h2, q2⟩ := comp_inv I Q xs cs1 h1 fun z hz => H z (List.mem_cons_of_mem _ hz)
    exact ⟨y :: ys, cs2, by simp [compD, e1, e2, e3, bind_ok, e4], h2, .cons q1 q2⟩
theorem asBools_bl (bs : List Bool) : asBools (bs.map D.bl) = some bs := by
  induction bs with
  | nil => rfl
  | cons b bs ih => simp [asBools, asBool, ih]
theorem solids_mem {xs : List D} (h : solids xs = true) : ∀ x ∈ xs, solid x = true := by
  induction xs with
  | nil => intro x hx; cases hx
  | cons y ys ih =>
    simp only [solids, Bool.and_eq_true] at h
    intro x hx
    rcases List.mem_cons.mp hx with rfl | hx
    · exact h.1
    · exact ih h.2 x hx
theorem solids_of {xs : List D} (h : ∀ x ∈ xs, solid x = true) : solids xs = true := by
  induction xs with
  | nil => rfl
  | cons y ys ih =>
    simp only [solids, Bool.and_eq_true]
    exact ⟨h y List.mem_cons_self, ih fun x hx => h x (List.mem_cons_of_mem _ hx)⟩
/-- a for loop: I by what is left -/
theorem for_inv {g : Tg} {b : Sv} (I : En → Cs → Prop) : ∀ (xs : List D) (σ : En) (cs : Cs), I σ cs → (∀ x ∈ xs, ∀ σ cs, I σ cs → ∃ σ1, g x σ = some σ1 ∧ ∃ σ2 cs2, b σ1 cs = .nx σ2 cs2 ∧ I σ2 cs2) → ∃ σ' cs', forD g b xs σ cs = .nx σ' cs' ∧ I σ' cs'
  | [], σ, cs, h, _ => ⟨σ, cs, rfl, h⟩
  | x :: xs, σ, cs, h, H => by
    obtain ⟨σ1, e1, σ2, cs2, e2, h2⟩ := H x List.mem_cons_self σ cs h
    obtain ⟨σ3, cs3, e3, h3⟩ := for_inv I xs σ2 cs2 h2 fun z hz => H z (List.mem_cons_of_mem _ hz)
    exact ⟨σ3, cs3, by simp [forD, e1, e2, e3], h3⟩

/-! ### repr of small things -/
theorem shows_mono : ∀ (n m : Nat) (d : D), n ≤ m → shows n d = true → shows m d = true
  | n, m, .non, _, _ => by cases m <;> rfl
  | n, m, .bl _, _, _ => by cases m <;> rfl
  | n, m, .int i, _, h => by cases n <;> cases m <;> simpa [shows] using h
  | n, m, .str x, _, h => by cases n <;> cases m <;> simpa [shows] using h
  | 0, m, .tup _, _, h => by simp [shows] at h
  | 0, m, .lst _, _, h => by simp [shows] at h
  | 0, m, .dct _ _, _, h => by simp [shows] at h
  | n + 1, 0, _, hl, _ => absurd hl (by omega)
  | n + 1, m + 1, .tup xs, hl, h => by
    simp only [shows, List.all_eq_true] at h ⊢
    exact fun x hx => shows_mono n m x (by omega) (h x hx)
  | n + 1, m + 1, .lst xs, hl, h => by
    simp only [shows, List.all_eq_true] at h ⊢
    exact fun x hx => shows_mono n m x (by omega) (h x hx)
  | n + 1, m + 1, .dct ks vs, hl, h => by
    simp only [shows, Bool.and_eq_true, List.all_eq_true] at h ⊢
    exact ⟨fun x hx => shows_mono n m x (by omega) (h.1 x hx), fun x hx => shows_mono n m x (by omega) (h.2 x hx)⟩
  | n, m, .scr _, _, h => by cases n <;> simp [shows] at h
  | n, m, .ptr _, _, h => by cases n <;> simp [shows] at h
  | n, m, .ty _, _, h => by cases n <;> simp [shows] at h
theorem costs_le {B : Nat} : ∀ (xs : List D), (∀ x ∈ xs, cost x ≤ B) → costs xs ≤ (B + 2) * xs.length
  | [], _ => by simp [costs]
  | x :: xs, h => by
    have a := h x List.mem_cons_self
    have b := costs_le xs fun y hy => h y (List.mem_cons_of_mem _ hy)
    simp only [costs, List.length_cons, Nat.mul_add, Nat.mul_one]
    omega
theorem evenDs_of : ∀ {xs : List D}, (∀ x ∈ xs, evenD x = true) → evenDs xs = true
  | [], _ => rfl
  | x :: xs, h => by
    simp only [evenDs, Bool.and_eq_true]
    exact ⟨h x List.mem_cons_self, evenDs_of fun y hy => h y (List.mem_cons_of_mem _ hy)⟩
/-- n deep at most, its repr of B signs at most -/
structure Mini (n B : Nat) (d : D) : Prop where
  sh : shows n d = true
  ev : evenD d = true
  co : cost d ≤ B
theorem Mini.tup {n B : Nat} {xs : List D} (h : ∀ x ∈ xs, Mini n B x) : Mini (n + 1) ((B + 2) * xs.length + 3) (.tup xs) :=
  ⟨by simp only [shows, List.all_eq_true]; exact fun x hx => (h x hx).sh, by simp only [evenD]; exact evenDs_of fun x hx => (h x hx).ev, by simp only [cost]; have := costs_le xs fun x hx => (h x hx).co; omega⟩
theorem Mini.lst {n B : Nat} {xs : List D} (h : ∀ x ∈ xs, Mini n B x) : Mini (n + 1) ((B + 2) * xs.length + 3) (.lst xs) :=
  ⟨by simp only [shows, List.all_eq_true]; exact fun x hx => (h x hx).sh, by simp only [evenD]; exact evenDs_of fun x hx => (h x hx).ev, by simp only [cost]; have := costs_le xs fun x hx => (h x hx).co; omega⟩
theorem Mini.up {n B n' B' : Nat} {d : D} (h : Mini n B d) (hn : n ≤ n') (hB : B ≤ B') : Mini n' B' d := ⟨shows_mono _ _ _ hn h.sh, h.ev, Nat.le_trans h.co hB⟩
theorem Mini.repr {n B : Nat} {d : D} (h : Mini n B d) (hn : n ≤ 50) (hB : B ≤ 16000000) : reprOk d = true := by
  simp only [reprOk, Bool.and_eq_true, decide_eq_true_eq]
  exact ⟨⟨shows_mono _ _ _ hn h.sh, h.ev⟩, Nat.le_trans h.co hB⟩
theorem Mini.int {i : Int} (h : i.natAbs < 10 ^ 12) : Mini 0 13 (.int i) := by
  have h1 : i.natAbs.log2 < 1920 := by
    by_cases h0 : i.natAbs = 0
    · rw [h0]; decide
    · exact (Nat.log2_lt h0).mpr (Nat.lt_of_lt_of_le h (Nat.le_trans (show 10 ^ 12 ≤ 2 ^ 40 by decide) (Nat.pow_le_pow_right (by decide) (by decide))))
  exact ⟨by simp [shows, h1], rfl, by simp only [cost]; rw [if_pos h]; omega⟩
theorem cutD_mem {xs : List D} {lo hi : Option Int} {x : D} (h : x ∈ cutD xs lo hi) : x ∈ xs := List.mem_of_mem_drop (List.mem_of_mem_take h)
theorem cutD_length (xs : List D) (lo hi : Option Int) : (cutD xs lo hi).length ≤ xs.length := by
  unfold cutD
  rw [List.length_take, List.length_drop]
  omega
theorem atI_mem {xs : List D} {i : Int} (h0 : 0 ≤ i) (h1 : i < xs.length) : ∃ z ∈ xs, L2.atI xs i = some z := by
  have hn : i.toNat < xs.length := by omega
  refine ⟨xs[i.toNat], List.getElem_mem hn, ?_⟩
  simp [L2.atI, L2.ixN, h0, h1, hn]

/-! ### the law's purse: a list of three numbers in cell k -/
def Purse (k n : Nat) (cs : Cs) : Prop := cs.length = n ∧ ∃ s g c : Int, cs[k]? = some (.lst [.int s, .int g, .int c])
theorem Purse.put {k n : Nat} {cs : Cs} (h : Purse k n cs) (s g c : Int) : Purse k n (cs.set k (.lst [.int s, .int g, .int c])) := by
  obtain ⟨hl, _, _, _, hc⟩ := h
  have hk := (List.getElem?_eq_some_iff.mp hc).1
  exact ⟨by simp [hl], s, g, c, List.getElem?_set_self hk⟩
end J
namespace LW
open PySem L2 J
def B_is_whole : Sv := (sRet (cAnd (cN gIsi (cCons (cVar 0) (cCons (cK (.ty .int)) cNil))) (cNot (cN gIsi (cCons (cVar 0) (cCons (cK (.ty .bool)) cNil))))))
def M_is_whole : Fd := runB false 1 B_is_whole
theorem does_is_whole : Does M_is_whole (runB false 1 B_is_whole) 1 := fun _ _ _ => .inr rfl
def B_is_within : Sv := (sRet (cAnd (cN M_is_whole (cCons (cVar 0) cNil)) (cChain gLe gLe (cVar 1) (cVar 0) (cVar 2))))
def M_is_within : Fd := runB false 3 B_is_within
theorem does_is_within : Does M_is_within (runB false 3 B_is_within) 3 := fun _ _ _ => .inr rfl
def B_is_tree : Sv := (bCons (sIf (bOr (bNot (bV (cN gIsi (cCons (cVar 0) (cCons (cK (.ty .tuple)) cNil))))) (bV (c2 gGe (cN gLen (cCons (cVar 0) cNil)) (cK (.int 12))))) (sRet (cK (.bl false))) bNil)
  (sRet (cN gAll (cCons (cLc (iEnum (cCons (cVar 0) cNil)) (gTp 2 (gCons (gNm 1) (gCons (gNm 2) gNil))) bYes (cN M_is_within (cCons (cVar 2) (cCons (cK (.int 0)) (cCons (cVar 1) cNil)))) [1, 2]) cNil))))
def M_is_tree : Fd := runB false 3 B_is_tree
theorem does_is_tree : Does M_is_tree (runB false 3 B_is_tree) 1 := fun _ _ _ => .inr rfl
def B_check_tree : Sv := (sIf (bNot (bV (cN M_is_tree (cCons (cVar 0) cNil)))) sNever bNil)
def M_check_tree : Fd := runB false 1 B_check_tree
theorem does_check_tree : Does M_check_tree (runB false 1 B_check_tree) 1 := fun _ _ _ => .inr rfl
def B_places : Sv := (bCons (sDrop (cN M_check_tree (cCons (cVar 0) cNil)))
  (sRet (c2 gAdd (cN gLen (cCons (cVar 0) cNil)) (cK (.int 1)))))
def M_places : Fd := runB false 1 B_places
theorem does_places : Does M_places (runB false 1 B_places) 1 := fun _ _ _ => .inr rfl
def B__law_cell : Sv := (bCons (sIf (bV (c2 gLt (cVar 1) (cN gLen (cCons (cVar 0) cNil)))) (sRet (c2 gIx (cVar 0) (cVar 1))) bNil)
  (bCons (sSet 2 (c2 gMod (c2 gMul (cK (.int 60013)) (c2 gAdd (c2 gAdd (c2 gMul (cVar 1) (cVar 1)) (c2 gMul (cK (.int 9)) (cVar 1))) (cK (.int 5)))) (cK (.int 1000000289))))
  (bCons (sFor (iSeq (cSl (cVar 0) oNone (oSome (cK (.int 4))))) (gNm 3) (sSet 2 (c2 gMod (c2 gAdd (c2 gMul (cVar 2) (cK (.int 40009))) (cVar 3)) (cK (.int 1000000289)))))
  (sRet (cVar 2)))))
def M__law_cell : Fd := runB false 4 B__law_cell
theorem does__law_cell : Does M__law_cell (runB false 4 B__law_cell) 2 := fun _ _ _ => .inr rfl
def B__law_purse : Sv := (sRet (cN gCell (cCons (c2 gAdd (c2 gMul (c2 gMod (cVar 0) (cK (.int 1000000289))) (cK (.int 7001))) (cK (.int 5003))) (cCons (c2 gIx (cN gLst (cCons (cK (.int 0)) (cCons (cVar 0) cNil))) (cN gInt (cCons (c2 gGe (cVar 0) (c2 gPow (cK (.int 10)) (cK (.int 18)))) cNil))) (cCons (cK (.int 0)) cNil)))))
def M__law_purse : Fd := runB true 1 B__law_purse
theorem does__law_purse : Does M__law_purse (runB true 1 B__law_purse) 1 := fun _ _ _ => .inr rfl
def B__law_pick : Sv := (bCons (sSetI (c2 gAdd (c2 gIx (cVar 0) (cK (.int 2))) (cK (.int 1))) (cVar 0) (cK (.int 2)))
  (bCons (sSet 2 (c2 gMod (c2 gIx (cVar 0) (cK (.int 0))) (cK (.int 1000000289))))
  (bCons (sSetI (c2 gAdd (c2 gMul (cVar 2) (c2 gAdd (c2 gMod (cVar 2) (cK (.int 50021))) (cK (.int 20011)))) (c2 gMul (cK (.int 80021)) (c2 gIx (cVar 0) (cK (.int 2))))) (cVar 0) (cK (.int 0)))
  (bCons (sIf (bV (c2 gGt (c2 gIx (cVar 0) (cK (.int 1))) (cK (.int 0)))) (bCons (sSet 3 (c2 gMod (c2 gIx (cVar 0) (cK (.int 1))) (cVar 1)))
  (bCons (sSetI (c2 gDiv (c2 gIx (cVar 0) (cK (.int 1))) (cVar 1)) (cVar 0) (cK (.int 1)))
  (sRet (cVar 3)))) bNil)
  (sRet (c2 gMod (c2 gDiv (c2 gMod (c2 gIx (cVar 0) (cK (.int 0))) (cK (.int 1000000289))) (cK (.int 16))) (cVar 1)))))))
def M__law_pick : Fd := runB false 4 B__law_pick
theorem does__law_pick : Does M__law_pick (runB false 4 B__law_pick) 2 := fun _ _ _ => .inr rfl
def B__law_wood : Sv := (bCons (sAsg (cN gTup (cCons (cN M__law_pick (cCons (cVar 0) (cCons (cK (.int 3)) cNil))) (cCons (c2 gAdd (cK (.int 1)) (cN M__law_pick (cCons (cVar 0) (cCons (cVar 1) cNil)))) cNil))) (gTp 2 (gCons (gNm 2) (gCons (gNm 3) gNil))))
  (sRet (cN gTuple (cCons (cLc (iRange1 (cCons (c2 gSub (cVar 3) (cK (.int 1))) cNil)) (gNm 4) bYes (c2 gIx (cN gLst (cCons (cVar 4) (cCons (cK (.int 0)) (cCons (cN M__law_pick (cCons (cVar 0) (cCons (c2 gAdd (cVar 4) (cK (.int 1))) cNil))) cNil)))) (cVar 2)) [4]) cNil))))
def M__law_wood : Fd := runB false 5 B__law_wood
theorem does__law_wood : Does M__law_wood (runB false 5 B__law_wood) 2 := fun _ _ _ => .inr rfl
def B__law_bent : Sv := (bCons (sIf (bOr (bV (c2 gEq (cVar 1) (cN gTup cNil))) (bV (c2 gEq (cN M__law_pick (cCons (cVar 0) (cCons (cK (.int 4)) cNil))) (cK (.int 0))))) (sRet (cVar 1)) bNil)
  (bCons (sSet 2 (cN M__law_pick (cCons (cVar 0) (cCons (cN gLen (cCons (cVar 1) cNil)) cNil))))
  (bCons (sSet 3 (c2 gIx (cN gLst (cCons (c2 gAdd (cVar 2) (cK (.int 1))) (cCons (c1 gNeg (cK (.int 1))) (cCons (cK (.bl true)) (cCons (cK (.bl false)) (cCons (cK (.str "0")) (cCons (cK .non) (cCons (cN gTup (cCons (cK (.int 0)) cNil)) (cCons (cN gLst (cCons (cK (.int 0)) cNil)) (cCons (c2 gPow (cK (.int 10)) (cK (.int 30))) (cCons (cK (.dct [] [])) (cCons (cVar 2) (cCons (c2 gAdd (cVar 2) (cK (.int 2))) cNil))))))))))))) (cN M__law_pick (cCons (cVar 0) (cCons (cK (.int 12)) cNil)))))
  (sRet (c2 gAdd (c2 gAdd (cSl (cVar 1) oNone (oSome (cVar 2))) (cN gTup (cCons (cVar 3) cNil))) (cSl (cVar 1) (oSome (c2 gAdd (cVar 2) (cK (.int 1)))) oNone))))))
def M__law_bent : Fd := runB false 4 B__law_bent
theorem does__law_bent : Does M__law_bent (runB false 4 B__law_bent) 2 := fun _ _ _ => .inr rfl
def B__law_due : Sv := (bCons (sIf (bOr (bNot (bV (cN gIsi (cCons (cVar 0) (cCons (cK (.ty .tuple)) cNil))))) (bV (c2 gGt (cN gLen (cCons (cVar 0) cNil)) (cK (.int 11))))) (sRet (cK (.bl false))) bNil)
  (bCons (sSet 1 (cLc (iSeq (cVar 0)) (gNm 2) bYes (cAnd (cN gIsi (cCons (cVar 2) (cCons (cK (.ty .int)) cNil))) (cNot (cN gIsi (cCons (cVar 2) (cCons (cK (.ty .bool)) cNil))))) [2]))
  (sRet (cN gAll (cCons (cLc (iRange1 (cCons (cN gLen (cCons (cVar 0) cNil)) cNil)) (gNm 3) bYes (cAnd (c2 gIx (cVar 1) (cVar 3)) (cChain gLe gLe (cK (.int 0)) (c2 gIx (cVar 0) (cVar 3)) (cVar 3))) [3]) cNil)))))
def M__law_due : Fd := runB false 4 B__law_due
theorem does__law_due : Does M__law_due (runB false 4 B__law_due) 1 := fun _ _ _ => .inr rfl
def B__law_same : Sv := (bCons (sPar 2 3 (cCons (cN M__law_due (cCons (cVar 0) cNil)) (cCons (cN gRepr (cCons (cVar 0) cNil)) cNil)))
  (bCons (sSet 1 (cN gLst (cCons (cN M_is_tree (cCons (cVar 0) cNil)) (cCons (cApp [0] cNil (cCons (cVar 0) cNil) M_is_tree) (cCons (cN M_is_tree (cCons (cVar 0) cNil)) cNil)))))
  (bCons (sIf (bOr (bV (c2 gNe (cN gRepr (cCons (cVar 1) cNil)) (cN gRepr (cCons (c2 gMul (cN gLst (cCons (cVar 2) cNil)) (cK (.int 3))) cNil)))) (bV (c2 gNe (cN gRepr (cCons (cVar 0) cNil)) (cVar 3)))) (sRet (cK (.bl false))) bNil)
  (sRet (cOr (cNot (cVar 2)) (c2 gEq (cN gRepr (cCons (cN gLst (cCons (cN M_places (cCons (cVar 0) cNil)) (cCons (cApp [0] cNil (cCons (cVar 0) cNil) M_places) cNil))) cNil)) (cN gRepr (cCons (c2 gMul (cN gLst (cCons (c2 gAdd (cN gLen (cCons (cVar 0) cNil)) (cK (.int 1))) cNil)) (cK (.int 2))) cNil))))))))
def M__law_same : Fd := runB false 4 B__law_same
theorem does__law_same : Does M__law_same (runB false 4 B__law_same) 1 := fun _ _ _ => .inr rfl
def B__law_right : Sv := (bCons (sFor (iRange1 (cCons (cK (.int 6)) cNil)) (gNm 1) (bCons (sSet 2 (cN M__law_wood (cCons (cVar 0) (cCons (cK (.int 14)) cNil))))
  (bCons (sSet 3 (cN M__law_bent (cCons (cVar 0) (cCons (cVar 2) cNil))))
  (sFor (iSeq (cN gLst (cCons (cVar 2) (cCons (cVar 3) (cCons (cN gList (cCons (cVar 2) cNil)) (cCons (cN gLst (cCons (cVar 3) cNil)) (cCons (cN gTup (cCons (cVar 2) cNil)) (cCons (c2 gAdd (cVar 2) (cVar 3)) (cCons (c1 gRev (cVar 3)) cNil))))))))) (gNm 4) (sIf (bNot (bV (cN M__law_same (cCons (cVar 4) cNil)))) (sRet (cK (.bl false))) bNil)))))
  (sRet (cK (.bl true))))
def M__law_right : Fd := runB false 5 B__law_right
theorem does__law_right : Does M__law_right (runB false 5 B__law_right) 1 := fun _ _ _ => .inr rfl
def B_law : Sv := (bCons (sSet 1 (cN gLst (cCons (cK .non) (cCons (cK (.bl true)) (cCons (cK (.int 0)) (cCons (cK (.int 11)) (cCons (cK (.str "")) (cCons (cK (.str "0")) (cCons (cN gLst cNil) (cCons (cK (.dct [] [])) (cCons (cK (.dct [.int 0] [.int 0])) (cCons (cN gTup (cCons (cK .non) cNil)) (cCons (cN gTup (cCons (cN gTup cNil) cNil)) (cCons (cN gTup (cCons (cN gLst cNil) cNil)) (cCons (cN gTup (cCons (cK (.int 0)) (cCons (cK (.int 0)) (cCons (cK (.int 3)) cNil)))) cNil)))))))))))))))
  (bCons (sSet 1 (c2 gAdd (cVar 1) (cN gLst (cCons (c1 gTupR (cK (.int 11))) (cCons (c2 gMul (cN gTup (cCons (cK (.int 0)) cNil)) (cK (.int 11))) cNil)))))
  (bCons (sSet 1 (c2 gAdd (cVar 1) (cN gLst (cCons (c2 gMul (cN gTup (cCons (cK (.int 0)) cNil)) (cK (.int 12))) (cCons (c1 gTupR (cK (.int 12))) (cCons (cN gTup (cCons (cK (.int 0)) cNil)) (cCons (cN gTup (cCons (cK (.bl false)) cNil)) (cCons (cN gTup (cCons (cK (.int 1)) cNil)) (cCons (cN gTup (cCons (cK (.int 0)) (cCons (cK (.int 1)) cNil))) (cCons (cN gTup (cCons (cK (.int 0)) (cCons (cK (.bl true)) cNil))) (cCons (cN gTup (cCons (cK (.int 0)) (cCons (cK (.int 1)) (cCons (c1 gNeg (cK (.int 1))) cNil)))) (cCons (cN gTup (cCons (cK (.int 0)) (cCons (c2 gPow (cK (.int 10)) (cK (.int 30))) cNil))) cNil))))))))))))
  (bCons (sIf (bNot (bV (cN gAll (cCons (cLc (iSeq (cVar 1)) (gNm 3) bYes (cN M__law_same (cCons (cVar 3) cNil)) [3]) cNil)))) (sRet (cK (.bl false))) bNil)
  (sRet (cN gAll (cCons (cLc (iRange1 (cCons (cN gMax (cCons (cK (.int 2)) (cCons (cN gMin (cCons (cN gLen (cCons (cVar 0) cNil)) (cCons (cK (.int 6)) cNil))) cNil))) cNil)) (gNm 2) bYes (cN M__law_right (cCons (cN M__law_purse (cCons (cN M__law_cell (cCons (cVar 0) (cCons (cVar 2) cNil))) cNil)) cNil)) [2]) cNil)))))))
def M_law : Fd := runB false 4 B_law
theorem does_law : Does M_law (runB false 4 B_law) 1 := fun _ _ _ => .inr rfl
end LW
namespace LW
open PySem J
open L2 (atI ixN)
/-! the mathematics of k01 -/
def wholeD : D → Bool
  | .int _ => true
  | _ => false
def withinD (d : D) (lo hi : Int) : Bool := match d with
  | .int i => decide (lo ≤ i) && decide (i ≤ hi)
  | _ => false
theorem m_is_whole {d : D} {cs : Cs} (h : solid d = true) : M_is_whole [d] cs = .ok (.bl (wholeD d)) cs := by
  cases d with
  | scr => simp [solid] at h
  | ptr => simp [solid] at h
  | ty => simp [solid] at h
  | _ => simp [M_is_whole, B_is_whole, gIsi, tyOf, isT, wholeD, runB, startD, bCons, bNil, sRet, sRetN, sDrop, sSet, sIf, sPar, sAsg, sSetI, sFor, bind_ok, of_ok, ofO_some, cVar, cK, c1, c2, cN, cNil, cCons, cAnd, cOr, cNot, cIf, bV, bNot, bAnd, bOr, bYes, cChain, cSl, oNone, oSome, cApp, permI, truth, fin_same, lim_ge]
theorem m_is_within {d : D} {lo hi : Int} {cs : Cs} (h : solid d = true) : M_is_within [d, .int lo, .int hi] cs = .ok (.bl (withinD d lo hi)) cs := by
  have e := m_is_whole (cs := cs) h
  cases d with
  | int i =>
    simp only [wholeD] at e
    by_cases h1 : lo ≤ i
    · simp [M_is_within, B_is_within, e, gLe, gCmp, withinD, h1, runB, startD, bCons, bNil, sRet, sRetN, sDrop, sSet, sIf, sPar, sAsg, sSetI, sFor, bind_ok, of_ok, ofO_some, cVar, cK, c1, c2, cN, cNil, cCons, cAnd, cOr, cNot, cIf, bV, bNot, bAnd, bOr, bYes, cChain, cSl, oNone, oSome, cApp, permI, truth, fin_same, lim_ge]
    · simp [M_is_within, B_is_within, e, gLe, gCmp, withinD, h1, runB, startD, bCons, bNil, sRet, sRetN, sDrop, sSet, sIf, sPar, sAsg, sSetI, sFor, bind_ok, of_ok, ofO_some, cVar, cK, c1, c2, cN, cNil, cCons, cAnd, cOr, cNot, cIf, bV, bNot, bAnd, bOr, bYes, cChain, cSl, oNone, oSome, cApp, permI, truth, fin_same, lim_ge]
  | _ =>
    simp only [wholeD] at e
    simp [M_is_within, B_is_within, e, withinD, runB, startD, bCons, bNil, sRet, sRetN, sDrop, sSet, sIf, sPar, sAsg, sSetI, sFor, bind_ok, of_ok, ofO_some, cVar, cK, c1, c2, cN, cNil, cCons, cAnd, cOr, cNot, cIf, bV, bNot, bAnd, bOr, bYes, cChain, cSl, oNone, oSome, cApp, permI, truth, fin_same, lim_ge]
def treeB (xs : List D) : Bool := (xs.mapIdx fun i x => withinD x 0 (i : Nat)).all id
def treeD : D → Bool
  | .tup xs => decide (xs.length < 12) && treeB xs
  | _ => false
theorem m_is_tree {d : D} {cs : Cs} (h : solid d = true) : M_is_tree [d] cs = .ok (.bl (treeD d)) cs := by
  cases d with
  | tup xs =>
    have hs := solids_mem (show solids xs = true by simpa [solid] using h)
    by_cases hl : xs.length < 12
    · have hl' : ¬ (12 ≤ (xs.length : Int)) := by omega
      have lim : (enumD xs).length ≤ LIM := by refine lim_ge ?_; simp [enumD]; omega
      have key : compD (gTp 2 (J.gCons (gNm 1) (J.gCons (gNm 2) J.gNil))) bYes (cN M_is_within (cCons (cVar 2) (cCons (cK (.int 0)) (cCons (cVar 1) cNil)))) (wipeD [some (.tup xs), none, none] [1, 2]) (enumD xs) cs = .ok ((xs.mapIdx fun i x => withinD x 0 (i : Nat)).map D.bl) cs := by
        rw [comp_pure (h := fun e => match e with | .tup [.int i, x] => .bl (withinD x 0 i) | _ => .non)]
        · simp only [enumD, map_mapIdx']
        · intro e he
          obtain ⟨i, hi, rfl⟩ := List.mem_mapIdx.mp he
          refine ⟨_, rfl, rfl, ?_⟩
          simp [wipeD, m_is_within (hs _ (List.getElem_mem hi)), runB, startD, bCons, bNil, sRet, sRetN, sDrop, sSet, sIf, sPar, sAsg, sSetI, sFor, bind_ok, of_ok, ofO_some, cVar, cK, c1, c2, cN, cNil, cCons, cAnd, cOr, cNot, cIf, bV, bNot, bAnd, bOr, bYes, cChain, cSl, oNone, oSome, cApp, permI, truth, fin_same, lim_ge]
      simp [M_is_tree, B_is_tree, gIsi, tyOf, isT, gGe, gCmp, gLen, seqOf, hl', cLc, J.iEnum, lim, key, gAll, asBools_bl, treeD, treeB, hl, runB, startD, bCons, bNil, sRet, sRetN, sDrop, sSet, sIf, sPar, sAsg, sSetI, sFor, bind_ok, of_ok, ofO_some, cVar, cK, c1, c2, cN, cNil, cCons, cAnd, cOr, cNot, cIf, bV, bNot, bAnd, bOr, bYes, cChain, cSl, oNone, oSome, cApp, permI, truth, fin_same, lim_ge]
    · have hl' : 12 ≤ (xs.length : Int) := by omega
      simp [M_is_tree, B_is_tree, gIsi, tyOf, isT, gGe, gCmp, gLen, seqOf, hl', treeD, hl, runB, startD, bCons, bNil, sRet, sRetN, sDrop, sSet, sIf, sPar, sAsg, sSetI, sFor, bind_ok, of_ok, ofO_some, cVar, cK, c1, c2, cN, cNil, cCons, cAnd, cOr, cNot, cIf, bV, bNot, bAnd, bOr, bYes, cChain, cSl, oNone, oSome, cApp, permI, truth, fin_same, lim_ge]
  | scr => simp [solid] at h
  | ptr => simp [solid] at h
  | ty => simp [solid] at h
  | _ => simp [M_is_tree, B_is_tree, gIsi, tyOf, isT, treeD, runB, startD, bCons, bNil, sRet, sRetN, sDrop, sSet, sIf, sPar, sAsg, sSetI, sFor, bind_ok, of_ok, ofO_some, cVar, cK, c1, c2, cN, cNil, cCons, cAnd, cOr, cNot, cIf, bV, bNot, bAnd, bOr, bYes, cChain, cSl, oNone, oSome, cApp, permI, truth, fin_same, lim_ge]
theorem m_places {xs : List D} {cs : Cs} (h : solid (.tup xs) = true) (ht : treeD (.tup xs) = true) : M_places [.tup xs] cs = .ok (.int ((xs.length : Int) + 1)) cs := by
  have e := m_is_tree (cs := cs) h
  rw [ht] at e
  have e2 : M_check_tree [.tup xs] cs = .ok .non cs := by simp [M_check_tree, B_check_tree, e, runB, startD, bCons, bNil, sRet, sRetN, sDrop, sSet, sIf, sPar, sAsg, sSetI, sFor, bind_ok, of_ok, ofO_some, cVar, cK, c1, c2, cN, cNil, cCons, cAnd, cOr, cNot, cIf, bV, bNot, bAnd, bOr, bYes, cChain, cSl, oNone, oSome, cApp, permI, truth, fin_same, lim_ge]
  simp [M_places, B_places, e2, gLen, seqOf, gAdd, runB, startD, bCons, bNil, sRet, sRetN, sDrop, sSet, sIf, sPar, sAsg, sSetI, sFor, bind_ok, of_ok, ofO_some, cVar, cK, c1, c2, cN, cNil, cCons, cAnd, cOr, cNot, cIf, bV, bNot, bAnd, bOr, bYes, cChain, cSl, oNone, oSome, cApp, permI, truth, fin_same, lim_ge]
theorem m_due {d : D} {cs : Cs} (h : solid d = true) : M__law_due [d] cs = .ok (.bl (treeD d)) cs := by
  cases d with
  | tup xs =>
    have hs := solids_mem (show solids xs = true by simpa [solid] using h)
    by_cases hl : xs.length < 12
    · have hl' : ¬ (11 < (xs.length : Int)) := by omega
      have lim : xs.length ≤ LIM := lim_ge (by omega)
      have k1 : compD (gNm 2) bYes (cAnd (cN gIsi (cCons (cVar 2) (cCons (cK (.ty .int)) cNil))) (cNot (cN gIsi (cCons (cVar 2) (cCons (cK (.ty .bool)) cNil))))) (wipeD [some (.tup xs), none, none, none] [2]) xs cs = .ok ((xs.map fun x => D.bl (wholeD x))) cs := by
        rw [comp_pure (h := fun x => .bl (wholeD x))]
        intro x hx
        refine ⟨_, rfl, rfl, ?_⟩
        have hx' := hs x hx
        cases x with
        | scr => simp [solid] at hx'
        | ptr => simp [solid] at hx'
        | ty => simp [solid] at hx'
        | _ => simp [wipeD, gIsi, tyOf, isT, wholeD, runB, startD, bCons, bNil, sRet, sRetN, sDrop, sSet, sIf, sPar, sAsg, sSetI, sFor, bind_ok, of_ok, ofO_some, cVar, cK, c1, c2, cN, cNil, cCons, cAnd, cOr, cNot, cIf, bV, bNot, bAnd, bOr, bYes, cChain, cSl, oNone, oSome, cApp, permI, truth, fin_same, lim_ge]
      have k2 : compD (gNm 3) bYes (cAnd (c2 gIx (cVar 1) (cVar 3)) (cChain gLe gLe (cK (.int 0)) (c2 gIx (cVar 0) (cVar 3)) (cVar 3))) (wipeD [some (.tup xs), some (.lst (xs.map fun x => D.bl (wholeD x))), none, none] [3]) (rng 0 xs.length) cs = .ok ((xs.mapIdx fun i x => withinD x 0 (i : Nat)).map D.bl) cs := by
        rw [comp_pure (h := fun e => match e with | .int i => .bl (withinD (xs.getD i.toNat .non) 0 i) | _ => .non)]
        · congr 1
          apply List.ext_getElem?
          intro i
          by_cases hi : i < xs.length
          · simp [rng, hi, List.getElem?_mapIdx]
          · simp [rng, hi, List.getElem?_mapIdx]
        · intro e he
          simp only [rng, List.mem_map, List.mem_range] at he
          obtain ⟨i, hi, rfl⟩ := he
          refine ⟨_, rfl, rfl, ?_⟩
          have hi0 : (0 : Int) ≤ 0 + (i : Int) := by omega
          have hi1 : (0 : Int) + (i : Int) < (xs.length : Int) := by omega
          have g1 : xs[i]? = some xs[i] := List.getElem?_eq_getElem hi
          have sx := hs _ (List.getElem_mem hi)
          have hn : ((0 : Int) + (i : Int)).toNat = i := by omega
          cases q : xs[i] with
          | int j =>
            by_cases hj : 0 ≤ j
            · simp [wipeD, gIx, seqOf, atI, ixN, hi0, hi1, hn, g1, q, wholeD, withinD, gLe, gCmp, hj, hi, runB, startD, bCons, bNil, sRet, sRetN, sDrop, sSet, sIf, sPar, sAsg, sSetI, sFor, bind_ok, of_ok, ofO_some, cVar, cK, c1, c2, cN, cNil, cCons, cAnd, cOr, cNot, cIf, bV, bNot, bAnd, bOr, bYes, cChain, cSl, oNone, oSome, cApp, permI, truth, fin_same, lim_ge]
            · simp [wipeD, gIx, seqOf, atI, ixN, hi0, hi1, hn, g1, q, wholeD, withinD, gLe, gCmp, hj, hi, runB, startD, bCons, bNil, sRet, sRetN, sDrop, sSet, sIf, sPar, sAsg, sSetI, sFor, bind_ok, of_ok, ofO_some, cVar, cK, c1, c2, cN, cNil, cCons, cAnd, cOr, cNot, cIf, bV, bNot, bAnd, bOr, bYes, cChain, cSl, oNone, oSome, cApp, permI, truth, fin_same, lim_ge]
          | _ => simp [wipeD, gIx, seqOf, atI, ixN, hi0, hi1, hn, g1, q, wholeD, withinD, hi, runB, startD, bCons, bNil, sRet, sRetN, sDrop, sSet, sIf, sPar, sAsg, sSetI, sFor, bind_ok, of_ok, ofO_some, cVar, cK, c1, c2, cN, cNil, cCons, cAnd, cOr, cNot, cIf, bV, bNot, bAnd, bOr, bYes, cChain, cSl, oNone, oSome, cApp, permI, truth, fin_same, lim_ge]
      have r1 : (rng 0 xs.length).length ≤ LIM := by simp [rng]; exact lim
      have b1 : -1000000000 ≤ (xs.length : Int) ∧ (xs.length : Int) ≤ 1000000000 := by omega
      have b2 : (xs.length : Int) ≤ 1000000000 := b1.2
      simp [M__law_due, B__law_due, gIsi, tyOf, isT, gGt, gCmp, gLen, seqOf, hl', cLc, iSeq, iRange1, lim, k1, k2, r1, b1, b2, gAll, asBools_bl, treeD, treeB, hl, runB, startD, bCons, bNil, sRet, sRetN, sDrop, sSet, sIf, sPar, sAsg, sSetI, sFor, bind_ok, of_ok, ofO_some, cVar, cK, c1, c2, cN, cNil, cCons, cAnd, cOr, cNot, cIf, bV, bNot, bAnd, bOr, bYes, cChain, cSl, oNone, oSome, cApp, permI, truth, fin_same, lim_ge]
    · have hl' : 11 < (xs.length : Int) := by omega
      simp [M__law_due, B__law_due, gIsi, tyOf, isT, gGt, gCmp, gLen, seqOf, hl', treeD, hl, runB, startD, bCons, bNil, sRet, sRetN, sDrop, sSet, sIf, sPar, sAsg, sSetI, sFor, bind_ok, of_ok, ofO_some, cVar, cK, c1, c2, cN, cNil, cCons, cAnd, cOr, cNot, cIf, bV, bNot, bAnd, bOr, bYes, cChain, cSl, oNone, oSome, cApp, permI, truth, fin_same, lim_ge]
  | scr => simp [solid] at h
  | ptr => simp [solid] at h
  | ty => simp [solid] at h
  | _ => simp [M__law_due, B__law_due, gIsi, tyOf, isT, treeD, runB, startD, bCons, bNil, sRet, sRetN, sDrop, sSet, sIf, sPar, sAsg, sSetI, sFor, bind_ok, of_ok, ofO_some, cVar, cK, c1, c2, cN, cNil, cCons, cAnd, cOr, cNot, cIf, bV, bNot, bAnd, bOr, bYes, cChain, cSl, oNone, oSome, cApp, permI, truth, fin_same, lim_ge]
theorem repr_bls (b : Bool) : reprOk (.lst [.bl b, .bl b, .bl b]) = true := by simp [reprOk, shows, evenD, evenDs, cost, costs]
theorem repr_two {i : Int} (h : i.natAbs < 10 ^ 12) : reprOk (.lst [.int i, .int i]) = true := (Mini.lst (n := 0) (B := 13) fun x hx => by
  have : x = .int i := by simpa using hx
  rw [this]
  exact .int h).repr (by decide) (by simp)
theorem m_same {d : D} {cs : Cs} (h : reprOk d = true) : M__law_same [d] cs = .ok (.bl true) cs := by
  have so : solid d = true := (reprOk_at h).1
  have e1 := m_due (cs := cs) so
  have e2 := m_is_tree (cs := cs) so
  have e3 := repr_bls (treeD d)
  cases q : treeD d with
  | false =>
    rw [q] at e1 e2 e3
    simp [M__law_same, B__law_same, e1, e2, e3, h, gRepr, gLst, gMul, gNe, List.replicate, runB, startD, bCons, bNil, sRet, sRetN, sDrop, sSet, sIf, sPar, sAsg, sSetI, sFor, bind_ok, of_ok, ofO_some, cVar, cK, c1, c2, cN, cNil, cCons, cAnd, cOr, cNot, cIf, bV, bNot, bAnd, bOr, bYes, cChain, cSl, oNone, oSome, cApp, permI, truth, fin_same, lim_ge]
  | true =>
    cases d with
    | tup xs =>
      have e4 := m_places (cs := cs) so q
      have hl : xs.length < 12 := by
        simp only [treeD, Bool.and_eq_true, decide_eq_true_eq] at q
        exact q.1
      have e5 : reprOk (.lst [.int ((xs.length : Int) + 1), .int ((xs.length : Int) + 1)]) = true := repr_two (by omega)
      rw [q] at e1 e2 e3
      simp [M__law_same, B__law_same, e1, e2, e3, e4, e5, h, gRepr, gLst, gMul, gNe, gEq, gLen, seqOf, gAdd, List.replicate, runB, startD, bCons, bNil, sRet, sRetN, sDrop, sSet, sIf, sPar, sAsg, sSetI, sFor, bind_ok, of_ok, ofO_some, cVar, cK, c1, c2, cN, cNil, cCons, cAnd, cOr, cNot, cIf, bV, bNot, bAnd, bOr, bYes, cChain, cSl, oNone, oSome, cApp, permI, truth, fin_same, lim_ge]
    | _ => simp [treeD] at q
/-! drawing -/
/-! drawing -/
theorem m_pick {k n : Nat} {m : Int} {cs : Cs} (h : Purse k n cs) (h0 : 0 < m) (h1 : m < 1073741824) : ∃ i cs', M__law_pick [.ptr k, .int m] cs = .ok (.int i) cs' ∧ Purse k n cs' ∧ 0 ≤ i ∧ i < m := by
  obtain ⟨hl, s, g, c, hc⟩ := id h
  have hk := (List.getElem?_eq_some_iff.mp hc).1
  have gs : ∀ a : O, (List.set cs k a)[k]? = some a := fun a => List.getElem?_set_self hk
  have sm : small (s % 1000000289) = true := by
    have a1 := Int.emod_nonneg s (show (1000000289 : Int) ≠ 0 by decide)
    have a2 := Int.emod_lt_of_pos s (show (0 : Int) < 1000000289 by decide)
    simp only [small, decide_eq_true_eq]
    omega
  have sm2 : small 80021 = true := by decide
  have ln : ∀ a : O, (List.set cs k a).length = List.length cs := fun a => by simp
  by_cases hg : 0 < g
  · refine ⟨g % m, cs.set k (.lst [.int (s % 1000000289 * (s % 1000000289 % 50021 + 20011) + 80021 * (c + 1)), .int (g / m), .int (c + 1)]), ?_, h.put _ _ _, Int.emod_nonneg _ (by omega), Int.emod_lt_of_pos _ h0⟩
    simp [M__law_pick, B__law_pick, gIx, seqOf, hc, gs, atI, ixN, gAdd, gSet, gMod, gMul, gGt, gCmp, gDiv, sm, sm2, hg, h0, h1, List.set_set, fin, runB, startD, bCons, bNil, sRet, sRetN, sDrop, sSet, sIf, sPar, sAsg, sSetI, sFor, bind_ok, of_ok, ofO_some, cVar, cK, c1, c2, cN, cNil, cCons, cAnd, cOr, cNot, cIf, bV, bNot, bAnd, bOr, bYes, cChain, cSl, oNone, oSome, cApp, permI, truth, fin_same, lim_ge]
  · refine ⟨(s % 1000000289 * (s % 1000000289 % 50021 + 20011) + 80021 * (c + 1)) % 1000000289 / 16 % m, cs.set k (.lst [.int (s % 1000000289 * (s % 1000000289 % 50021 + 20011) + 80021 * (c + 1)), .int g, .int (c + 1)]), ?_, h.put _ _ _, Int.emod_nonneg _ (by omega), Int.emod_lt_of_pos _ h0⟩
    simp [M__law_pick, B__law_pick, gIx, seqOf, hc, gs, atI, ixN, gAdd, gSet, gMod, gMul, gGt, gCmp, gDiv, sm, sm2, hg, h0, h1, List.set_set, fin, runB, startD, bCons, bNil, sRet, sRetN, sDrop, sSet, sIf, sPar, sAsg, sSetI, sFor, bind_ok, of_ok, ofO_some, cVar, cK, c1, c2, cN, cNil, cCons, cAnd, cOr, cNot, cIf, bV, bNot, bAnd, bOr, bYes, cChain, cSl, oNone, oSome, cApp, permI, truth, fin_same, lim_ge]
/-- numbers from 0 to 20 -/
def Tiny (d : D) : Prop := ∃ i : Int, d = .int i ∧ 0 ≤ i ∧ i ≤ 20
theorem m_wood {k n : Nat} {cs : Cs} (h : Purse k n cs) : ∃ xs cs', M__law_wood [.ptr k, .int 14] cs = .ok (.tup xs) cs' ∧ Purse k n cs' ∧ xs.length ≤ 13 ∧ ∀ x ∈ xs, Tiny x := by
  obtain ⟨sh, cs1, e1, h1, s0, s1⟩ := m_pick (m := 3) h (by decide) (by decide)
  obtain ⟨ct, cs2, e2, h2, c0, c1⟩ := m_pick (m := 14) h1 (by decide) (by decide)
  have b0 : 1 + ct - 1 = ct := by omega
  have b1 : -1000000000 ≤ ct ∧ ct ≤ 1000000000 := by omega
  have ct0 : ct.toNat ≤ 13 := by omega
  have lim : (rng 0 ct.toNat).length ≤ LIM := lim_ge (by simp only [rng, List.length_map, List.length_range]; omega)
  obtain ⟨ys, cs3, e3, h3, q3⟩ := comp_inv (g := gNm 4) (t := bYes) (f := c2 gIx (cN gLst (cCons (cVar 4) (cCons (cK (.int 0)) (cCons (cN M__law_pick (cCons (cVar 0) (cCons (c2 gAdd (cVar 4) (cK (.int 1))) cNil))) cNil)))) (cVar 2)) (σ := wipeD [some (.ptr k), some (.int 14), some (.int sh), some (.int (1 + ct)), none] [4])
    (Purse k n) (fun _ y => Tiny y) (rng 0 ct.toNat) cs2 h2 (by
      intro x hx cs hp
      simp only [rng, List.mem_map, List.mem_range] at hx
      obtain ⟨i, hi, rfl⟩ := hx
      obtain ⟨r, cs', e, hp', r0, r1⟩ := m_pick (m := (i : Int) + 1) hp (by omega) (by omega)
      refine ⟨_, rfl, rfl, ?_⟩
      have ss : sh = 0 ∨ sh = 1 ∨ sh = 2 := by omega
      rcases ss with rfl | rfl | rfl
      · exact ⟨.int (i : Int), cs', by simp [wipeD, gAdd, e, gLst, gIx, seqOf, atI, ixN, runB, startD, bCons, bNil, sRet, sRetN, sDrop, sSet, sIf, sPar, sAsg, sSetI, sFor, bind_ok, of_ok, ofO_some, cVar, cK, c1, c2, cN, cNil, cCons, cAnd, cOr, cNot, cIf, bV, bNot, bAnd, bOr, bYes, cChain, cSl, oNone, oSome, cApp, permI, truth, fin_same, lim_ge], hp', _, rfl, by omega, by omega⟩
      · exact ⟨.int 0, cs', by simp [wipeD, gAdd, e, gLst, gIx, seqOf, atI, ixN, runB, startD, bCons, bNil, sRet, sRetN, sDrop, sSet, sIf, sPar, sAsg, sSetI, sFor, bind_ok, of_ok, ofO_some, cVar, cK, c1, c2, cN, cNil, cCons, cAnd, cOr, cNot, cIf, bV, bNot, bAnd, bOr, bYes, cChain, cSl, oNone, oSome, cApp, permI, truth, fin_same, lim_ge], hp', _, rfl, by omega, by omega⟩
      · exact ⟨.int r, cs', by simp [wipeD, gAdd, e, gLst, gIx, seqOf, atI, ixN, runB, startD, bCons, bNil, sRet, sRetN, sDrop, sSet, sIf, sPar, sAsg, sSetI, sFor, bind_ok, of_ok, ofO_some, cVar, cK, c1, c2, cN, cNil, cCons, cAnd, cOr, cNot, cIf, bV, bNot, bAnd, bOr, bYes, cChain, cSl, oNone, oSome, cApp, permI, truth, fin_same, lim_ge], hp', _, rfl, by omega, by omega⟩)
  refine ⟨ys, cs3, ?_, h3, ?_, fun y hy => by obtain ⟨x, _, q⟩ := q3.mem y hy; exact q⟩
  · have el : List.length cs3 = List.length cs := h3.1.trans h.1.symm
    simp [M__law_wood, B__law_wood, e1, e2, gAdd, gTup, gTp, J.gCons, gNm, J.gNil, gSub, cLc, iRange1, b0, b1, lim, e3, gTuple, seqOf, fin, el, runB, startD, bCons, bNil, sRet, sRetN, sDrop, sSet, sIf, sPar, sAsg, sSetI, sFor, bind_ok, of_ok, ofO_some, cVar, cK, c1, c2, cN, cNil, cCons, cAnd, cOr, cNot, cIf, bV, bNot, bAnd, bOr, bYes, cChain, cSl, oNone, oSome, cApp, permI, truth, fin_same, lim_ge]
  · rw [q3.length]
    simp only [rng, List.length_map, List.length_range]
    exact ct0
theorem Tiny.mini {d : D} (h : Tiny d) : Mini 0 13 d := by
  obtain ⟨i, rfl, h0, h1⟩ := h
  exact .int (by omega)
theorem mini_big : Mini 1 1921 (.int 1000000000000000000000000000000) := ⟨by decide +kernel, rfl, by decide +kernel⟩
theorem m_bent {k n : Nat} {cs : Cs} {xs : List D} (h : Purse k n cs) (hl : xs.length ≤ 13) (ht : ∀ x ∈ xs, Tiny x) : ∃ ys cs', M__law_bent [.ptr k, .tup xs] cs = .ok (.tup ys) cs' ∧ Purse k n cs' ∧ ys.length ≤ 27 ∧ ∀ y ∈ ys, Mini 1 1921 y := by
  have same : ∀ x ∈ xs, Mini 1 1921 x := fun x hx => (ht x hx).mini.up (by decide) (by decide)
  have lx : lays 60 (.tup xs) = true := by
    simp only [lays, List.all_eq_true]
    intro x hx
    obtain ⟨i, rfl, _⟩ := ht x hx
    rfl
  have l0 : lays 60 (.tup []) = true := rfl
  cases xs with
  | nil =>
    refine ⟨[], cs, ?_, h, by simp, same⟩
    have e : eqD (.tup []) (.tup []) = true := by decide +kernel
    simp [M__law_bent, B__law_bent, gTup, gEq, l0, e, runB, startD, bCons, bNil, sRet, sRetN, sDrop, sSet, sIf, sPar, sAsg, sSetI, sFor, bind_ok, of_ok, ofO_some, cVar, cK, c1, c2, cN, cNil, cCons, cAnd, cOr, cNot, cIf, bV, bNot, bAnd, bOr, bYes, cChain, cSl, oNone, oSome, cApp, permI, truth, fin_same, lim_ge]
  | cons x0 xs0 =>
    have e : eqD (.tup (x0 :: xs0)) (.tup []) = false := by simp [eqD, py, pys, PyData.eqv, PyData.eqvAll]
    obtain ⟨r, cs1, e1, h1, r0, r1⟩ := m_pick (m := 4) h (by decide) (by decide)
    have i0 : ∀ i : Int, lays 60 (.int i) = true := fun _ => rfl
    have ei : eqD (.int r) (.int 0) = decide (r = 0) := by
      by_cases q : r = 0
      · subst q; decide +kernel
      · simp [eqD, py, PyData.eqv, q]
    by_cases q : r = 0
    · subst q
      refine ⟨x0 :: xs0, cs1, ?_, h1, by simp at hl ⊢; omega, same⟩
      have el : List.length cs1 = List.length cs := h1.1.trans h.1.symm
      simp [M__law_bent, B__law_bent, gTup, gEq, l0, lx, e, e1, i0, ei, fin, el, runB, startD, bCons, bNil, sRet, sRetN, sDrop, sSet, sIf, sPar, sAsg, sSetI, sFor, bind_ok, of_ok, ofO_some, cVar, cK, c1, c2, cN, cNil, cCons, cAnd, cOr, cNot, cIf, bV, bNot, bAnd, bOr, bYes, cChain, cSl, oNone, oSome, cApp, permI, truth, fin_same, lim_ge]
    · generalize hxs : x0 :: xs0 = xs at *
      have hne : 0 < xs.length := by rw [← hxs]; simp
      obtain ⟨a, cs2, e2, h2, a0, a1⟩ := m_pick (m := (xs.length : Int)) h1 (by omega) (by omega)
      obtain ⟨o, cs3, e3, h3, o0, o1⟩ := m_pick (m := 12) h2 (by decide) (by decide)
      obtain ⟨z, hz, e4⟩ := atI_mem (xs := [.int (a + 1), .int (-1), .bl true, .bl false, .str "0", .non, .tup [.int 0], .lst [.int 0], .int 1000000000000000000000000000000, .dct [] [], .int a, .int (a + 2)]) (i := o) o0 (by simp; omega)
      have mz : Mini 1 1921 z := by
        simp only [List.mem_cons, List.not_mem_nil, or_false] at hz
        rcases hz with rfl | rfl | rfl | rfl | rfl | rfl | rfl | rfl | rfl | rfl | rfl | rfl
        · exact (Mini.int (by omega)).up (by decide) (by decide)
        · exact (Mini.int (by decide)).up (by decide) (by decide)
        · exact ⟨rfl, rfl, by decide⟩
        · exact ⟨rfl, rfl, by decide⟩
        · exact ⟨by decide +kernel, rfl, by decide +kernel⟩
        · exact ⟨rfl, rfl, by decide⟩
        · exact ⟨by decide +kernel, rfl, by decide +kernel⟩
        · exact ⟨by decide +kernel, rfl, by decide +kernel⟩
        · exact mini_big
        · exact ⟨by decide +kernel, rfl, by decide +kernel⟩
        · exact (Mini.int (by omega)).up (by decide) (by decide)
        · exact (Mini.int (by omega)).up (by decide) (by decide)
      have hc1 := cutD_length xs none (some a)
      have c2' := cutD_length xs (some (a + 1)) none
      have lm1 : (cutD xs none (some a)).length + 1 ≤ LIM := lim_ge (by omega)
      have lm2 : (cutD xs none (some a)).length + (1 + (cutD xs (some (a + 1)) none).length) ≤ LIM := lim_ge (by omega)
      have lm3 : (cutD xs none (some a)).length + 1 + (cutD xs (some (a + 1)) none).length ≤ LIM := lim_ge (by omega)
      have el : List.length cs3 = List.length cs := h3.1.trans h.1.symm
      refine ⟨cutD xs none (some a) ++ [z] ++ cutD xs (some (a + 1)) none, cs3, ?_, h3, by simp; omega, fun y hy => ?_⟩
      · simp [M__law_bent, B__law_bent, gTup, gEq, l0, lx, e, e1, i0, ei, q, e2, e3, gLen, seqOf, gAdd, gNeg, gPow, gLst, gIx, e4, gSl, lm1, lm2, lm3, fin, el, runB, startD, bCons, bNil, sRet, sRetN, sDrop, sSet, sIf, sPar, sAsg, sSetI, sFor, bind_ok, of_ok, ofO_some, cVar, cK, c1, c2, cN, cNil, cCons, cAnd, cOr, cNot, cIf, bV, bNot, bAnd, bOr, bYes, cChain, cSl, oNone, oSome, cApp, permI, truth, fin_same, lim_ge]
      · simp only [List.mem_append, List.mem_singleton] at hy
        rcases hy with (hy | rfl) | hy
        · exact same y (cutD_mem hy)
        · exact mz
        · exact same y (cutD_mem hy)
theorem m_right {k n : Nat} {cs : Cs} (h : Purse k n cs) : ∃ cs', M__law_right [.ptr k] cs = .ok (.bl true) cs' ∧ Purse k n cs' := by
  obtain ⟨σ', cs', e, hI⟩ := for_inv (g := gNm 1) (b := bCons (sSet 2 (cN M__law_wood (cCons (cVar 0) (cCons (cK (.int 14)) cNil))))
    (bCons (sSet 3 (cN M__law_bent (cCons (cVar 0) (cCons (cVar 2) cNil))))
    (sFor (iSeq (cN gLst (cCons (cVar 2) (cCons (cVar 3) (cCons (cN gList (cCons (cVar 2) cNil)) (cCons (cN gLst (cCons (cVar 3) cNil)) (cCons (cN gTup (cCons (cVar 2) cNil)) (cCons (c2 gAdd (cVar 2) (cVar 3)) (cCons (c1 gRev (cVar 3)) cNil))))))))) (gNm 4) (sIf (bNot (bV (cN M__law_same (cCons (cVar 4) cNil)))) (sRet (cK (.bl false))) bNil))))
    (fun σ cs => (∃ a b c d, σ = [some (.ptr k), a, b, c, d]) ∧ Purse k n cs) (rng 0 6) [some (.ptr k), none, none, none, none] cs ⟨⟨_, _, _, _, rfl⟩, h⟩ (by
      rintro x hx σ cs ⟨⟨a, b, c, d, rfl⟩, hp⟩
      refine ⟨_, rfl, ?_⟩
      obtain ⟨xs, cs1, e1, h1, l1, t1⟩ := m_wood hp
      obtain ⟨ys, cs2, e2, h2, l2, t2⟩ := m_bent h1 l1 t1
      have mx : ∀ x ∈ xs, Mini 1 1921 x := fun x hx => (t1 x hx).mini.up (by decide) (by decide)
      have big : ∀ {zs : List D}, zs.length ≤ 100 → (1921 + 2) * zs.length + 3 ≤ 200000 := by intro zs hz; omega
      have tx : Mini 2 200000 (.tup xs) := (Mini.tup mx).up (by decide) (big (by omega))
      have ty : Mini 2 200000 (.tup ys) := (Mini.tup t2).up (by decide) (big (by omega))
      have lmA : xs.length + ys.length ≤ LIM := lim_ge (by omega)
      obtain ⟨σ3, cs3, e3, hI3⟩ := for_inv (g := gNm 4) (b := sIf (bNot (bV (cN M__law_same (cCons (cVar 4) cNil)))) (sRet (cK (.bl false))) bNil)
        (fun σ cs => (∃ d, σ = [some (.ptr k), some x, some (.tup xs), some (.tup ys), d]) ∧ cs = cs2)
        [.tup xs, .tup ys, .lst xs, .lst [.tup ys], .tup [.tup xs], .tup (xs ++ ys), .tup ys.reverse] [some (.ptr k), some x, some (.tup xs), some (.tup ys), d] cs2 ⟨⟨_, rfl⟩, rfl⟩ (by
          rintro z hz σ cs ⟨⟨d, rfl⟩, rfl⟩
          have ok : reprOk z = true := by
            simp only [List.mem_cons, List.not_mem_nil, or_false] at hz
            rcases hz with rfl | rfl | rfl | rfl | rfl | rfl | rfl
            · exact tx.repr (by decide) (by decide)
            · exact ty.repr (by decide) (by decide)
            · exact (Mini.lst mx).repr (by decide) (by omega)
            · exact (Mini.lst (xs := [.tup ys]) (by simpa using ty)).repr (by decide) (by simp)
            · exact (Mini.tup (xs := [.tup xs]) (by simpa using tx)).repr (by decide) (by simp)
            · refine (Mini.tup (n := 1) (B := 1921) (xs := xs ++ ys) fun y hy => ?_).repr (by decide) (by simp; omega)
              rcases List.mem_append.mp hy with hy | hy
              · exact mx y hy
              · exact t2 y hy
            · exact (Mini.tup (n := 1) (B := 1921) (xs := ys.reverse) fun y hy => t2 y (by simpa using hy)).repr (by decide) (by simp; omega)
          refine ⟨_, rfl, [some (.ptr k), some x, some (.tup xs), some (.tup ys), some z], cs, ?_, ⟨_, rfl⟩, rfl⟩
          have e := m_same (cs := cs) ok
          simp [gNm, e, runB, startD, bCons, bNil, sRet, sRetN, sDrop, sSet, sIf, sPar, sAsg, sSetI, sFor, bind_ok, of_ok, ofO_some, cVar, cK, c1, c2, cN, cNil, cCons, cAnd, cOr, cNot, cIf, bV, bNot, bAnd, bOr, bYes, cChain, cSl, oNone, oSome, cApp, permI, truth, fin_same, lim_ge])
      obtain ⟨⟨d3, rfl⟩, rfl⟩ := hI3
      refine ⟨[some (.ptr k), some x, some (.tup xs), some (.tup ys), d3], cs3, ?_, ⟨_, _, _, _, rfl⟩, h2⟩
      simp [e1, e2, gList, seqOf, gLst, gTup, gAdd, lmA, gRev, iSeq, e3, runB, startD, bCons, bNil, sRet, sRetN, sDrop, sSet, sIf, sPar, sAsg, sSetI, sFor, bind_ok, of_ok, ofO_some, cVar, cK, c1, c2, cN, cNil, cCons, cAnd, cOr, cNot, cIf, bV, bNot, bAnd, bOr, bYes, cChain, cSl, oNone, oSome, cApp, permI, truth, fin_same, lim_ge])
  obtain ⟨⟨a, b, c, d, rfl⟩, hp⟩ := hI
  refine ⟨cs', ?_, hp⟩
  have el : List.length cs' = List.length cs := hp.1.trans h.1.symm
  simp [M__law_right, B__law_right, iRange1, e, fin, el, runB, startD, bCons, bNil, sRet, sRetN, sDrop, sSet, sIf, sPar, sAsg, sSetI, sFor, bind_ok, of_ok, ofO_some, cVar, cK, c1, c2, cN, cNil, cCons, cAnd, cOr, cNot, cIf, bV, bNot, bAnd, bOr, bYes, cChain, cSl, oNone, oSome, cApp, permI, truth, fin_same, lim_ge]
theorem m_cell {ns : List Int} {k : Int} {cs : Cs} (h0 : 0 ≤ k) (h1 : k ≤ 6) : ∃ c, M__law_cell [.scr (ns.map D.int), .int k] cs = .ok (.int c) cs := by
  have sk : small k = true := by simp only [small, decide_eq_true_eq]; omega
  have s1 : small 60013 = true := by decide
  have s2 : small 9 = true := by decide
  have s3 : small 40009 = true := by decide
  by_cases hk : k < (ns.length : Int)
  · obtain ⟨z, hz, e⟩ := atI_mem (xs := ns.map D.int) (i := k) h0 (by simpa using hk)
    obtain ⟨c, _, rfl⟩ := List.mem_map.mp hz
    refine ⟨c, ?_⟩
    simp [M__law_cell, B__law_cell, gLen, seqOf, gLt, gCmp, gIx, hk, e, runB, startD, bCons, bNil, sRet, sRetN, sDrop, sSet, sIf, sPar, sAsg, sSetI, sFor, bind_ok, of_ok, ofO_some, cVar, cK, c1, c2, cN, cNil, cCons, cAnd, cOr, cNot, cIf, bV, bNot, bAnd, bOr, bYes, cChain, cSl, oNone, oSome, cApp, permI, truth, fin_same, lim_ge]
  · obtain ⟨σ', cs', e, hI⟩ := for_inv (g := gNm 3) (b := sSet 2 (c2 gMod (c2 gAdd (c2 gMul (cVar 2) (cK (.int 40009))) (cVar 3)) (cK (.int 1000000289))))
      (fun σ c => (∃ (i : Int) (x : Option D), σ = [some (.scr (ns.map D.int)), some (.int k), some (.int i), x]) ∧ c = cs)
      (cutD (ns.map D.int) none (some 4)) [some (.scr (ns.map D.int)), some (.int k), some (.int (60013 * (k * k + 9 * k + 5) % 1000000289)), none] cs ⟨⟨_, _, rfl⟩, rfl⟩ (by
        rintro x hx σ c ⟨⟨i, y, rfl⟩, rfl⟩
        obtain ⟨j, _, rfl⟩ := List.mem_map.mp (cutD_mem hx)
        refine ⟨_, rfl, [some (.scr (ns.map D.int)), some (.int k), some (.int ((i * 40009 + j) % 1000000289)), some (.int j)], c, ?_, ⟨_, _, rfl⟩, rfl⟩
        simp [gMod, gAdd, gMul, s3, runB, startD, bCons, bNil, sRet, sRetN, sDrop, sSet, sIf, sPar, sAsg, sSetI, sFor, bind_ok, of_ok, ofO_some, cVar, cK, c1, c2, cN, cNil, cCons, cAnd, cOr, cNot, cIf, bV, bNot, bAnd, bOr, bYes, cChain, cSl, oNone, oSome, cApp, permI, truth, fin_same, lim_ge])
    obtain ⟨⟨i, x, rfl⟩, rfl⟩ := hI
    refine ⟨i, ?_⟩
    simp [M__law_cell, B__law_cell, gLen, seqOf, gLt, gCmp, hk, gMod, gMul, gAdd, sk, s1, s2, gSl, iSeq, e, runB, startD, bCons, bNil, sRet, sRetN, sDrop, sSet, sIf, sPar, sAsg, sSetI, sFor, bind_ok, of_ok, ofO_some, cVar, cK, c1, c2, cN, cNil, cCons, cAnd, cOr, cNot, cIf, bV, bNot, bAnd, bOr, bYes, cChain, cSl, oNone, oSome, cApp, permI, truth, fin_same, lim_ge]
theorem m_purse {c : Int} {cs : Cs} : ∃ a b : Int, M__law_purse [.int c] cs = .ok (.ptr cs.length) (cs ++ [.lst [.int a, .int b, .int 0]]) := by
  have s1 : small 7001 = true := by decide
  by_cases h : 1000000000000000000 ≤ c
  · exact ⟨c % 1000000289 * 7001 + 5003, c, by simp [M__law_purse, B__law_purse, gMod, gMul, gAdd, s1, gLst, gPow, gGe, gCmp, gInt, gIx, seqOf, atI, ixN, gCell, h, runB, startD, bCons, bNil, sRet, sRetN, sDrop, sSet, sIf, sPar, sAsg, sSetI, sFor, bind_ok, of_ok, ofO_some, cVar, cK, c1, c2, cN, cNil, cCons, cAnd, cOr, cNot, cIf, bV, bNot, bAnd, bOr, bYes, cChain, cSl, oNone, oSome, cApp, permI, truth, fin_same, lim_ge]⟩
  · exact ⟨c % 1000000289 * 7001 + 5003, 0, by simp [M__law_purse, B__law_purse, gMod, gMul, gAdd, s1, gLst, gPow, gGe, gCmp, gInt, gIx, seqOf, atI, ixN, gCell, h, runB, startD, bCons, bNil, sRet, sRetN, sDrop, sSet, sIf, sPar, sAsg, sSetI, sFor, bind_ok, of_ok, ofO_some, cVar, cK, c1, c2, cN, cNil, cCons, cAnd, cOr, cNot, cIf, bV, bNot, bAnd, bOr, bYes, cChain, cSl, oNone, oSome, cApp, permI, truth, fin_same, lim_ge]⟩
theorem fin_zero (b : Bool) (cs : Cs) : fin 0 (.bl b) cs = .ok (.bl b) [] := by
  unfold fin
  split
  · rename_i h
    rw [List.length_eq_zero_iff.mp h]
  · simp [low]
def oddL : List D := [.non, .bl true, .int 0, .int 11, .str "", .str "0", .lst [], .dct [] [], .dct [.int 0] [.int 0], .tup [.non], .tup [.tup []], .tup [.lst []], .tup [.int 0, .int 0, .int 3], .tup (rng 0 11), .tup (List.replicate 11 [D.int 0]).flatten,
  .tup (List.replicate 12 [D.int 0]).flatten, .tup (rng 0 12), .tup [.int 0], .tup [.bl false], .tup [.int 1], .tup [.int 0, .int 1], .tup [.int 0, .bl true], .tup [.int 0, .int 1, .int (-1)], .tup [.int 0, .int 1000000000000000000000000000000]]
theorem odd_ok : ∀ x ∈ oddL, reprOk x = true := by
  have h : oddL.all reprOk = true := by decide +kernel
  exact List.all_eq_true.mp h
theorem step_set {i : Nat} {a : Ev} {t : Sv} {σ : En} {cs cs1 : Cs} {d : D} (h : a σ cs = .ok d cs1) : bCons (sSet i a) t σ cs = t (σ.set i (some d)) cs1 := by
  simp [bCons, sSet, h, of_ok]
theorem step_if {b : Eb} {a t : Sv} {σ : En} {cs cs1 : Cs} (h : b σ cs = .ok false cs1) : bCons (sIf b a bNil) t σ cs = t σ cs1 := by
  simp [bCons, sIf, h, of_ok, bNil]
theorem asBools_true : ∀ {xs ys : List D}, All2 (fun _ y => y = D.bl true) xs ys → asBools ys = some (ys.map fun _ => true)
  | _, _, .nil => rfl
  | _, _, .cons h t => by
    subst h
    simp [asBools, asBool, asBools_true t]
theorem all_true {α : Type} : ∀ xs : List α, (xs.map fun _ => true).all id = true
  | [] => rfl
  | x :: xs => by simp
theorem res_law (ns : List Int) (hn : ns.length ≤ 63) (_ : ∀ i ∈ ns, Builtin.Int.intBits i ≤ 1048576) : M_law [.scr (ns.map D.int)] [] = .ok (.bl true) [] := by
  have k1 : compD (gNm 3) bYes (cN M__law_same (cCons (cVar 3) cNil)) (wipeD [some (.scr (ns.map D.int)), some (.lst oddL), none, none] [3]) oddL [] = .ok (oddL.map fun _ => D.bl true) [] := by
    rw [comp_pure (h := fun _ => .bl true)]
    intro x hx
    refine ⟨_, rfl, rfl, ?_⟩
    have e := m_same (cs := []) (odd_ok x hx)
    simp [wipeD, e, runB, startD, bCons, bNil, sRet, sRetN, sDrop, sSet, sIf, sPar, sAsg, sSetI, sFor, bind_ok, of_ok, ofO_some, cVar, cK, c1, c2, cN, cNil, cCons, cAnd, cOr, cNot, cIf, bV, bNot, bAnd, bOr, bYes, cChain, cSl, oNone, oSome, cApp, permI, truth, fin_same, lim_ge]
  have b0 : ∃ m : Nat, m ≤ 6 ∧ (if (if (6 : Int) < (ns.length : Int) then (6 : Int) else (ns.length : Int)) > 2 then (if (6 : Int) < (ns.length : Int) then (6 : Int) else (ns.length : Int)) else 2) = (m : Int) := by
    by_cases h1 : (6 : Int) < (ns.length : Int)
    · exact ⟨6, by decide, by simp [h1]⟩
    · by_cases h2 : (ns.length : Int) > 2
      · exact ⟨ns.length, by omega, by simp [h1, h2]⟩
      · exact ⟨2, by decide, by simp [h1, h2]⟩
  obtain ⟨m, hm, em⟩ := b0
  obtain ⟨ys, cs2, e2, _, q2⟩ := comp_inv (g := gNm 2) (t := bYes) (f := cN M__law_right (cCons (cN M__law_purse (cCons (cN M__law_cell (cCons (cVar 0) (cCons (cVar 2) cNil))) cNil)) cNil)) (σ := wipeD [some (.scr (ns.map D.int)), some (.lst oddL), none, none] [2])
    (fun _ => True) (fun _ y => y = .bl true) (rng 0 m) [] trivial (by
      intro x hx cs _
      simp only [rng, List.mem_map, List.mem_range] at hx
      obtain ⟨i, hi, rfl⟩ := hx
      obtain ⟨c, e1⟩ := m_cell (ns := ns) (k := (i : Int)) (cs := cs) (by omega) (by omega)
      obtain ⟨a, b, e2⟩ := m_purse (c := c) (cs := cs)
      obtain ⟨cs', e3, _⟩ := m_right (k := List.length cs) (n := List.length cs + 1) (cs := cs ++ [.lst [.int a, .int b, .int 0]]) ⟨by simp, a, b, 0, by simp⟩
      refine ⟨_, rfl, rfl, .bl true, cs', ?_, trivial, rfl⟩
      simp [wipeD, e1, e2, e3, runB, startD, bCons, bNil, sRet, sRetN, sDrop, sSet, sIf, sPar, sAsg, sSetI, sFor, bind_ok, of_ok, ofO_some, cVar, cK, c1, c2, cN, cNil, cCons, cAnd, cOr, cNot, cIf, bV, bNot, bAnd, bOr, bYes, cChain, cSl, oNone, oSome, cApp, permI, truth, fin_same, lim_ge])
  have l1 : oddL.length ≤ LIM := lim_ge (by decide +kernel)
  have l2 : (rng 0 m).length ≤ LIM := lim_ge (by simp [rng]; omega)
  have b1 : -1000000000 ≤ (m : Int) ∧ (m : Int) ≤ 1000000000 := by omega
  have ab : asBools (oddL.map fun _ => D.bl true) = some (oddL.map fun _ => true) := by
    have := asBools_bl (oddL.map fun _ => true)
    rw [List.map_map] at this
    exact this
  have ay := asBools_true q2
  unfold M_law runB B_law
  rw [step_set (d := .lst (oddL.take 13)) (cs1 := []), step_set (d := .lst (oddL.take 15)) (cs1 := []), step_set (d := .lst oddL) (cs1 := []), step_if (cs1 := [])]
  · have z : sRet (cN gAll (cCons (cLc (iRange1 (cCons (cN gMax (cCons (cK (.int 2)) (cCons (cN gMin (cCons (cN gLen (cCons (cVar 0) cNil)) (cCons (cK (.int 6)) cNil))) cNil))) cNil)) (gNm 2) bYes (cN M__law_right (cCons (cN M__law_purse (cCons (cN M__law_cell (cCons (cVar 0) (cCons (cVar 2) cNil))) cNil)) cNil)) [2]) cNil)) [some (.scr (ns.map D.int)), some (.lst oddL), none, none] [] = .rt (.bl true) cs2 := by
      simp [sRet, cLc, iRange1, gMax, gMin, gLen, seqOf, gAll, em, b1, e2, l2, ay, all_true, runB, startD, bCons, bNil, sRet, sRetN, sDrop, sSet, sIf, sPar, sAsg, sSetI, sFor, bind_ok, of_ok, ofO_some, cVar, cK, c1, c2, cN, cNil, cCons, cAnd, cOr, cNot, cIf, bV, bNot, bAnd, bOr, bYes, cChain, cSl, oNone, oSome, cApp, permI, truth, fin_same, lim_ge]
    rw [show startD 4 [D.scr (ns.map D.int)] = [some (.scr (ns.map D.int)), none, none, none] from rfl]
    simp only [List.set]
    rw [z]
    simp [fin_zero]
  · simp only [startD, List.set]
    simp [cLc, iSeq, gAll, k1, l1, ab, all_true, runB, startD, bCons, bNil, sRet, sRetN, sDrop, sSet, sIf, sPar, sAsg, sSetI, sFor, bind_ok, of_ok, ofO_some, cVar, cK, c1, c2, cN, cNil, cCons, cAnd, cOr, cNot, cIf, bV, bNot, bAnd, bOr, bYes, cChain, cSl, oNone, oSome, cApp, permI, truth, fin_same, lim_ge]
  · simp [gLst, gTup, gAdd, gTupR, gMul, gNeg, gPow, oddL, runB, startD, bCons, bNil, sRet, sRetN, sDrop, sSet, sIf, sPar, sAsg, sSetI, sFor, bind_ok, of_ok, ofO_some, cVar, cK, c1, c2, cN, cNil, cCons, cAnd, cOr, cNot, cIf, bV, bNot, bAnd, bOr, bYes, cChain, cSl, oNone, oSome, cApp, permI, truth, fin_same, lim_ge]
  · simp [gLst, gTup, gAdd, gTupR, gMul, gNeg, gPow, oddL, runB, startD, bCons, bNil, sRet, sRetN, sDrop, sSet, sIf, sPar, sAsg, sSetI, sFor, bind_ok, of_ok, ofO_some, cVar, cK, c1, c2, cN, cNil, cCons, cAnd, cOr, cNot, cIf, bV, bNot, bAnd, bOr, bYes, cChain, cSl, oNone, oSome, cApp, permI, truth, fin_same, lim_ge]
  · simp [gLst, gTup, gAdd, gTupR, gMul, gNeg, gPow, oddL, runB, startD, bCons, bNil, sRet, sRetN, sDrop, sSet, sIf, sPar, sAsg, sSetI, sFor, bind_ok, of_ok, ofO_some, cVar, cK, c1, c2, cN, cNil, cCons, cAnd, cOr, cNot, cIf, bV, bNot, bAnd, bOr, bYes, cChain, cSl, oNone, oSome, cApp, permI, truth, fin_same, lim_ge]
end LW
namespace LW
open PySem L2 J PySem.Spec PyProof.Rows
def top (i : Nat) : Stmt := PySem.Challenge.pw_joinreach_k01_trees_of_any_kind.main.body.getD i (.Pass ⟨0, 0, 0, 0⟩)
theorem je_gint1 {X : Cx} {x : Str} {i : Int} {pos : Pos} (hg : Gl X x) (hm : ∃ t, X.mg x = some (.int i t)) (hd : (x == ("__debug__" : Str)) = false := by decide) : JE X (.Name x pos) (cK (.int i)) := hm.elim fun _ h => je_gint hg h hd
structure Txt (mg : Str → Option Value) : Prop where
  b_all : mg "all" = none
  b_bool : mg "bool" = none
  b_enumerate : mg "enumerate" = none
  b_int : mg "int" = none
  b_isinstance : mg "isinstance" = none
  b_len : mg "len" = none
  b_list : mg "list" = none
  b_max : mg "max" = none
  b_min : mg "min" = none
  b_range : mg "range" = none
  b_repr : mg "repr" = none
  b_tuple : mg "tuple" = none
  g_MOST_PLACES : ∃ t, mg "MOST_PLACES" = some (.int 12 t)
abbrev N_is_whole : List Str := ["thing"]
theorem sc_is_whole : FnScope N_is_whole ["thing"] (defScope (top 5)) := ⟨rfl, rfl, rfl, by decide +kernel, rfl, by decide +kernel, by decide +kernel⟩
theorem d_is_whole {P : Program} {w : World} {K : PySem.W.Frag} {mg : Str → Option Value} {base : Heap} {f : Addr} {fd : FuncData} (T : Txt mg) (hm : mg "is_whole" = some (.ref f)) (U : Fun K "is_whole" "is_whole" (top 5) f fd) :
    Def P w K mg base "is_whole" (top 5) 1 ["thing"] M_is_whole := by
  refine def_of (k := 0) (B := B_is_whole) false hm U sc_is_whole (fun cdv A outer s H E c => ?_) does_is_whole
  unfold B_is_whole
  exact (js_one (js_ret (je_and (je_callB cr_gIsi (by rfl) T.b_isinstance bb_isinstance (jl_cons (je_var 0) (jl_cons (je_ty .int (by rfl) T.b_int bb_int) jl_nil))) (je_one (je_not (je_callB cr_gIsi (by rfl) T.b_isinstance bb_isinstance (jl_cons (je_var 0) (jl_cons (je_ty .bool (by rfl) T.b_bool bb_bool) jl_nil))))))))
abbrev N_is_within : List Str := ["thing", "low", "high"]
theorem sc_is_within : FnScope N_is_within ["thing", "low", "high"] (defScope (top 6)) := ⟨rfl, rfl, rfl, by decide +kernel, rfl, by decide +kernel, by decide +kernel⟩
theorem d_is_within {P : Program} {w : World} {K : PySem.W.Frag} {mg : Str → Option Value} {base : Heap} {f : Addr} {fd : FuncData} (T : Txt mg) (hm : mg "is_within" = some (.ref f)) (U : Fun K "is_within" "is_within" (top 6) f fd) (d_is_whole : Def P w K mg base "is_whole" (top 5) 1 ["thing"] M_is_whole) :
    Def P w K mg base "is_within" (top 6) 2 ["thing", "low", "high"] M_is_within := by
  refine def_of (k := 1) (B := B_is_within) false hm U sc_is_within (fun cdv A outer s H E c => ?_) does_is_within
  unfold B_is_within
  exact (js_one (js_ret (je_and (je_call d_is_whole c (by decide) (by rfl) (jl_cons (je_var 0) jl_nil) (fun _ _ _ _ _ _ us hl => match us, hl with | [_], _ => rfl) rfl (hL := (len_cons len_nil))) (je_one (je_chain op_gLe op_gLe (je_var 1) (je_var 0) (je_var 2))))))
abbrev N_is_tree : List Str := ["thing", "number", "below"]
theorem sc_is_tree : FnScope N_is_tree ["thing"] (defScope (top 7)) := ⟨rfl, rfl, rfl, by decide +kernel, rfl, by decide +kernel, by decide +kernel⟩
theorem d_is_tree {P : Program} {w : World} {K : PySem.W.Frag} {mg : Str → Option Value} {base : Heap} {f : Addr} {fd : FuncData} (T : Txt mg) (hm : mg "is_tree" = some (.ref f)) (U : Fun K "is_tree" "is_tree" (top 7) f fd) (d_is_within : Def P w K mg base "is_within" (top 6) 2 ["thing", "low", "high"] M_is_within) :
    Def P w K mg base "is_tree" (top 7) 3 ["thing"] M_is_tree := by
  refine def_of (k := 2) (B := B_is_tree) false hm U sc_is_tree (fun cdv A outer s H E c => ?_) does_is_tree
  unfold B_is_tree
  exact (js_cons (js_if (jb_w (jw_or (jb_not (jb_val (je_callB cr_gIsi (by rfl) T.b_isinstance bb_isinstance (jl_cons (je_var 0) (jl_cons (je_ty .tuple (by rfl) T.b_tuple bb_tuple) jl_nil))))) (jw_or1 (jb_cmp (hg := fun _ _ _ _ _ => bl_gCmp) op_gGe (je_callB cr_gLen (by rfl) T.b_len bb_len (jl_cons (je_var 0) jl_nil)) (je_gint1 (by rfl) T.g_MOST_PLACES))))) (js_one (js_ret je_bl)) js_nil)
    (js_one (js_ret (je_callB (cr_gAll c.calm) (by rfl) T.b_all bb_all (jl_cons (je_lc c.calm sc_is_tree.nd (own := [("number", 1), ("below", 2)]) (ji_enum (by rfl) T.b_enumerate (jl_cons (je_var 0) jl_nil)) (blkOk_by (N := N_is_tree) (sc := defScope (top 7)) (by decide +kernel)) (fun _ _ _ _ _ => (jg_tup (c.blk _ _ _ _ _).calm (jgs_cons (jg_name (i := 1) (by decide) sc_is_tree.nd rfl (by first | exact Or.inl rfl | exact Or.inr rfl)) (jgs_cons (jg_name (i := 2) (by decide) sc_is_tree.nd rfl (by first | exact Or.inl rfl | exact Or.inr rfl)) jgs_nil)))) (fun _ _ _ _ _ => pts_yes) (fun _ _ _ _ _ => (je_call d_is_within (c.blk _ _ _ _ _) (by decide) (by rfl) (jl_cons (je_var 2) (jl_cons je_int (jl_cons (je_var 1) jl_nil))) (fun _ _ _ _ _ _ us hl => match us, hl with | [_, _, _], _ => rfl) rfl (hL := (len_cons (len_cons (len_cons len_nil))))))) jl_nil)))))
abbrev N_check_tree : List Str := ["thing"]
theorem sc_check_tree : FnScope N_check_tree ["thing"] (defScope (top 8)) := ⟨rfl, rfl, rfl, by decide +kernel, rfl, by decide +kernel, by decide +kernel⟩
theorem d_check_tree {P : Program} {w : World} {K : PySem.W.Frag} {mg : Str → Option Value} {base : Heap} {f : Addr} {fd : FuncData} (T : Txt mg) (hm : mg "check_tree" = some (.ref f)) (U : Fun K "check_tree" "check_tree" (top 8) f fd) (d_is_tree : Def P w K mg base "is_tree" (top 7) 3 ["thing"] M_is_tree) :
    Def P w K mg base "check_tree" (top 8) 4 ["thing"] M_check_tree := by
  refine def_of (k := 3) (B := B_check_tree) false hm U sc_check_tree (fun cdv A outer s H E c => ?_) does_check_tree
  unfold B_check_tree
  exact (js_one (js_if (jb_not (jb_val (je_call d_is_tree c (by decide) (by rfl) (jl_cons (je_var 0) jl_nil) (fun _ _ _ _ _ _ us hl => match us, hl with | [_], _ => rfl) rfl (hL := (len_cons len_nil))))) (js_one js_never) js_nil))
abbrev N_places : List Str := ["tree"]
theorem sc_places : FnScope N_places ["tree"] (defScope (top 9)) := ⟨rfl, rfl, rfl, by decide +kernel, rfl, by decide +kernel, by decide +kernel⟩
theorem d_places {P : Program} {w : World} {K : PySem.W.Frag} {mg : Str → Option Value} {base : Heap} {f : Addr} {fd : FuncData} (T : Txt mg) (hm : mg "places" = some (.ref f)) (U : Fun K "places" "places" (top 9) f fd) (d_check_tree : Def P w K mg base "check_tree" (top 8) 4 ["thing"] M_check_tree) :
    Def P w K mg base "places" (top 9) 5 ["tree"] M_places := by
  refine def_of (k := 4) (B := B_places) false hm U sc_places (fun cdv A outer s H E c => ?_) does_places
  unfold B_places
  exact (js_cons (js_expr (je_call d_check_tree c (by decide) (by rfl) (jl_cons (je_var 0) jl_nil) (fun _ _ _ _ _ _ us hl => match us, hl with | [_], _ => rfl) rfl (hL := (len_cons len_nil))))
    (js_one (js_ret (je_op op_gAdd (je_callB cr_gLen (by rfl) T.b_len bb_len (jl_cons (je_var 0) jl_nil)) je_int))))
abbrev N__law_cell : List Str := ["_law_script", "_law_k", "_law_state", "_law_cell_here"]
theorem sc__law_cell : FnScope N__law_cell ["_law_script", "_law_k"] (defScope (top 11)) := ⟨rfl, rfl, rfl, by decide +kernel, rfl, by decide +kernel, by decide +kernel⟩
theorem d__law_cell {P : Program} {w : World} {K : PySem.W.Frag} {mg : Str → Option Value} {base : Heap} {f : Addr} {fd : FuncData} (T : Txt mg) (hm : mg "_law_cell" = some (.ref f)) (U : Fun K "_law_cell" "_law_cell" (top 11) f fd) :
    Def P w K mg base "_law_cell" (top 11) 1 ["_law_script", "_law_k"] M__law_cell := by
  refine def_of (k := 0) (B := B__law_cell) false hm U sc__law_cell (fun cdv A outer s H E c => ?_) does__law_cell
  unfold B__law_cell
  exact (js_cons (js_if (jb_cmp (hg := fun _ _ _ _ _ => bl_gCmp) op_gLt (je_var 1) (je_callB cr_gLen (by rfl) T.b_len bb_len (jl_cons (je_var 0) jl_nil))) (js_one (js_ret (je_ix (je_var 0) (je_var 1) (fun _ _ => rfl)))) js_nil)
    (js_cons (js_set (i := 2) sc__law_cell.nd rfl (by first | exact Or.inl rfl | exact Or.inr rfl) (je_op op_gMod (je_op op_gMul je_int (je_op op_gAdd (je_op op_gAdd (je_op op_gMul (je_var 1) (je_var 1)) (je_op op_gMul je_int (je_var 1))) je_int)) je_int))
    (js_cons (js_for (vs := [3]) PassesOwn.never c.calm (ji_seq (je_slice (je_var 0) jo_none (jo_some je_int))) (jg_name (i := 3) (by decide) sc__law_cell.nd rfl (by first | exact Or.inl rfl | exact Or.inr rfl)) (js_one (js_set (i := 2) sc__law_cell.nd rfl (by first | exact Or.inl rfl | exact Or.inr rfl) (je_op op_gMod (je_op op_gAdd (je_op op_gMul (je_var 2) je_int) (je_var 3)) je_int))))
    (js_one (js_ret (je_var 2))))))
abbrev N__law_purse : List Str := ["_law_cell_here"]
theorem sc__law_purse : FnScope N__law_purse ["_law_cell_here"] (defScope (top 12)) := ⟨rfl, rfl, rfl, by decide +kernel, rfl, by decide +kernel, by decide +kernel⟩
theorem d__law_purse {P : Program} {w : World} {K : PySem.W.Frag} {mg : Str → Option Value} {base : Heap} {f : Addr} {fd : FuncData} (T : Txt mg) (hm : mg "_law_purse" = some (.ref f)) (U : Fun K "_law_purse" "_law_purse" (top 12) f fd) :
    Def P w K mg base "_law_purse" (top 12) 1 ["_law_cell_here"] M__law_purse := by
  refine def_of (k := 0) (B := B__law_purse) true hm U sc__law_purse (fun cdv A outer s H E c => ?_) does__law_purse
  unfold B__law_purse
  exact (js_one (js_ret (je_cell (jl_cons (je_op op_gAdd (je_op op_gMul (je_op op_gMod (je_var 0) je_int) je_int) je_int) (jl_cons (je_ix (je_lst (jl_cons je_int (jl_cons (je_var 0) jl_nil))) (je_callT cr_gInt (by rfl) T.b_int bb_int (jl_cons (je_cmp op_gGe (je_var 0) (je_op op_gPow je_int je_int)) jl_nil)) (fun _ _ => rfl)) (jl_cons je_int jl_nil))))))
abbrev N__law_pick : List Str := ["_law_purse_here", "_law_count", "_law_state", "_law_taken"]
theorem sc__law_pick : FnScope N__law_pick ["_law_purse_here", "_law_count"] (defScope (top 13)) := ⟨rfl, rfl, rfl, by decide +kernel, rfl, by decide +kernel, by decide +kernel⟩
theorem d__law_pick {P : Program} {w : World} {K : PySem.W.Frag} {mg : Str → Option Value} {base : Heap} {f : Addr} {fd : FuncData} (T : Txt mg) (hm : mg "_law_pick" = some (.ref f)) (U : Fun K "_law_pick" "_law_pick" (top 13) f fd) :
    Def P w K mg base "_law_pick" (top 13) 1 ["_law_purse_here", "_law_count"] M__law_pick := by
  refine def_of (k := 0) (B := B__law_pick) false hm U sc__law_pick (fun cdv A outer s H E c => ?_) does__law_pick
  unfold B__law_pick
  exact (js_cons (js_setI (je_op op_gAdd (je_ix (je_var 0) je_int (fun _ _ => rfl)) je_int) (je_var 0) je_int)
    (js_cons (js_set (i := 2) sc__law_pick.nd rfl (by first | exact Or.inl rfl | exact Or.inr rfl) (je_op op_gMod (je_ix (je_var 0) je_int (fun _ _ => rfl)) je_int))
    (js_cons (js_setI (je_op op_gAdd (je_op op_gMul (je_var 2) (je_op op_gAdd (je_op op_gMod (je_var 2) je_int) je_int)) (je_op op_gMul je_int (je_ix (je_var 0) je_int (fun _ _ => rfl)))) (je_var 0) je_int)
    (js_cons (js_if (jb_cmp (hg := fun _ _ _ _ _ => bl_gCmp) op_gGt (je_ix (je_var 0) je_int (fun _ _ => rfl)) je_int) (js_cons (js_set (i := 3) sc__law_pick.nd rfl (by first | exact Or.inl rfl | exact Or.inr rfl) (je_op op_gMod (je_ix (je_var 0) je_int (fun _ _ => rfl)) (je_var 1)))
    (js_cons (js_setI (je_op op_gDiv (je_ix (je_var 0) je_int (fun _ _ => rfl)) (je_var 1)) (je_var 0) je_int)
    (js_one (js_ret (je_var 3))))) js_nil)
    (js_one (js_ret (je_op op_gMod (je_op op_gDiv (je_op op_gMod (je_ix (je_var 0) je_int (fun _ _ => rfl)) je_int) je_int) (je_var 1))))))))
abbrev N__law_wood : List Str := ["_law_purse_here", "_law_most", "_law_shape", "_law_count", "_law_k"]
theorem sc__law_wood : FnScope N__law_wood ["_law_purse_here", "_law_most"] (defScope (top 14)) := ⟨rfl, rfl, rfl, by decide +kernel, rfl, by decide +kernel, by decide +kernel⟩
theorem d__law_wood {P : Program} {w : World} {K : PySem.W.Frag} {mg : Str → Option Value} {base : Heap} {f : Addr} {fd : FuncData} (T : Txt mg) (hm : mg "_law_wood" = some (.ref f)) (U : Fun K "_law_wood" "_law_wood" (top 14) f fd) (d__law_pick : Def P w K mg base "_law_pick" (top 13) 1 ["_law_purse_here", "_law_count"] M__law_pick) :
    Def P w K mg base "_law_wood" (top 14) 2 ["_law_purse_here", "_law_most"] M__law_wood := by
  refine def_of (k := 1) (B := B__law_wood) false hm U sc__law_wood (fun cdv A outer s H E c => ?_) does__law_wood
  unfold B__law_wood
  exact (js_cons (js_asg (vs := [2, 3]) (je_tup (jl_cons (je_call d__law_pick c (by decide) (by rfl) (jl_cons (je_var 0) (jl_cons je_int jl_nil)) (fun _ _ _ _ _ _ us hl => match us, hl with | [_, _], _ => rfl) rfl (hL := (len_cons (len_cons len_nil)))) (jl_cons (je_op op_gAdd je_int (je_call d__law_pick c (by decide) (by rfl) (jl_cons (je_var 0) (jl_cons (je_var 1) jl_nil)) (fun _ _ _ _ _ _ us hl => match us, hl with | [_, _], _ => rfl) rfl (hL := (len_cons (len_cons len_nil))))) jl_nil))) (jg_tup c.calm (jgs_cons (jg_name (i := 2) (by decide) sc__law_wood.nd rfl (by first | exact Or.inl rfl | exact Or.inr rfl)) (jgs_cons (jg_name (i := 3) (by decide) sc__law_wood.nd rfl (by first | exact Or.inl rfl | exact Or.inr rfl)) jgs_nil))))
    (js_one (js_ret (je_callT cr_gTuple (by rfl) T.b_tuple bb_tuple (jl_cons (je_lc c.calm sc__law_wood.nd (own := [("_law_k", 4)]) (ji_range1 (by rfl) T.b_range (jl_cons (je_op op_gSub (je_var 3) je_int) jl_nil)) (blkOk_by (N := N__law_wood) (sc := defScope (top 14)) (by decide +kernel)) (fun _ _ _ _ _ => (jg_name (i := 4) (by decide) sc__law_wood.nd rfl (by first | exact Or.inl rfl | exact Or.inr rfl))) (fun _ _ _ _ _ => pts_yes) (fun _ _ _ _ _ => (je_ix (je_lst (jl_cons (je_var 4) (jl_cons je_int (jl_cons (je_call d__law_pick (c.blk _ _ _ _ _) (by decide) (by rfl) (jl_cons (je_var 0) (jl_cons (je_op op_gAdd (je_var 4) je_int) jl_nil)) (fun _ _ _ _ _ _ us hl => match us, hl with | [_, _], _ => rfl) rfl (hL := (len_cons (len_cons len_nil)))) jl_nil)))) (je_var 2) (fun _ _ => rfl)))) jl_nil)))))
abbrev N__law_bent : List Str := ["_law_purse_here", "_law_numbers", "_law_at", "_law_odd"]
theorem sc__law_bent : FnScope N__law_bent ["_law_purse_here", "_law_numbers"] (defScope (top 15)) := ⟨rfl, rfl, rfl, by decide +kernel, rfl, by decide +kernel, by decide +kernel⟩
theorem d__law_bent {P : Program} {w : World} {K : PySem.W.Frag} {mg : Str → Option Value} {base : Heap} {f : Addr} {fd : FuncData} (T : Txt mg) (hm : mg "_law_bent" = some (.ref f)) (U : Fun K "_law_bent" "_law_bent" (top 15) f fd) (d__law_pick : Def P w K mg base "_law_pick" (top 13) 1 ["_law_purse_here", "_law_count"] M__law_pick) :
    Def P w K mg base "_law_bent" (top 15) 2 ["_law_purse_here", "_law_numbers"] M__law_bent := by
  refine def_of (k := 1) (B := B__law_bent) false hm U sc__law_bent (fun cdv A outer s H E c => ?_) does__law_bent
  unfold B__law_bent
  exact (js_cons (js_if (jb_w (jw_or (jb_cmp (hg := fun _ _ _ _ _ => bl_gEq) (op_gEq c) (je_var 1) (je_tup jl_nil)) (jw_or1 (jb_cmp (hg := fun _ _ _ _ _ => bl_gEq) (op_gEq c) (je_call d__law_pick c (by decide) (by rfl) (jl_cons (je_var 0) (jl_cons je_int jl_nil)) (fun _ _ _ _ _ _ us hl => match us, hl with | [_, _], _ => rfl) rfl (hL := (len_cons (len_cons len_nil)))) je_int)))) (js_one (js_ret (je_var 1))) js_nil)
    (js_cons (js_set (i := 2) sc__law_bent.nd rfl (by first | exact Or.inl rfl | exact Or.inr rfl) (je_call d__law_pick c (by decide) (by rfl) (jl_cons (je_var 0) (jl_cons (je_callB cr_gLen (by rfl) T.b_len bb_len (jl_cons (je_var 1) jl_nil)) jl_nil)) (fun _ _ _ _ _ _ us hl => match us, hl with | [_, _], _ => rfl) rfl (hL := (len_cons (len_cons len_nil)))))
    (js_cons (js_set (i := 3) sc__law_bent.nd rfl (by first | exact Or.inl rfl | exact Or.inr rfl) (je_ix (je_lst (jl_cons (je_op op_gAdd (je_var 2) je_int) (jl_cons (je_un un_gNeg je_int) (jl_cons je_bl (jl_cons je_bl (jl_cons je_str (jl_cons je_non (jl_cons (je_tup (jl_cons je_int jl_nil)) (jl_cons (je_lst (jl_cons je_int jl_nil)) (jl_cons (je_op op_gPow je_int je_int) (jl_cons je_dict0 (jl_cons (je_var 2) (jl_cons (je_op op_gAdd (je_var 2) je_int) jl_nil))))))))))))) (je_call d__law_pick c (by decide) (by rfl) (jl_cons (je_var 0) (jl_cons je_int jl_nil)) (fun _ _ _ _ _ _ us hl => match us, hl with | [_, _], _ => rfl) rfl (hL := (len_cons (len_cons len_nil)))) (fun _ _ => rfl)))
    (js_one (js_ret (je_op op_gAdd (je_op op_gAdd (je_slice (je_var 1) jo_none (jo_some (je_var 2))) (je_tup (jl_cons (je_var 3) jl_nil))) (je_slice (je_var 1) (jo_some (je_op op_gAdd (je_var 2) je_int)) jo_none)))))))
abbrev N__law_due : List Str := ["_law_shown", "_law_whole", "_law_part", "_law_k"]
theorem sc__law_due : FnScope N__law_due ["_law_shown"] (defScope (top 16)) := ⟨rfl, rfl, rfl, by decide +kernel, rfl, by decide +kernel, by decide +kernel⟩
theorem d__law_due {P : Program} {w : World} {K : PySem.W.Frag} {mg : Str → Option Value} {base : Heap} {f : Addr} {fd : FuncData} (T : Txt mg) (hm : mg "_law_due" = some (.ref f)) (U : Fun K "_law_due" "_law_due" (top 16) f fd) :
    Def P w K mg base "_law_due" (top 16) 1 ["_law_shown"] M__law_due := by
  refine def_of (k := 0) (B := B__law_due) false hm U sc__law_due (fun cdv A outer s H E c => ?_) does__law_due
  unfold B__law_due
  exact (js_cons (js_if (jb_w (jw_or (jb_not (jb_val (je_callB cr_gIsi (by rfl) T.b_isinstance bb_isinstance (jl_cons (je_var 0) (jl_cons (je_ty .tuple (by rfl) T.b_tuple bb_tuple) jl_nil))))) (jw_or1 (jb_cmp (hg := fun _ _ _ _ _ => bl_gCmp) op_gGt (je_callB cr_gLen (by rfl) T.b_len bb_len (jl_cons (je_var 0) jl_nil)) je_int)))) (js_one (js_ret je_bl)) js_nil)
    (js_cons (js_set (i := 1) sc__law_due.nd rfl (by first | exact Or.inl rfl | exact Or.inr rfl) (je_lc c.calm sc__law_due.nd (own := [("_law_part", 2)]) (ji_seq (je_var 0)) (blkOk_by (N := N__law_due) (sc := defScope (top 16)) (by decide +kernel)) (fun _ _ _ _ _ => (jg_name (i := 2) (by decide) sc__law_due.nd rfl (by first | exact Or.inl rfl | exact Or.inr rfl))) (fun _ _ _ _ _ => pts_yes) (fun _ _ _ _ _ => (je_and (je_callB cr_gIsi (by rfl) T.b_isinstance bb_isinstance (jl_cons (je_var 2) (jl_cons (je_ty .int (by rfl) T.b_int bb_int) jl_nil))) (je_one (je_not (je_callB cr_gIsi (by rfl) T.b_isinstance bb_isinstance (jl_cons (je_var 2) (jl_cons (je_ty .bool (by rfl) T.b_bool bb_bool) jl_nil)))))))))
    (js_one (js_ret (je_callB (cr_gAll c.calm) (by rfl) T.b_all bb_all (jl_cons (je_lc c.calm sc__law_due.nd (own := [("_law_k", 3)]) (ji_range1 (by rfl) T.b_range (jl_cons (je_callB cr_gLen (by rfl) T.b_len bb_len (jl_cons (je_var 0) jl_nil)) jl_nil)) (blkOk_by (N := N__law_due) (sc := defScope (top 16)) (by decide +kernel)) (fun _ _ _ _ _ => (jg_name (i := 3) (by decide) sc__law_due.nd rfl (by first | exact Or.inl rfl | exact Or.inr rfl))) (fun _ _ _ _ _ => pts_yes) (fun _ _ _ _ _ => (je_and (je_ix (je_var 1) (je_var 3) (fun _ _ => rfl)) (je_one (je_chain op_gLe op_gLe je_int (je_ix (je_var 0) (je_var 3) (fun _ _ => rfl)) (je_var 3)))))) jl_nil))))))
abbrev N__law_same : List Str := ["_law_shown", "_law_told", "_law_due_here", "_law_kept"]
theorem sc__law_same : FnScope N__law_same ["_law_shown"] (defScope (top 17)) := ⟨rfl, rfl, rfl, by decide +kernel, rfl, by decide +kernel, by decide +kernel⟩
theorem d__law_same {P : Program} {w : World} {K : PySem.W.Frag} {mg : Str → Option Value} {base : Heap} {f : Addr} {fd : FuncData} (T : Txt mg) (hm : mg "_law_same" = some (.ref f)) (U : Fun K "_law_same" "_law_same" (top 17) f fd) (d_is_tree : Def P w K mg base "is_tree" (top 7) 3 ["thing"] M_is_tree) (d_places : Def P w K mg base "places" (top 9) 5 ["tree"] M_places) (d__law_due : Def P w K mg base "_law_due" (top 16) 1 ["_law_shown"] M__law_due) :
    Def P w K mg base "_law_same" (top 17) 6 ["_law_shown"] M__law_same := by
  refine def_of (k := 5) (B := B__law_same) false hm U sc__law_same (fun cdv A outer s H E c => ?_) does__law_same
  unfold B__law_same
  exact (js_cons (js_par (i := 2) (j := 3) c.calm sc__law_same.nd rfl rfl (by decide) rfl rfl (jl_cons (je_call d__law_due c (by decide) (by rfl) (jl_cons (je_var 0) jl_nil) (fun _ _ _ _ _ _ us hl => match us, hl with | [_], _ => rfl) rfl (hL := (len_cons len_nil))) (jl_cons (je_callB (cr_gRepr c) (by rfl) T.b_repr bb_repr (jl_cons (je_var 0) jl_nil)) jl_nil)) (by rfl))
    (js_cons (js_set (i := 1) sc__law_same.nd rfl (by first | exact Or.inl rfl | exact Or.inr rfl) (je_lst (jl_cons (je_call d_is_tree c (by decide) (by rfl) (jl_cons (je_var 0) jl_nil) (fun _ _ _ _ _ _ us hl => match us, hl with | [_], _ => rfl) rfl (hL := (len_cons len_nil))) (jl_cons (je_callK0 [0] d_is_tree c (by decide) (by rfl) (jk_cons (je_var 0) jk_nil) (fun _ _ _ _ _ _ ws hl => match ws, hl with | [_], _ => rfl) (fun ws hl => match ws, hl with | [_], _ => rfl) (len_cons len_nil)) (jl_cons (je_call d_is_tree c (by decide) (by rfl) (jl_cons (je_var 0) jl_nil) (fun _ _ _ _ _ _ us hl => match us, hl with | [_], _ => rfl) rfl (hL := (len_cons len_nil))) jl_nil)))))
    (js_cons (js_if (jb_w (jw_or (jb_cmp (hg := fun _ _ _ _ _ => bl_gNe) (op_gNe c) (je_callB (cr_gRepr c) (by rfl) T.b_repr bb_repr (jl_cons (je_var 1) jl_nil)) (je_callB (cr_gRepr c) (by rfl) T.b_repr bb_repr (jl_cons (je_op op_gMul (je_lst (jl_cons (je_var 2) jl_nil)) je_int) jl_nil))) (jw_or1 (jb_cmp (hg := fun _ _ _ _ _ => bl_gNe) (op_gNe c) (je_callB (cr_gRepr c) (by rfl) T.b_repr bb_repr (jl_cons (je_var 0) jl_nil)) (je_var 3))))) (js_one (js_ret je_bl)) js_nil)
    (js_one (js_ret (je_or (je_not (je_var 2)) (je_one (je_cmp (op_gEq c) (je_callB (cr_gRepr c) (by rfl) T.b_repr bb_repr (jl_cons (je_lst (jl_cons (je_call d_places c (by decide) (by rfl) (jl_cons (je_var 0) jl_nil) (fun _ _ _ _ _ _ us hl => match us, hl with | [_], _ => rfl) rfl (hL := (len_cons len_nil))) (jl_cons (je_callK0 [0] d_places c (by decide) (by rfl) (jk_cons (je_var 0) jk_nil) (fun _ _ _ _ _ _ ws hl => match ws, hl with | [_], _ => rfl) (fun ws hl => match ws, hl with | [_], _ => rfl) (len_cons len_nil)) jl_nil))) jl_nil)) (je_callB (cr_gRepr c) (by rfl) T.b_repr bb_repr (jl_cons (je_op op_gMul (je_lst (jl_cons (je_op op_gAdd (je_callB cr_gLen (by rfl) T.b_len bb_len (jl_cons (je_var 0) jl_nil)) je_int) jl_nil)) je_int) jl_nil))))))))))
abbrev N__law_right : List Str := ["_law_purse_here", "_law_turn", "_law_bare", "_law_bent_here", "_law_shown"]
theorem sc__law_right : FnScope N__law_right ["_law_purse_here"] (defScope (top 18)) := ⟨rfl, rfl, rfl, by decide +kernel, rfl, by decide +kernel, by decide +kernel⟩
theorem d__law_right {P : Program} {w : World} {K : PySem.W.Frag} {mg : Str → Option Value} {base : Heap} {f : Addr} {fd : FuncData} (T : Txt mg) (hm : mg "_law_right" = some (.ref f)) (U : Fun K "_law_right" "_law_right" (top 18) f fd) (d__law_wood : Def P w K mg base "_law_wood" (top 14) 2 ["_law_purse_here", "_law_most"] M__law_wood) (d__law_bent : Def P w K mg base "_law_bent" (top 15) 2 ["_law_purse_here", "_law_numbers"] M__law_bent) (d__law_same : Def P w K mg base "_law_same" (top 17) 6 ["_law_shown"] M__law_same) :
    Def P w K mg base "_law_right" (top 18) 7 ["_law_purse_here"] M__law_right := by
  refine def_of (k := 6) (B := B__law_right) false hm U sc__law_right (fun cdv A outer s H E c => ?_) does__law_right
  unfold B__law_right
  exact (js_cons (js_for (vs := [1]) PassesOwn.never c.calm (ji_range1 (by rfl) T.b_range (jl_cons je_int jl_nil)) (jg_name (i := 1) (by decide) sc__law_right.nd rfl (by first | exact Or.inl rfl | exact Or.inr rfl)) (js_cons (js_set (i := 2) sc__law_right.nd rfl (by first | exact Or.inl rfl | exact Or.inr rfl) (je_call d__law_wood c (by decide) (by rfl) (jl_cons (je_var 0) (jl_cons je_int jl_nil)) (fun _ _ _ _ _ _ us hl => match us, hl with | [_, _], _ => rfl) rfl (hL := (len_cons (len_cons len_nil)))))
    (js_cons (js_set (i := 3) sc__law_right.nd rfl (by first | exact Or.inl rfl | exact Or.inr rfl) (je_call d__law_bent c (by decide) (by rfl) (jl_cons (je_var 0) (jl_cons (je_var 2) jl_nil)) (fun _ _ _ _ _ _ us hl => match us, hl with | [_, _], _ => rfl) rfl (hL := (len_cons (len_cons len_nil)))))
    (js_one (js_for (vs := [4]) PassesOwn.never c.calm (ji_seq (je_lst (jl_cons (je_var 2) (jl_cons (je_var 3) (jl_cons (je_callT cr_gList (by rfl) T.b_list bb_list (jl_cons (je_var 2) jl_nil)) (jl_cons (je_lst (jl_cons (je_var 3) jl_nil)) (jl_cons (je_tup (jl_cons (je_var 2) jl_nil)) (jl_cons (je_op op_gAdd (je_var 2) (je_var 3)) (jl_cons (je_rev (je_var 3)) jl_nil))))))))) (jg_name (i := 4) (by decide) sc__law_right.nd rfl (by first | exact Or.inl rfl | exact Or.inr rfl)) (js_one (js_if (jb_not (jb_val (je_call d__law_same c (by decide) (by rfl) (jl_cons (je_var 4) jl_nil) (fun _ _ _ _ _ _ us hl => match us, hl with | [_], _ => rfl) rfl (hL := (len_cons len_nil))))) (js_one (js_ret je_bl)) js_nil)))))))
    (js_one (js_ret je_bl)))
abbrev N_law : List Str := ["_law_script", "_law_odd", "_law_k", "_law_shown"]
theorem sc_law : FnScope N_law ["_law_script"] (defScope (top 19)) := ⟨rfl, rfl, rfl, by decide +kernel, rfl, by decide +kernel, by decide +kernel⟩
theorem d_law {P : Program} {w : World} {K : PySem.W.Frag} {mg : Str → Option Value} {base : Heap} {f : Addr} {fd : FuncData} (T : Txt mg) (hm : mg "law" = some (.ref f)) (U : Fun K "law" "law" (top 19) f fd) (d__law_cell : Def P w K mg base "_law_cell" (top 11) 1 ["_law_script", "_law_k"] M__law_cell) (d__law_purse : Def P w K mg base "_law_purse" (top 12) 1 ["_law_cell_here"] M__law_purse) (d__law_same : Def P w K mg base "_law_same" (top 17) 6 ["_law_shown"] M__law_same) (d__law_right : Def P w K mg base "_law_right" (top 18) 7 ["_law_purse_here"] M__law_right) :
    Def P w K mg base "law" (top 19) 8 ["_law_script"] M_law := by
  refine def_of (k := 7) (B := B_law) false hm U sc_law (fun cdv A outer s H E c => ?_) does_law
  unfold B_law
  exact (js_cons (js_set (i := 1) sc_law.nd rfl (by first | exact Or.inl rfl | exact Or.inr rfl) (je_lst (jl_cons je_non (jl_cons je_bl (jl_cons je_int (jl_cons je_int (jl_cons je_str (jl_cons je_str (jl_cons (je_lst jl_nil) (jl_cons je_dict0 (jl_cons je_dictI (jl_cons (je_tup (jl_cons je_non jl_nil)) (jl_cons (je_tup (jl_cons (je_tup jl_nil) jl_nil)) (jl_cons (je_tup (jl_cons (je_lst jl_nil) jl_nil)) (jl_cons (je_tup (jl_cons je_int (jl_cons je_int (jl_cons je_int jl_nil)))) jl_nil)))))))))))))))
    (js_cons (js_set (i := 1) sc_law.nd rfl (by first | exact Or.inl rfl | exact Or.inr rfl) (je_op op_gAdd (je_var 1) (je_lst (jl_cons (je_tupR c.calm (by rfl) T.b_tuple (by rfl) T.b_range je_int) (jl_cons (je_op op_gMul (je_tup (jl_cons je_int jl_nil)) je_int) jl_nil)))))
    (js_cons (js_set (i := 1) sc_law.nd rfl (by first | exact Or.inl rfl | exact Or.inr rfl) (je_op op_gAdd (je_var 1) (je_lst (jl_cons (je_op op_gMul (je_tup (jl_cons je_int jl_nil)) je_int) (jl_cons (je_tupR c.calm (by rfl) T.b_tuple (by rfl) T.b_range je_int) (jl_cons (je_tup (jl_cons je_int jl_nil)) (jl_cons (je_tup (jl_cons je_bl jl_nil)) (jl_cons (je_tup (jl_cons je_int jl_nil)) (jl_cons (je_tup (jl_cons je_int (jl_cons je_int jl_nil))) (jl_cons (je_tup (jl_cons je_int (jl_cons je_bl jl_nil))) (jl_cons (je_tup (jl_cons je_int (jl_cons je_int (jl_cons (je_un un_gNeg je_int) jl_nil)))) (jl_cons (je_tup (jl_cons je_int (jl_cons (je_op op_gPow je_int je_int) jl_nil))) jl_nil))))))))))))
    (js_cons (js_if (jb_not (jb_val (je_callB (cr_gAll c.calm) (by rfl) T.b_all bb_all (jl_cons (je_lc c.calm sc_law.nd (own := [("_law_shown", 3)]) (ji_seq (je_var 1)) (blkOk_by (N := N_law) (sc := defScope (top 19)) (by decide +kernel)) (fun _ _ _ _ _ => (jg_name (i := 3) (by decide) sc_law.nd rfl (by first | exact Or.inl rfl | exact Or.inr rfl))) (fun _ _ _ _ _ => pts_yes) (fun _ _ _ _ _ => (je_call d__law_same (c.blk _ _ _ _ _) (by decide) (by rfl) (jl_cons (je_var 3) jl_nil) (fun _ _ _ _ _ _ us hl => match us, hl with | [_], _ => rfl) rfl (hL := (len_cons len_nil))))) jl_nil)))) (js_one (js_ret je_bl)) js_nil)
    (js_one (js_ret (je_callB (cr_gAll c.calm) (by rfl) T.b_all bb_all (jl_cons (je_lc c.calm sc_law.nd (own := [("_law_k", 2)]) (ji_range1 (by rfl) T.b_range (jl_cons (je_callB (cr_gMax c.calm) (by rfl) T.b_max bb_max (jl_cons je_int (jl_cons (je_callB (cr_gMin c.calm) (by rfl) T.b_min bb_min (jl_cons (je_callB cr_gLen (by rfl) T.b_len bb_len (jl_cons (je_var 0) jl_nil)) (jl_cons je_int jl_nil))) jl_nil))) jl_nil)) (blkOk_by (N := N_law) (sc := defScope (top 19)) (by decide +kernel)) (fun _ _ _ _ _ => (jg_name (i := 2) (by decide) sc_law.nd rfl (by first | exact Or.inl rfl | exact Or.inr rfl))) (fun _ _ _ _ _ => pts_yes) (fun _ _ _ _ _ => (je_call d__law_right (c.blk _ _ _ _ _) (by decide) (by rfl) (jl_cons (je_call d__law_purse (c.blk _ _ _ _ _) (by decide) (by rfl) (jl_cons (je_call d__law_cell (c.blk _ _ _ _ _) (by decide) (by rfl) (jl_cons (je_var 0) (jl_cons (je_var 2) jl_nil)) (fun _ _ _ _ _ _ us hl => match us, hl with | [_, _], _ => rfl) rfl (hL := (len_cons (len_cons len_nil)))) jl_nil) (fun _ _ _ _ _ _ us hl => match us, hl with | [_], _ => rfl) rfl (hL := (len_cons len_nil))) jl_nil) (fun _ _ _ _ _ _ us hl => match us, hl with | [_], _ => rfl) rfl (hL := (len_cons len_nil))))) jl_nil))))))))
theorem all_mk {P : Program} {w : World} {K : PySem.W.Frag} {h : Heap} {mg : Str → Option Value} (X : K.In h) (G : h.Ns mainGlobals mg)
    (zb_all : PySem.W.nsIn K mainGlobals "all" = some none)
    (zb_bool : PySem.W.nsIn K mainGlobals "bool" = some none)
    (zb_enumerate : PySem.W.nsIn K mainGlobals "enumerate" = some none)
    (zb_int : PySem.W.nsIn K mainGlobals "int" = some none)
    (zb_isinstance : PySem.W.nsIn K mainGlobals "isinstance" = some none)
    (zb_len : PySem.W.nsIn K mainGlobals "len" = some none)
    (zb_list : PySem.W.nsIn K mainGlobals "list" = some none)
    (zb_max : PySem.W.nsIn K mainGlobals "max" = some none)
    (zb_min : PySem.W.nsIn K mainGlobals "min" = some none)
    (zb_range : PySem.W.nsIn K mainGlobals "range" = some none)
    (zb_repr : PySem.W.nsIn K mainGlobals "repr" = some none)
    (zb_tuple : PySem.W.nsIn K mainGlobals "tuple" = some none)
    {tk_MOST_PLACES : Tok} (zg_MOST_PLACES : PySem.W.nsIn K mainGlobals "MOST_PLACES" = some (some (.int 12 tk_MOST_PLACES)))
    {f_is_whole : Addr} {od_is_whole an_is_whole : Option Addr} {sl_is_whole : Array (Option Value)} {oc_is_whole kV_is_whole dc_is_whole pm_is_whole cd_is_whole ct_is_whole : Value} (a_is_whole : PySem.W.nsIn K mainGlobals "is_whole" = some (some (.ref f_is_whole)))
    (l_is_whole : K.lookup f_is_whole = some ⟨oc_is_whole, od_is_whole, .func (PySem.W.fnOf "is_whole" "is_whole" (defArgs (top 5)) (defBody (top 5)) (defScope (top 5)) .none kV_is_whole dc_is_whole pm_is_whole an_is_whole cd_is_whole ct_is_whole), sl_is_whole⟩) (c_is_whole : PySem.W.codeIn K cd_is_whole "is_whole" = true) (k_is_whole : PySem.W.keepIn K (.ref f_is_whole) = true)
    {f_is_within : Addr} {od_is_within an_is_within : Option Addr} {sl_is_within : Array (Option Value)} {oc_is_within kV_is_within dc_is_within pm_is_within cd_is_within ct_is_within : Value} (a_is_within : PySem.W.nsIn K mainGlobals "is_within" = some (some (.ref f_is_within)))
    (l_is_within : K.lookup f_is_within = some ⟨oc_is_within, od_is_within, .func (PySem.W.fnOf "is_within" "is_within" (defArgs (top 6)) (defBody (top 6)) (defScope (top 6)) .none kV_is_within dc_is_within pm_is_within an_is_within cd_is_within ct_is_within), sl_is_within⟩) (c_is_within : PySem.W.codeIn K cd_is_within "is_within" = true) (k_is_within : PySem.W.keepIn K (.ref f_is_within) = true)
    {f_is_tree : Addr} {od_is_tree an_is_tree : Option Addr} {sl_is_tree : Array (Option Value)} {oc_is_tree kV_is_tree dc_is_tree pm_is_tree cd_is_tree ct_is_tree : Value} (a_is_tree : PySem.W.nsIn K mainGlobals "is_tree" = some (some (.ref f_is_tree)))
    (l_is_tree : K.lookup f_is_tree = some ⟨oc_is_tree, od_is_tree, .func (PySem.W.fnOf "is_tree" "is_tree" (defArgs (top 7)) (defBody (top 7)) (defScope (top 7)) .none kV_is_tree dc_is_tree pm_is_tree an_is_tree cd_is_tree ct_is_tree), sl_is_tree⟩) (c_is_tree : PySem.W.codeIn K cd_is_tree "is_tree" = true) (k_is_tree : PySem.W.keepIn K (.ref f_is_tree) = true)
    {f_check_tree : Addr} {od_check_tree an_check_tree : Option Addr} {sl_check_tree : Array (Option Value)} {oc_check_tree kV_check_tree dc_check_tree pm_check_tree cd_check_tree ct_check_tree : Value} (a_check_tree : PySem.W.nsIn K mainGlobals "check_tree" = some (some (.ref f_check_tree)))
    (l_check_tree : K.lookup f_check_tree = some ⟨oc_check_tree, od_check_tree, .func (PySem.W.fnOf "check_tree" "check_tree" (defArgs (top 8)) (defBody (top 8)) (defScope (top 8)) .none kV_check_tree dc_check_tree pm_check_tree an_check_tree cd_check_tree ct_check_tree), sl_check_tree⟩) (c_check_tree : PySem.W.codeIn K cd_check_tree "check_tree" = true) (k_check_tree : PySem.W.keepIn K (.ref f_check_tree) = true)
    {f_places : Addr} {od_places an_places : Option Addr} {sl_places : Array (Option Value)} {oc_places kV_places dc_places pm_places cd_places ct_places : Value} (a_places : PySem.W.nsIn K mainGlobals "places" = some (some (.ref f_places)))
    (l_places : K.lookup f_places = some ⟨oc_places, od_places, .func (PySem.W.fnOf "places" "places" (defArgs (top 9)) (defBody (top 9)) (defScope (top 9)) .none kV_places dc_places pm_places an_places cd_places ct_places), sl_places⟩) (c_places : PySem.W.codeIn K cd_places "places" = true) (k_places : PySem.W.keepIn K (.ref f_places) = true)
    {f__law_cell : Addr} {od__law_cell an__law_cell : Option Addr} {sl__law_cell : Array (Option Value)} {oc__law_cell kV__law_cell dc__law_cell pm__law_cell cd__law_cell ct__law_cell : Value} (a__law_cell : PySem.W.nsIn K mainGlobals "_law_cell" = some (some (.ref f__law_cell)))
    (l__law_cell : K.lookup f__law_cell = some ⟨oc__law_cell, od__law_cell, .func (PySem.W.fnOf "_law_cell" "_law_cell" (defArgs (top 11)) (defBody (top 11)) (defScope (top 11)) .none kV__law_cell dc__law_cell pm__law_cell an__law_cell cd__law_cell ct__law_cell), sl__law_cell⟩) (c__law_cell : PySem.W.codeIn K cd__law_cell "_law_cell" = true) (k__law_cell : PySem.W.keepIn K (.ref f__law_cell) = true)
    {f__law_purse : Addr} {od__law_purse an__law_purse : Option Addr} {sl__law_purse : Array (Option Value)} {oc__law_purse kV__law_purse dc__law_purse pm__law_purse cd__law_purse ct__law_purse : Value} (a__law_purse : PySem.W.nsIn K mainGlobals "_law_purse" = some (some (.ref f__law_purse)))
    (l__law_purse : K.lookup f__law_purse = some ⟨oc__law_purse, od__law_purse, .func (PySem.W.fnOf "_law_purse" "_law_purse" (defArgs (top 12)) (defBody (top 12)) (defScope (top 12)) .none kV__law_purse dc__law_purse pm__law_purse an__law_purse cd__law_purse ct__law_purse), sl__law_purse⟩) (c__law_purse : PySem.W.codeIn K cd__law_purse "_law_purse" = true) (k__law_purse : PySem.W.keepIn K (.ref f__law_purse) = true)
    {f__law_pick : Addr} {od__law_pick an__law_pick : Option Addr} {sl__law_pick : Array (Option Value)} {oc__law_pick kV__law_pick dc__law_pick pm__law_pick cd__law_pick ct__law_pick : Value} (a__law_pick : PySem.W.nsIn K mainGlobals "_law_pick" = some (some (.ref f__law_pick)))
    (l__law_pick : K.lookup f__law_pick = some ⟨oc__law_pick, od__law_pick, .func (PySem.W.fnOf "_law_pick" "_law_pick" (defArgs (top 13)) (defBody (top 13)) (defScope (top 13)) .none kV__law_pick dc__law_pick pm__law_pick an__law_pick cd__law_pick ct__law_pick), sl__law_pick⟩) (c__law_pick : PySem.W.codeIn K cd__law_pick "_law_pick" = true) (k__law_pick : PySem.W.keepIn K (.ref f__law_pick) = true)
    {f__law_wood : Addr} {od__law_wood an__law_wood : Option Addr} {sl__law_wood : Array (Option Value)} {oc__law_wood kV__law_wood dc__law_wood pm__law_wood cd__law_wood ct__law_wood : Value} (a__law_wood : PySem.W.nsIn K mainGlobals "_law_wood" = some (some (.ref f__law_wood)))
    (l__law_wood : K.lookup f__law_wood = some ⟨oc__law_wood, od__law_wood, .func (PySem.W.fnOf "_law_wood" "_law_wood" (defArgs (top 14)) (defBody (top 14)) (defScope (top 14)) .none kV__law_wood dc__law_wood pm__law_wood an__law_wood cd__law_wood ct__law_wood), sl__law_wood⟩) (c__law_wood : PySem.W.codeIn K cd__law_wood "_law_wood" = true) (k__law_wood : PySem.W.keepIn K (.ref f__law_wood) = true)
    {f__law_bent : Addr} {od__law_bent an__law_bent : Option Addr} {sl__law_bent : Array (Option Value)} {oc__law_bent kV__law_bent dc__law_bent pm__law_bent cd__law_bent ct__law_bent : Value} (a__law_bent : PySem.W.nsIn K mainGlobals "_law_bent" = some (some (.ref f__law_bent)))
    (l__law_bent : K.lookup f__law_bent = some ⟨oc__law_bent, od__law_bent, .func (PySem.W.fnOf "_law_bent" "_law_bent" (defArgs (top 15)) (defBody (top 15)) (defScope (top 15)) .none kV__law_bent dc__law_bent pm__law_bent an__law_bent cd__law_bent ct__law_bent), sl__law_bent⟩) (c__law_bent : PySem.W.codeIn K cd__law_bent "_law_bent" = true) (k__law_bent : PySem.W.keepIn K (.ref f__law_bent) = true)
    {f__law_due : Addr} {od__law_due an__law_due : Option Addr} {sl__law_due : Array (Option Value)} {oc__law_due kV__law_due dc__law_due pm__law_due cd__law_due ct__law_due : Value} (a__law_due : PySem.W.nsIn K mainGlobals "_law_due" = some (some (.ref f__law_due)))
    (l__law_due : K.lookup f__law_due = some ⟨oc__law_due, od__law_due, .func (PySem.W.fnOf "_law_due" "_law_due" (defArgs (top 16)) (defBody (top 16)) (defScope (top 16)) .none kV__law_due dc__law_due pm__law_due an__law_due cd__law_due ct__law_due), sl__law_due⟩) (c__law_due : PySem.W.codeIn K cd__law_due "_law_due" = true) (k__law_due : PySem.W.keepIn K (.ref f__law_due) = true)
    {f__law_same : Addr} {od__law_same an__law_same : Option Addr} {sl__law_same : Array (Option Value)} {oc__law_same kV__law_same dc__law_same pm__law_same cd__law_same ct__law_same : Value} (a__law_same : PySem.W.nsIn K mainGlobals "_law_same" = some (some (.ref f__law_same)))
    (l__law_same : K.lookup f__law_same = some ⟨oc__law_same, od__law_same, .func (PySem.W.fnOf "_law_same" "_law_same" (defArgs (top 17)) (defBody (top 17)) (defScope (top 17)) .none kV__law_same dc__law_same pm__law_same an__law_same cd__law_same ct__law_same), sl__law_same⟩) (c__law_same : PySem.W.codeIn K cd__law_same "_law_same" = true) (k__law_same : PySem.W.keepIn K (.ref f__law_same) = true)
    {f__law_right : Addr} {od__law_right an__law_right : Option Addr} {sl__law_right : Array (Option Value)} {oc__law_right kV__law_right dc__law_right pm__law_right cd__law_right ct__law_right : Value} (a__law_right : PySem.W.nsIn K mainGlobals "_law_right" = some (some (.ref f__law_right)))
    (l__law_right : K.lookup f__law_right = some ⟨oc__law_right, od__law_right, .func (PySem.W.fnOf "_law_right" "_law_right" (defArgs (top 18)) (defBody (top 18)) (defScope (top 18)) .none kV__law_right dc__law_right pm__law_right an__law_right cd__law_right ct__law_right), sl__law_right⟩) (c__law_right : PySem.W.codeIn K cd__law_right "_law_right" = true) (k__law_right : PySem.W.keepIn K (.ref f__law_right) = true)
    {f_law : Addr} {od_law an_law : Option Addr} {sl_law : Array (Option Value)} {oc_law kV_law dc_law pm_law cd_law ct_law : Value} (a_law : PySem.W.nsIn K mainGlobals "law" = some (some (.ref f_law)))
    (l_law : K.lookup f_law = some ⟨oc_law, od_law, .func (PySem.W.fnOf "law" "law" (defArgs (top 19)) (defBody (top 19)) (defScope (top 19)) .none kV_law dc_law pm_law an_law cd_law ct_law), sl_law⟩) (c_law : PySem.W.codeIn K cd_law "law" = true) (k_law : PySem.W.keepIn K (.ref f_law) = true) (base : Heap) :
    Def P w K mg base "law" (top 19) 8 ["_law_script"] M_law := by
  have T : Txt mg := ⟨PySem.W.mg_none_of X G zb_all, PySem.W.mg_none_of X G zb_bool, PySem.W.mg_none_of X G zb_enumerate, PySem.W.mg_none_of X G zb_int, PySem.W.mg_none_of X G zb_isinstance, PySem.W.mg_none_of X G zb_len, PySem.W.mg_none_of X G zb_list, PySem.W.mg_none_of X G zb_max, PySem.W.mg_none_of X G zb_min, PySem.W.mg_none_of X G zb_range, PySem.W.mg_none_of X G zb_repr, PySem.W.mg_none_of X G zb_tuple, ⟨_, PySem.W.mg_of X G zg_MOST_PLACES⟩⟩
  have e_is_whole : Def P w K mg base "is_whole" (top 5) 1 ["thing"] M_is_whole := d_is_whole T (PySem.W.mg_of X G a_is_whole) (fun_mk (st := top 5) l_is_whole c_is_whole k_is_whole)
  have e_is_within : Def P w K mg base "is_within" (top 6) 2 ["thing", "low", "high"] M_is_within := d_is_within T (PySem.W.mg_of X G a_is_within) (fun_mk (st := top 6) l_is_within c_is_within k_is_within) e_is_whole
  have e_is_tree : Def P w K mg base "is_tree" (top 7) 3 ["thing"] M_is_tree := d_is_tree T (PySem.W.mg_of X G a_is_tree) (fun_mk (st := top 7) l_is_tree c_is_tree k_is_tree) e_is_within
  have e_check_tree : Def P w K mg base "check_tree" (top 8) 4 ["thing"] M_check_tree := d_check_tree T (PySem.W.mg_of X G a_check_tree) (fun_mk (st := top 8) l_check_tree c_check_tree k_check_tree) e_is_tree
  have e_places : Def P w K mg base "places" (top 9) 5 ["tree"] M_places := d_places T (PySem.W.mg_of X G a_places) (fun_mk (st := top 9) l_places c_places k_places) e_check_tree
  have e__law_cell : Def P w K mg base "_law_cell" (top 11) 1 ["_law_script", "_law_k"] M__law_cell := d__law_cell T (PySem.W.mg_of X G a__law_cell) (fun_mk (st := top 11) l__law_cell c__law_cell k__law_cell)
  have e__law_purse : Def P w K mg base "_law_purse" (top 12) 1 ["_law_cell_here"] M__law_purse := d__law_purse T (PySem.W.mg_of X G a__law_purse) (fun_mk (st := top 12) l__law_purse c__law_purse k__law_purse)
  have e__law_pick : Def P w K mg base "_law_pick" (top 13) 1 ["_law_purse_here", "_law_count"] M__law_pick := d__law_pick T (PySem.W.mg_of X G a__law_pick) (fun_mk (st := top 13) l__law_pick c__law_pick k__law_pick)
  have e__law_wood : Def P w K mg base "_law_wood" (top 14) 2 ["_law_purse_here", "_law_most"] M__law_wood := d__law_wood T (PySem.W.mg_of X G a__law_wood) (fun_mk (st := top 14) l__law_wood c__law_wood k__law_wood) e__law_pick
  have e__law_bent : Def P w K mg base "_law_bent" (top 15) 2 ["_law_purse_here", "_law_numbers"] M__law_bent := d__law_bent T (PySem.W.mg_of X G a__law_bent) (fun_mk (st := top 15) l__law_bent c__law_bent k__law_bent) e__law_pick
  have e__law_due : Def P w K mg base "_law_due" (top 16) 1 ["_law_shown"] M__law_due := d__law_due T (PySem.W.mg_of X G a__law_due) (fun_mk (st := top 16) l__law_due c__law_due k__law_due)
  have e__law_same : Def P w K mg base "_law_same" (top 17) 6 ["_law_shown"] M__law_same := d__law_same T (PySem.W.mg_of X G a__law_same) (fun_mk (st := top 17) l__law_same c__law_same k__law_same) e_is_tree e_places e__law_due
  have e__law_right : Def P w K mg base "_law_right" (top 18) 7 ["_law_purse_here"] M__law_right := d__law_right T (PySem.W.mg_of X G a__law_right) (fun_mk (st := top 18) l__law_right c__law_right k__law_right) e__law_wood e__law_bent e__law_same
  have e_law : Def P w K mg base "law" (top 19) 8 ["_law_script"] M_law := d_law T (PySem.W.mg_of X G a_law) (fun_mk (st := top 19) l_law c_law k_law) e__law_cell e__law_purse e__law_same e__law_right
  exact e_law
end LW
open PySem PySem.W PyProof.Rows in
set_option maxRecDepth 100000 in
set_option maxHeartbeats 0 in
theorem PySem.Challenge.cw_joinreach_k01_trees_of_any_kind_holds : PySem.Challenge.rw_joinreach_k01_trees_of_any_kind.Holds := by
  w_on; o_law; k_head; (case hw => w_witness2)
  k_fill
  refine J.walkJ (l := PySem.Challenge.rw_joinreach_k01_trees_of_any_kind) (st := LW.top 19) (k := 8) (x := "_law_script") (F := LW.M_law) rfl (by decide) rfl ⟨rfl, by decide, by decide⟩ (fun w h Y => PySem.W.kIn_of Y) ?D (fun _ _ _ _ _ _ _ => rfl) LW.res_law
  case D =>
    intro w mg h KX G base hb1 hb2
    refine' LW.all_mk KX G ?zb_all ?zb_bool ?zb_enumerate ?zb_int ?zb_isinstance ?zb_len ?zb_list ?zb_max ?zb_min ?zb_range ?zb_repr ?zb_tuple ?zg_MOST_PLACES ?a_is_whole ?l_is_whole ?c_is_whole ?k_is_whole ?a_is_within ?l_is_within ?c_is_within ?k_is_within ?a_is_tree ?l_is_tree ?c_is_tree ?k_is_tree ?a_check_tree ?l_check_tree ?c_check_tree ?k_check_tree ?a_places ?l_places ?c_places ?k_places ?a__law_cell ?l__law_cell ?c__law_cell ?k__law_cell ?a__law_purse ?l__law_purse ?c__law_purse ?k__law_purse ?a__law_pick ?l__law_pick ?c__law_pick ?k__law_pick ?a__law_wood ?l__law_wood ?c__law_wood ?k__law_wood ?a__law_bent ?l__law_bent ?c__law_bent ?k__law_bent ?a__law_due ?l__law_due ?c__law_due ?k__law_due ?a__law_same ?l__law_same ?c__law_same ?k__law_same ?a__law_right ?l__law_right ?c__law_right ?k__law_right ?a_law ?l_law ?c_law ?k_law base
    (case zb_all => k_is)
    (case zb_bool => k_is)
    (case zb_enumerate => k_is)
    (case zb_int => k_is)
    (case zb_isinstance => k_is)
    (case zb_len => k_is)
    (case zb_list => k_is)
    (case zb_max => k_is)
    (case zb_min => k_is)
    (case zb_range => k_is)
    (case zb_repr => k_is)
    (case zb_tuple => k_is)
    (case zg_MOST_PLACES => k_is)
    (case a_is_whole => k_is)
    (case l_is_whole => k_is)
    (case c_is_whole => k_is)
    (case k_is_whole => k_is)
    (case a_is_within => k_is)
    (case l_is_within => k_is)
    (case c_is_within => k_is)
    (case k_is_within => k_is)
    (case a_is_tree => k_is)
    (case l_is_tree => k_is)
    (case c_is_tree => k_is)
    (case k_is_tree => k_is)
    (case a_check_tree => k_is)
    (case l_check_tree => k_is)
    (case c_check_tree => k_is)
    (case k_check_tree => k_is)
    (case a_places => k_is)
    (case l_places => k_is)
    (case c_places => k_is)
    (case k_places => k_is)
    (case a__law_cell => k_is)
    (case l__law_cell => k_is)
    (case c__law_cell => k_is)
    (case k__law_cell => k_is)
    (case a__law_purse => k_is)
    (case l__law_purse => k_is)
    (case c__law_purse => k_is)
    (case k__law_purse => k_is)
    (case a__law_pick => k_is)
    (case l__law_pick => k_is)
    (case c__law_pick => k_is)
    (case k__law_pick => k_is)
    (case a__law_wood => k_is)
    (case l__law_wood => k_is)
    (case c__law_wood => k_is)
    (case k__law_wood => k_is)
    (case a__law_bent => k_is)
    (case l__law_bent => k_is)
    (case c__law_bent => k_is)
    (case k__law_bent => k_is)
    (case a__law_due => k_is)
    (case l__law_due => k_is)
    (case c__law_due => k_is)
    (case k__law_due => k_is)
    (case a__law_same => k_is)
    (case l__law_same => k_is)
    (case c__law_same => k_is)
    (case k__law_same => k_is)
    (case a__law_right => k_is)
    (case l__law_right => k_is)
    (case c__law_right => k_is)
    (case k__law_right => k_is)
    (case a_law => k_is)
    (case l_law => k_is)
    (case c_law => k_is)
    (case k_law => k_is)
