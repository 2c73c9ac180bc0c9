import PyProof.Rows.All
import Wide.All
import OpenK.AllK
import Wide.FinOn
import PySem.Challenge.RW_pf0011_01
open PySem PySem.W PyProof.Rows
set_option Elab.async false
set_option linter.all false
set_option compiler.extract_closed false
set_option genSizeOfSpec false
namespace Mine
-- text M1
section
/-! abstract values, ghost heaps -/
noncomputable abbrev GH := Addr → Option Obj
noncomputable def GH.upd (g : GH) (a : Addr) (o : Obj) : GH := fun b => if b = a then some o else g b
noncomputable def GH.del (g : GH) (a : Addr) : GH := fun b => if b = a then none else g b
theorem GH.upd_self (g : GH) (a : Addr) (o : Obj) : g.upd a o a = some o := by simp [GH.upd]
theorem GH.upd_ne (g : GH) {a b : Addr} (o : Obj) (h : b ≠ a) : g.upd a o b = g b := by simp [GH.upd, h]
theorem GH.upd_le (g : GH) {a : Addr} (o : Obj) (h : g a = none) : ∀ b x, g b = some x → g.upd a o b = some x := by
  intro b x e
  have : b ≠ a := by rintro rfl; rw [h] at e; cases e
  rw [GH.upd_ne g o this]; exact e
noncomputable abbrev T (s : String) : List Nat := (PySem.Str.ofString s).cps.toList
noncomputable abbrev S (l : List Nat) : PySem.Str := ⟨l.toArray⟩
inductive PV where
  | none
  | bool (b : Bool)
  | int (i : Int)
  | str (s : List Nat)
  | tup (xs : List PV)
  | lst (xs : List PV)
  | cell (k : Nat)
  | inst (C : Addr) (k : Nat)
  | val (v : Value)
noncomputable abbrev tupObj (vs : List Value) (n : Nat) : Obj := { cls := .type "tuple", data := .seq vs.toArray n }
noncomputable abbrev lstObj (vs : List Value) (n : Nat) : Obj := { cls := .type "list", data := .seq vs.toArray n }
mutual
noncomputable def Rep (g : GH) (al : List Addr) : PV → Value → Prop
  | .none, x => x = .none
  | .bool b, x => x = .bool b
  | .int i, x => ∃ t, x = .int i t
  | .str s, x => ∃ t, x = .str ⟨s.toArray⟩ t
  | .tup xs, x => ∃ a vs n, x = .ref a ∧ g a = some (tupObj vs n) ∧ RepL g al xs vs
  | .lst xs, x => ∃ a vs n, x = .ref a ∧ g a = some (lstObj vs n) ∧ RepL g al xs vs
  | .cell k, x => ∃ a, x = .ref a ∧ al[k]? = some a
  | .inst C k, x => ∃ a d, x = .ref a ∧ al[k]? = some d ∧ g a = some (instObj C d)
  | .val v, x => x = v
noncomputable def RepL (g : GH) (al : List Addr) : List PV → List Value → Prop
  | [], vs => vs = []
  | p :: ps, vs => ∃ v r, vs = v :: r ∧ Rep g al p v ∧ RepL g al ps r
end
structure Ext (g : GH) (al : List Addr) (g' : GH) (al' : List Addr) : Prop where
  le : ∀ a o, g a = some o → g' a = some o
  pre : al <+: al'
theorem Ext.refl (g : GH) (al : List Addr) : Ext g al g al := ⟨fun _ _ e => e, List.prefix_refl _⟩
theorem Ext.trans {g g' g'' : GH} {al al' al'' : List Addr} (x : Ext g al g' al') (y : Ext g' al' g'' al'') : Ext g al g'' al'' :=
  ⟨fun a o e => y.le a o (x.le a o e), x.pre.trans y.pre⟩
theorem Ext.at {g g' : GH} {al al' : List Addr} (x : Ext g al g' al') {k : Nat} {a : Addr} (e : al[k]? = some a) : al'[k]? = some a := by
  obtain ⟨t, rfl⟩ := x.pre
  have hk : k < al.length := by
    by_cases h : k < al.length
    · exact h
    · rw [List.getElem?_eq_none (by omega)] at e; cases e
  rw [List.getElem?_append_left hk]; exact e
mutual
theorem Rep.ext {g g' : GH} {al al' : List Addr} (E : Ext g al g' al') : ∀ (p : PV) (x : Value), Rep g al p x → Rep g' al' p x
  | .none, _, h => h
  | .bool _, _, h => h
  | .int _, _, h => h
  | .str _, _, h => h
  | .tup xs, _, ⟨a, vs, n, e, h, r⟩ => ⟨a, vs, n, e, E.le _ _ h, RepL.ext E xs vs r⟩
  | .lst xs, _, ⟨a, vs, n, e, h, r⟩ => ⟨a, vs, n, e, E.le _ _ h, RepL.ext E xs vs r⟩
  | .cell _, _, ⟨a, e, h⟩ => ⟨a, e, E.at h⟩
  | .inst _ _, _, ⟨a, d, e, h, h'⟩ => ⟨a, d, e, E.at h, E.le _ _ h'⟩
  | .val _, _, h => h
theorem RepL.ext {g g' : GH} {al al' : List Addr} (E : Ext g al g' al') : ∀ (ps : List PV) (vs : List Value), RepL g al ps vs → RepL g' al' ps vs
  | [], _, h => h
  | p :: ps, _, ⟨v, r, e, h, h'⟩ => ⟨v, r, e, Rep.ext E p v h, RepL.ext E ps r h'⟩
end
theorem RepL.length {g : GH} {al : List Addr} : ∀ {ps : List PV} {vs : List Value}, RepL g al ps vs → vs.length = ps.length
  | [], _, h => by cases h; rfl
  | _ :: _, _, ⟨_, _, e, _, h⟩ => by subst e; simp [RepL.length h]
theorem RepL.get {g : GH} {al : List Addr} : ∀ {ps : List PV} {vs : List Value}, RepL g al ps vs → ∀ {i : Nat} {p : PV}, ps[i]? = some p → ∃ v, vs[i]? = some v ∧ Rep g al p v
  | [], _, _, i, p, e => by simp at e
  | q :: ps, _, ⟨v, r, e, h, h'⟩, 0, p, eq => by
    subst e; simp at eq; subst eq; exact ⟨v, rfl, h⟩
  | q :: ps, _, ⟨v, r, e, h, h'⟩, i + 1, p, eq => by
    subst e
    have : ps[i]? = some p := by simpa using eq
    obtain ⟨v', e', hr⟩ := RepL.get h' this
    exact ⟨v', by simpa using e', hr⟩
theorem RepL.append {g : GH} {al : List Addr} : ∀ {ps qs : List PV} {vs us : List Value}, RepL g al ps vs → RepL g al qs us → RepL g al (ps ++ qs) (vs ++ us)
  | [], _, _, _, h, h' => by cases h; exact h'
  | _ :: _, _, _, _, ⟨v, r, e, h, t⟩, h' => by subst e; exact ⟨v, r ++ _, rfl, h, RepL.append t h'⟩
theorem RepL.take {g : GH} {al : List Addr} : ∀ (k : Nat) {ps : List PV} {vs : List Value}, RepL g al ps vs → RepL g al (ps.take k) (vs.take k)
  | 0, _, _, _ => by simp [RepL]
  | k + 1, [], _, h => by cases h; simp [RepL]
  | k + 1, _ :: _, _, ⟨v, r, e, h, t⟩ => by subst e; exact ⟨v, r.take k, rfl, h, RepL.take k t⟩
theorem RepL.drop {g : GH} {al : List Addr} : ∀ (k : Nat) {ps : List PV} {vs : List Value}, RepL g al ps vs → RepL g al (ps.drop k) (vs.drop k)
  | 0, _, _, h => h
  | k + 1, [], _, h => by cases h; simp [RepL]
  | k + 1, _ :: _, _, ⟨v, r, e, h, t⟩ => by subst e; exact RepL.drop k t
theorem RepL.reverse {g : GH} {al : List Addr} : ∀ {ps : List PV} {vs : List Value}, RepL g al ps vs → RepL g al ps.reverse vs.reverse
  | [], _, h => by cases h; simp [RepL]
  | p :: ps, _, ⟨v, r, e, h, t⟩ => by
    subst e
    rw [List.reverse_cons, List.reverse_cons]
    exact RepL.append (RepL.reverse t) ⟨v, [], rfl, h, rfl⟩
theorem RepL.one {g : GH} {al : List Addr} {p : PV} {v : Value} (h : Rep g al p v) : RepL g al [p] [v] := ⟨v, [], rfl, h, rfl⟩
theorem RepL.cons {g : GH} {al : List Addr} {p : PV} {v : Value} {ps : List PV} {vs : List Value} (h : Rep g al p v) (t : RepL g al ps vs) : RepL g al (p :: ps) (v :: vs) := ⟨v, vs, rfl, h, t⟩
theorem RepL.of_append {g : GH} {al : List Addr} : ∀ {ps qs : List PV} {ws : List Value}, RepL g al (ps ++ qs) ws → ∃ vs us, ws = vs ++ us ∧ RepL g al ps vs ∧ RepL g al qs us
  | [], _, ws, h => ⟨[], ws, rfl, rfl, h⟩
  | _ :: _, _, _, ⟨v, r, e, h, t⟩ => by
    subst e
    obtain ⟨vs, us, e', h1, h2⟩ := RepL.of_append t
    exact ⟨v :: vs, us, by rw [e']; rfl, ⟨v, vs, rfl, h, h1⟩, h2⟩
/-! values that name no cell at or above k -/
mutual
noncomputable def PV.under (k : Nat) : PV → Bool
  | .none => true
  | .bool _ => true
  | .int _ => true
  | .str _ => true
  | .tup xs => PV.underL k xs
  | .lst xs => PV.underL k xs
  | .cell j => Nat.blt j k
  | .inst _ j => Nat.blt j k
  | .val _ => true
noncomputable def PV.underL (k : Nat) : List PV → Bool
  | [] => true
  | p :: ps => PV.under k p && PV.underL k ps
end
mutual
theorem Rep.narrow {g : GH} {al : List Addr} {k : Nat} : ∀ (p : PV) (x : Value), p.under k = true → Rep g al p x → Rep g (al.take k) p x
  | .none, _, _, h => h
  | .bool _, _, _, h => h
  | .int _, _, _, h => h
  | .str _, _, _, h => h
  | .tup xs, _, b, ⟨a, vs, n, e, h, r⟩ => ⟨a, vs, n, e, h, RepL.narrow xs vs (by simpa [PV.under] using b) r⟩
  | .lst xs, _, b, ⟨a, vs, n, e, h, r⟩ => ⟨a, vs, n, e, h, RepL.narrow xs vs (by simpa [PV.under] using b) r⟩
  | .cell j, _, b, ⟨a, e, h⟩ => ⟨a, e, by
      have : j < k := by simpa [PV.under] using b
      rw [List.getElem?_take, if_pos this]; exact h⟩
  | .inst _ j, _, b, ⟨a, d, e, h, h'⟩ => ⟨a, d, e, by
      have : j < k := by simpa [PV.under] using b
      rw [List.getElem?_take, if_pos this]; exact h, h'⟩
  | .val _, _, _, h => h
theorem RepL.narrow {g : GH} {al : List Addr} {k : Nat} : ∀ (ps : List PV) (vs : List Value), PV.underL k ps = true → RepL g al ps vs → RepL g (al.take k) ps vs
  | [], _, _, h => h
  | p :: ps, _, b, ⟨v, r, e, h, h'⟩ => by
    have b' := Bool.and_eq_true_iff.mp (by simpa [PV.underL] using b : (PV.under k p && PV.underL k ps) = true)
    exact ⟨v, r, e, Rep.narrow p v b'.1 h, RepL.narrow ps r b'.2 h'⟩
end
/-! cells -/
inductive Cell where
  | list (xs : List PV)
  | dict (kv : List (Str × PV))
  | obj (P : Obj → Prop)
  | lit (xs : List PV) (i : Nat)
  | rit (xs : List PV) (i : Nat)
  | sit (x : List Nat) (i : Nat)
  | git (a k : Int)
  | map (D : Obj → List (Str × Value) → Prop) (kv : List (Str × PV))
noncomputable def KW (g : GH) (al : List Addr) : List (Str × PV) → List (Str × Value) → Prop
  | [], es => es = []
  | (k, v) :: r, es => ∃ x es', es = (k, x) :: es' ∧ Rep g al v x ∧ KW g al r es'
theorem KW.ext {g g' : GH} {al al' : List Addr} (E : Ext g al g' al') : ∀ {kv : List (Str × PV)} {es : List (Str × Value)}, KW g al kv es → KW g' al' kv es
  | [], _, h => h
  | (_, _) :: _, _, ⟨x, es', e, h, r⟩ => ⟨x, es', e, Rep.ext E _ _ h, KW.ext E r⟩
noncomputable def KV (g : GH) (al : List Addr) (P : Params) : List (Str × PV) → List DictEntry → Prop
  | [], es => es = []
  | (k, v) :: r, es => ∃ t x es', es = ⟨PyData.keyHash P k, .str k t, x⟩ :: es' ∧ Rep g al v x ∧ KV g al P r es'
theorem KV.ext {g g' : GH} {al al' : List Addr} {P : Params} (E : Ext g al g' al') : ∀ {kv : List (Str × PV)} {es : List DictEntry}, KV g al P kv es → KV g' al' P kv es
  | [], _, h => h
  | (_, _) :: _, _, ⟨t, x, es', e, h, r⟩ => ⟨t, x, es', e, Rep.ext E _ _ h, KV.ext E r⟩
noncomputable def kvBelow (k : Nat) : List (Str × PV) → Bool
  | [] => true
  | p :: r => p.2.under k && kvBelow k r
theorem KW.narrow {g : GH} {al : List Addr} {k : Nat} : ∀ {kv : List (Str × PV)} {es : List (Str × Value)}, kvBelow k kv = true → KW g al kv es → KW g (al.take k) kv es
  | [], _, _, h => h
  | (_, _) :: _, _, b, ⟨x, es', e, h, r⟩ => by
    have b' := Bool.and_eq_true_iff.mp b
    exact ⟨x, es', e, Rep.narrow _ _ b'.1 h, KW.narrow b'.2 r⟩
theorem KV.narrow {g : GH} {al : List Addr} {P : Params} {k : Nat} : ∀ {kv : List (Str × PV)} {es : List DictEntry}, kvBelow k kv = true → KV g al P kv es → KV g (al.take k) P kv es
  | [], _, _, h => h
  | (_, _) :: _, _, b, ⟨t, x, es', e, h, r⟩ => by
    have b' := Bool.and_eq_true_iff.mp b
    exact ⟨t, x, es', e, Rep.narrow _ _ b'.1 h, KV.narrow b'.2 r⟩
noncomputable def CellAt (g : GH) (al : List Addr) (P : Params) (h : Heap) (a : Addr) : Cell → Prop
  | .list xs => ∃ vs n, h.get? a = some (lstObj vs n) ∧ RepL g al xs vs
  | .dict kv => ∃ es n, h.get? a = some (dictOf es n) ∧ KV g al P kv es
  | .obj Q => ∃ o, h.get? a = some o ∧ Q o
  | .lit xs i => ∃ l vs n, h.IsListIter a l i ∧ g l = some (lstObj vs n) ∧ RepL g al xs vs
  | .rit xs i => ∃ l vs n, h.IsRevIter a l ((i : Int) - 1) ∧ g l = some (lstObj vs n) ∧ RepL g al xs vs
  | .sit x i => ∃ T t, (T = "str_ascii_iterator" ∨ T = "str_iterator") ∧ h.IsStrIter a T (S x) t i
  | .git b k => IsRangeIter h a b k 1
  | .map D kv => (a == sysModules) = false ∧ ∃ o es, h.get? a = some o ∧ D o es ∧ KW g al kv es
theorem CellAt.ex {g : GH} {al : List Addr} {P : Params} {h : Heap} {a : Addr} {cl : Cell} (x : CellAt g al P h a cl) : ∃ o, h.get? a = some o := by
  cases cl with
  | list => obtain ⟨vs, n, e, _⟩ := x; exact ⟨_, e⟩
  | dict => obtain ⟨vs, n, e, _⟩ := x; exact ⟨_, e⟩
  | obj => obtain ⟨o, e, _⟩ := x; exact ⟨_, e⟩
  | lit => obtain ⟨_, _, _, ⟨o, e, _⟩, _⟩ := x; exact ⟨_, e⟩
  | rit => obtain ⟨_, _, _, ⟨o, e, _⟩, _⟩ := x; exact ⟨_, e⟩
  | sit => obtain ⟨_, _, _, ⟨o, e, _⟩⟩ := x; exact ⟨_, e⟩
  | git => exact ⟨_, x⟩
  | map => obtain ⟨_, _, _, e, _⟩ := x; exact ⟨_, e⟩
theorem CellAt.ext {g g' : GH} {al al' : List Addr} {P : Params} {h h' : Heap} {a : Addr} {cl : Cell} (E : Ext g al g' al') (k : ∀ o, h.get? a = some o → h'.get? a = some o) (x : CellAt g al P h a cl) : CellAt g' al' P h' a cl := by
  cases cl with
  | list => obtain ⟨vs, n, e, r⟩ := x; exact ⟨vs, n, k _ e, RepL.ext E _ _ r⟩
  | dict => obtain ⟨es, n, e, r⟩ := x; exact ⟨es, n, k _ e, KV.ext E r⟩
  | obj => obtain ⟨o, e, q⟩ := x; exact ⟨o, k _ e, q⟩
  | lit => obtain ⟨l, vs, n, ⟨o, e, q⟩, gl, r⟩ := x; exact ⟨l, vs, n, ⟨o, k _ e, q⟩, E.le _ _ gl, RepL.ext E _ _ r⟩
  | rit => obtain ⟨l, vs, n, ⟨o, e, q⟩, gl, r⟩ := x; exact ⟨l, vs, n, ⟨o, k _ e, q⟩, E.le _ _ gl, RepL.ext E _ _ r⟩
  | sit => obtain ⟨T, t, ht, ⟨o, e, q⟩⟩ := x; exact ⟨T, t, ht, ⟨o, k _ e, q⟩⟩
  | git => exact k _ x
  | map => obtain ⟨m, o, es, e, d, r⟩ := x; exact ⟨m, o, es, k _ e, d, KW.ext E r⟩
noncomputable def Cell.under (k : Nat) : Cell → Bool
  | .list xs => PV.underL k xs
  | .dict kv => kvBelow k kv
  | .obj _ => true
  | .lit xs _ => PV.underL k xs
  | .rit xs _ => PV.underL k xs
  | .sit _ _ => true
  | .git _ _ => true
  | .map _ kv => kvBelow k kv
theorem CellAt.narrow {g : GH} {al : List Addr} {P : Params} {h : Heap} {a : Addr} {cl : Cell} {k : Nat} (b : cl.under k = true) (x : CellAt g al P h a cl) : CellAt g (al.take k) P h a cl := by
  cases cl with
  | list => obtain ⟨vs, n, e, r⟩ := x; exact ⟨vs, n, e, RepL.narrow _ _ b r⟩
  | dict => obtain ⟨es, n, e, r⟩ := x; exact ⟨es, n, e, KV.narrow b r⟩
  | obj => exact x
  | lit => obtain ⟨l, vs, n, i, gl, r⟩ := x; exact ⟨l, vs, n, i, gl, RepL.narrow _ _ b r⟩
  | rit => obtain ⟨l, vs, n, i, gl, r⟩ := x; exact ⟨l, vs, n, i, gl, RepL.narrow _ _ b r⟩
  | sit => exact x
  | git => exact x
  | map => obtain ⟨m, o, es, e, d, r⟩ := x; exact ⟨m, o, es, e, d, KW.narrow b r⟩
/-! the context of the whole proof; states -/
structure Cx where
  prog : Program
  w : World
  K : Frag
  h₀ : Heap
  mg : Str → Option Value
  mb : Str → Option Value
  os : OsState
structure Cx.Ok (c : Cx) : Prop where
  KX : c.K.In c.h₀
  mgNs : c.h₀.Ns mainGlobals c.mg
  mbNs : c.h₀.Ns builtinsNs c.mb
  nolimit : c.h₀.NoLimit
  builtins : ∀ x : Str, x ≠ "__name__" → c.mb x = bootBuiltins x
noncomputable abbrev Mem := List Cell
structure HS (c : Cx) (g : GH) (al : List Addr) (mu : Mem) (h : Heap) : Prop where
  base : ∀ a o, c.h₀.get? a = some o → g a = some o
  keep : ∀ a o, g a = some o → h.get? a = some o
  len : al.length = mu.length
  nodup : al.Nodup
  fresh : ∀ a ∈ al, g a = none
  cells : ∀ (k : Nat) a cl, al[k]? = some a → mu[k]? = some cl → CellAt g al c.w.params h a cl
structure St (c : Cx) (g : GH) (al : List Addr) (mu : Mem) (s : Shared) : Prop where
  hs : HS c g al mu s.heap
  gens : s.gens = #[]
  os : s.os = c.os
theorem St.put {c : Cx} {g g' : GH} {al al' : List Addr} {mu mu' : Mem} {s : Shared} {h : Heap} {t : Nat} (x : St c g al mu s) (y : HS c g' al' mu' h) : St c g' al' mu' { s with heap := h, toks := t } := ⟨y, x.gens, x.os⟩
theorem St.toks {c : Cx} {g : GH} {al : List Addr} {mu : Mem} {s : Shared} {t : Nat} (x : St c g al mu s) : St c g al mu { s with toks := t } := ⟨x.hs, x.gens, x.os⟩
theorem nodup_inj : ∀ {l : List Addr}, l.Nodup → ∀ {i j : Nat} {a : Addr}, l[i]? = some a → l[j]? = some a → i = j
  | [], _, i, _, _, e, _ => by simp at e
  | b :: r, h, 0, 0, _, _, _ => rfl
  | b :: r, h, 0, j + 1, a, e1, e2 => by
    simp at e1; subst e1
    have m : b ∈ r := List.mem_of_getElem? (by simpa using e2)
    exact absurd m (List.nodup_cons.mp h).1
  | b :: r, h, i + 1, 0, a, e1, e2 => by
    simp at e2; subst e2
    have m : b ∈ r := List.mem_of_getElem? (by simpa using e1)
    exact absurd m (List.nodup_cons.mp h).1
  | b :: r, h, i + 1, j + 1, a, e1, e2 => by
    have := nodup_inj (List.nodup_cons.mp h).2 (i := i) (j := j) (by simpa using e1) (by simpa using e2)
    omega
section
variable {c : Cx} {g : GH} {al : List Addr} {mu : Mem} {h h' : Heap}
theorem HS.alive (x : HS c g al mu h) {a : Addr} (m : a ∈ al) : ∃ o, h.get? a = some o := by
  obtain ⟨k, hk, e⟩ := List.mem_iff_getElem.mp m
  have hk' : k < mu.length := x.len ▸ hk
  exact (x.cells k a mu[k] (by rw [← e]; simp [hk]) (by simp [hk'])).ex
theorem HS.free (x : HS c g al mu h) {a : Addr} (ha : h.objs.size ≤ a) : g a = none ∧ a ∉ al := by
  constructor
  · cases e : g a with
    | none => rfl
    | some o => exact absurd (Heap.lt_size (x.keep a o e)) (Nat.not_lt.mpr ha)
  · intro m
    obtain ⟨o, e⟩ := x.alive m
    exact absurd (Heap.lt_size e) (Nat.not_lt.mpr ha)
theorem HS.apart (x : HS c g al mu h) {a b : Addr} {o : Obj} (m : a ∈ al) (e : g b = some o) : b ≠ a := by
  rintro rfl; rw [x.fresh b m] at e; cases e
theorem HS.grow (x : HS c g al mu h) (k : ∀ a o, h.get? a = some o → h'.get? a = some o) : HS c g al mu h' :=
  ⟨x.base, fun a o e => k a o (x.keep a o e), x.len, x.nodup, x.fresh, fun i a cl e1 e2 => (x.cells i a cl e1 e2).ext (Ext.refl ..) fun o e => k a o e⟩
theorem HS.growBut (x : HS c g al mu h) {L : Addr} (hg : g L = none) (hm : L ∉ al) (k : ∀ a o, a ≠ L → h.get? a = some o → h'.get? a = some o) : HS c g al mu h' :=
  ⟨x.base, fun a o e => k a o (by rintro rfl; rw [hg] at e; cases e) (x.keep a o e), x.len, x.nodup, x.fresh, fun i a cl e1 e2 => (x.cells i a cl e1 e2).ext (Ext.refl ..) fun o e => k a o (by rintro rfl; exact hm (List.mem_of_getElem? e1)) e⟩
theorem HS.learn (x : HS c g al mu h) {a : Addr} {o : Obj} (e : h.get? a = some o) (hg : g a = none) (hm : a ∉ al) : HS c (g.upd a o) al mu h := by
  have E : Ext g al (g.upd a o) al := ⟨GH.upd_le g o hg, List.prefix_refl _⟩
  refine ⟨fun b y q => E.le _ _ (x.base b y q), fun b y q => ?_, x.len, x.nodup, fun b m => ?_, fun i b cl e1 e2 => (x.cells i b cl e1 e2).ext E fun _ q => q⟩
  · by_cases hb : b = a
    · subst hb; rw [GH.upd_self] at q; cases q; exact e
    · rw [GH.upd_ne g o hb] at q; exact x.keep b y q
  · rw [GH.upd_ne]; · exact x.fresh b m
    rintro rfl; exact hm m
theorem HS.ext_learn {a : Addr} {o : Obj} (hg : g a = none) : Ext g al (g.upd a o) al := ⟨GH.upd_le g o hg, List.prefix_refl _⟩
theorem HS.newCell (x : HS c g al mu h) {a : Addr} {cl : Cell} (hg : g a = none) (hm : a ∉ al) (hc : CellAt g (al ++ [a]) c.w.params h a cl) : HS c g (al ++ [a]) (mu ++ [cl]) h := by
  have E : Ext g al g (al ++ [a]) := ⟨fun _ _ e => e, List.prefix_append _ _⟩
  refine ⟨x.base, x.keep, by simp [x.len], ?_, fun b m => ?_, fun i b cl' e1 e2 => ?_⟩
  · refine List.nodup_append.mpr ⟨x.nodup, by simp, fun p hp q hq => ?_⟩
    rw [List.mem_singleton.mp hq]; rintro rfl; exact hm hp
  · rcases List.mem_append.mp m with m | m
    · exact x.fresh b m
    · rw [List.mem_singleton.mp m]; exact hg
  · by_cases hi : i < al.length
    · rw [List.getElem?_append_left hi] at e1
      rw [List.getElem?_append_left (x.len ▸ hi)] at e2
      exact (x.cells i b cl' e1 e2).ext E fun _ q => q
    · have hi' : i = al.length := by
        by_cases q : i < (al ++ [a]).length
        · simp at q; omega
        · rw [List.getElem?_eq_none (by omega)] at e1; cases e1
      subst hi'
      rw [List.getElem?_append_right (Nat.le_refl _)] at e1
      rw [x.len, List.getElem?_append_right (Nat.le_refl _)] at e2
      simp at e1 e2
      subst e1; subst e2; exact hc
theorem HS.turn (x : HS c g al mu h) {k : Nat} {a : Addr} {cl : Cell} (hk : al[k]? = some a) (keep : ∀ b o, b ≠ a → h.get? b = some o → h'.get? b = some o) (hc : CellAt g al c.w.params h' a cl) : HS c g al (mu.set k cl) h' := by
  have ma : a ∈ al := List.mem_of_getElem? hk
  refine ⟨x.base, fun b o e => keep b o (x.apart ma e) (x.keep b o e), by simp [x.len], x.nodup, x.fresh, fun i b cl' e1 e2 => ?_⟩
  by_cases hi : i = k
  · subst hi
    rw [hk] at e1; cases e1
    rw [List.getElem?_set] at e2
    simp at e2
    obtain ⟨_, rfl⟩ := e2
    exact hc
  · rw [List.getElem?_set_ne (Ne.symm hi)] at e2
    have hb : b ≠ a := by
      rintro rfl
      exact hi (nodup_inj x.nodup e1 hk)
    exact (x.cells i b cl' e1 e2).ext (Ext.refl ..) fun o e => keep b o hb e
noncomputable def memBelow (k : Nat) : Mem → Bool
  | [] => true
  | cl :: r => cl.under k && memBelow k r
theorem memBelow_get {k : Nat} : ∀ {mu : Mem}, memBelow k mu = true → ∀ {i : Nat} {cl : Cell}, mu[i]? = some cl → cl.under k = true
  | [], _, i, _, e => by simp at e
  | cl :: r, h, 0, _, e => by simp at e; subst e; exact (Bool.and_eq_true_iff.mp h).1
  | cl :: r, h, i + 1, _, e => memBelow_get (Bool.and_eq_true_iff.mp h).2 (by simpa using e)
theorem HS.narrow (x : HS c g al mu h) {k : Nat} (b : memBelow k (mu.take k) = true) : HS c g (al.take k) (mu.take k) h := by
  refine ⟨x.base, x.keep, by simp [x.len], x.nodup.sublist (List.take_sublist _ _), fun a m => x.fresh a (List.mem_of_mem_take m), fun i a cl e1 e2 => ?_⟩
  have b' := memBelow_get b e2
  have hi : i < k := by
    by_cases q : i < k
    · exact q
    · rw [List.getElem?_take, if_neg q] at e1; cases e1
  rw [List.getElem?_take, if_pos hi] at e1 e2
  exact (x.cells i a cl e1 e2).narrow b'
theorem HS.freeze (x : HS c g al mu h) {k : Nat} {a : Addr} {xs : List PV} (hk : al[k]? = some a) (hm : mu[k]? = some (.list xs)) (hl : k + 1 = al.length) (b : memBelow k (mu.take k) = true) (bx : PV.underL k xs = true) :
    ∃ vs n, HS c (g.upd a (lstObj vs n)) (al.take k) (mu.take k) h ∧ Rep (g.upd a (lstObj vs n)) (al.take k) (.lst xs) (.ref a) ∧ g a = none := by
  obtain ⟨vs, n, e, r⟩ := x.cells k a _ hk hm
  have ga := x.fresh a (List.mem_of_getElem? hk)
  have na : a ∉ al.take k := by
    intro m
    obtain ⟨i, hi, ei⟩ := List.mem_iff_getElem.mp m
    have e1 : (al.take k)[i]? = some a := by rw [List.getElem?_eq_getElem hi, ei]
    rw [List.length_take] at hi
    rw [List.getElem?_take, if_pos (by omega)] at e1
    have := nodup_inj x.nodup e1 hk
    omega
  have y := (x.narrow b).learn e ga na
  refine ⟨vs, n, y, ⟨a, vs, n, rfl, GH.upd_self .., RepL.ext (HS.ext_learn ga) _ _ (RepL.narrow xs vs bx r)⟩, ga⟩
end
end
-- text M2
section
/-! steps -/
noncomputable abbrev NX : Addr → Prop := fun _ => False
structure Step (X : Addr → Prop) (g : GH) (al : List Addr) (h : Heap) (g' : GH) (al' : List Addr) (h' : Heap) : Prop where
  ext : Ext g al g' al'
  keep : ∀ b o, b ∉ al → ¬ X b → h.get? b = some o → h'.get? b = some o
  alive : ∀ b o, h.get? b = some o → ∃ o', h'.get? b = some o'
  out : ∀ b o, b ∉ al → h.get? b = some o → g b = none → g' b = none
  outA : ∀ b o, b ∉ al → h.get? b = some o → b ∉ al'
theorem Step.trans {X : Addr → Prop} {g g₁ g₂ : GH} {al al₁ al₂ : List Addr} {h h₁ h₂ : Heap} (x : Step X g al h g₁ al₁ h₁) (y : Step X g₁ al₁ h₁ g₂ al₂ h₂) : Step X g al h g₂ al₂ h₂ := by
  refine ⟨x.ext.trans y.ext, fun b o m nx e => y.keep b o (x.outA b o m e) nx (x.keep b o m nx e), fun b o e => ?_, fun b o m e q => ?_, fun b o m e => ?_⟩
  · obtain ⟨o', e'⟩ := x.alive b o e; exact y.alive b o' e'
  · obtain ⟨o', e'⟩ := x.alive b o e; exact y.out b o' (x.outA b o m e) e' (x.out b o m e q)
  · obtain ⟨o', e'⟩ := x.alive b o e; exact y.outA b o' (x.outA b o m e) e'
theorem Step.weaken {X Y : Addr → Prop} {g g' : GH} {al al' : List Addr} {h h' : Heap} (x : Step X g al h g' al' h') (k : ∀ b, X b → Y b) : Step Y g al h g' al' h' :=
  ⟨x.ext, fun b o m nx e => x.keep b o m (fun q => nx (k b q)) e, x.alive, x.out, x.outA⟩
theorem Step.refl {X : Addr → Prop} (g : GH) (al : List Addr) (h : Heap) : Step X g al h g al h := ⟨Ext.refl .., fun _ _ _ _ e => e, fun _ o e => ⟨o, e⟩, fun _ _ _ _ e => e, fun _ _ m _ => m⟩
theorem Step.grow {X : Addr → Prop} {g : GH} {al : List Addr} {h h' : Heap} (k : ∀ a o, h.get? a = some o → h'.get? a = some o) : Step X g al h g al h' :=
  ⟨Ext.refl .., fun b o _ _ e => k b o e, fun b o e => ⟨o, k b o e⟩, fun _ _ _ _ e => e, fun _ _ m _ => m⟩
theorem Step.learn {X : Addr → Prop} {g : GH} {al : List Addr} {h h' : Heap} {a : Addr} {o : Obj} (k : ∀ a o, h.get? a = some o → h'.get? a = some o) (hg : g a = none) (hn : h.get? a = none) : Step X g al h (g.upd a o) al h' :=
  ⟨HS.ext_learn hg, fun b o _ _ e => k b o e, fun b o e => ⟨o, k b o e⟩, fun b o' _ e q => by
    rw [GH.upd_ne]; · exact q
    (rintro rfl; rw [hn] at e; cases e), fun _ _ m _ => m⟩
theorem Step.turn {X : Addr → Prop} {g : GH} {al : List Addr} {h h' : Heap} {a : Addr} {o' : Obj} (m : a ∈ al) (k : ∀ b o, b ≠ a → h.get? b = some o → h'.get? b = some o) (ha : h'.get? a = some o') : Step X g al h g al h' :=
  ⟨Ext.refl .., fun b o n _ e => k b o (by rintro rfl; exact n m) e, fun b o e => by
    by_cases q : b = a
    · subst q; exact ⟨o', ha⟩
    · exact ⟨o, k b o q e⟩, fun _ _ _ _ e => e, fun _ _ n _ => n⟩
theorem Step.cell {X : Addr → Prop} {g : GH} {al : List Addr} {h h' : Heap} {a : Addr} (k : ∀ a o, h.get? a = some o → h'.get? a = some o) (hn : h.get? a = none) : Step X g al h g (al ++ [a]) h' :=
  ⟨⟨fun _ _ e => e, List.prefix_append _ _⟩, fun b o _ _ e => k b o e, fun b o e => ⟨o, k b o e⟩, fun _ _ _ _ e => e, fun b o m e q => by
    rcases List.mem_append.mp q with q | q
    · exact m q
    · rw [List.mem_singleton.mp q] at e; rw [hn] at e; cases e⟩
noncomputable abbrev NoE : Value → Shared → Prop := fun _ _ => False
structure Room (n : Nat) (A : Around) : Prop where
  handled : A.handled = none
  depth : A.depth + 2 * n ≤ 600
  units : A.units + 20 * n + 400 ≤ cLine
theorem Room.lim {n : Nat} {A : Around} (x : Room n A) : A.depth < recursionLimit := by have := x.depth; show A.depth < 1000; omega
theorem Room.line {n : Nat} {A : Around} (x : Room n A) : A.units < cLine := by have := x.units; omega
theorem Room.mono {n m : Nat} {A : Around} (x : Room n A) (h : m ≤ n) : Room m A := ⟨x.handled, by have := x.depth; omega, by have := x.units; omega⟩
noncomputable abbrev Md (c : Cx) : Model := model c.prog c.w
noncomputable abbrev Post (c : Cx) (g : GH) (al : List Addr) (h : Heap) (v : PV) (mu' : Mem) : Value → Shared → Prop :=
  fun y s' => ∃ g' al', Step NX g al h g' al' s'.heap ∧ St c g' al' mu' s' ∧ Rep g' al' v y
noncomputable abbrev PostL (c : Cx) (g : GH) (al : List Addr) (h : Heap) (v : List PV) (mu' : Mem) : List Value → Shared → Prop :=
  fun y s' => ∃ g' al', Step NX g al h g' al' s'.heap ∧ St c g' al' mu' s' ∧ RepL g' al' v y
noncomputable abbrev PostB (c : Cx) (g : GH) (al : List Addr) (h : Heap) (b : Bool) (mu' : Mem) : Bool → Shared → Prop :=
  fun y s' => y = b ∧ ∃ g' al', Step NX g al h g' al' s'.heap ∧ St c g' al' mu' s'
/-! operations on values -/
structure Op1 (c : Cx) (n : Nat) (mu : Mem) (t : Value → Sem Value) (p v : PV) (mu' : Mem) : Prop where
  run : ∀ g al s A x, Room n A → St c g al mu s → Rep g al p x → wpAny (Md c) A (t x) (Post c g al s.heap v mu') NoE s
structure Op2 (c : Cx) (n : Nat) (mu : Mem) (t : Value → Value → Sem Value) (p q v : PV) (mu' : Mem) : Prop where
  run : ∀ g al s A x y, Room n A → St c g al mu s → Rep g al p x → Rep g al q y → wpAny (Md c) A (t x y) (Post c g al s.heap v mu') NoE s
structure OpN (c : Cx) (n : Nat) (mu : Mem) (t : List Value → Sem Value) (ps : List PV) (v : PV) (mu' : Mem) : Prop where
  run : ∀ g al s A xs, Room n A → St c g al mu s → RepL g al ps xs → wpAny (Md c) A (t xs) (Post c g al s.heap v mu') NoE s
structure OpB (c : Cx) (n : Nat) (mu : Mem) (t : Value → Sem Bool) (p : PV) (b : Bool) (mu' : Mem) : Prop where
  run : ∀ g al s A x, Room n A → St c g al mu s → Rep g al p x → wpAny (Md c) A (t x) (PostB c g al s.heap b mu') NoE s
/-! frames -/
structure FS where
  lc : List Str
  gl : List (Str × Value)
  kp : List (Str × PV)
noncomputable abbrev Loc := List (Str × Option PV)
structure EnvOk (c : Cx) (F : FS) (g : GH) (al : List Addr) (env : Env) : Prop where
  kind : env.scope.kind = .function
  globals : env.globals = mainGlobals
  builtins : env.builtins = builtinsNs
  loc : ∀ x ∈ F.lc, env.kindOf x = some .local ∧ (x == ("__debug__" : Str)) = false
  nodup : F.lc.Nodup
  glb : ∀ x v, (x, v) ∈ F.gl → env.kindOf x = some .globalImplicit ∧ (x == ("__debug__" : Str)) = false ∧ (c.mg x = some v ∨ (c.mg x = none ∧ c.mb x = some v))
  clo : ∀ x v, (x, v) ∈ F.kp → (env.kindOf x = some .cell ∨ env.kindOf x = some .free) ∧ (x == ("__debug__" : Str)) = false ∧ (x == ("__classdict__" : Str)) = false ∧
    ∃ a y o, env.cells.lookup x = some a ∧ g a = some o ∧ o.data = .cell (some y) ∧ Rep g al v y
theorem EnvOk.ext {c : Cx} {F : FS} {g g' : GH} {al al' : List Addr} {env : Env} (x : EnvOk c F g al env) (E : Ext g al g' al') : EnvOk c F g' al' env :=
  ⟨x.kind, x.globals, x.builtins, x.loc, x.nodup, x.glb, fun y v m => by
    obtain ⟨k, d, cd, a, z, o, e1, e2, e3, r⟩ := x.clo y v m
    exact ⟨k, d, cd, a, z, o, e1, E.le _ _ e2, e3, Rep.ext E _ _ r⟩⟩
structure Ls (F : FS) (g : GH) (al : List Addr) (L : Addr) (ρ : Loc) (h : Heap) : Prop where
  keys : ρ.map (·.1) = F.lc
  ns : ∃ m, h.Ns L m ∧ ∀ x v, (x, some v) ∈ ρ → ∃ y, m x = some y ∧ Rep g al v y
  gL : g L = none
  aL : L ∉ al
theorem Ls.dict {F : FS} {g : GH} {al : List Addr} {L : Addr} {ρ : Loc} {h : Heap} (x : Ls F g al L ρ h) : ∃ o, h.get? L = some o := by
  obtain ⟨m, ⟨o, es, ep, e, _⟩, _⟩ := x.ns; exact ⟨o, e⟩
theorem Ls.step {X : Addr → Prop} {F : FS} {g g' : GH} {al al' : List Addr} {L : Addr} {ρ : Loc} {h h' : Heap} (x : Ls F g al L ρ h) (S : Step X g al h g' al' h') (nx : ¬ X L) : Ls F g' al' L ρ h' := by
  obtain ⟨o, e⟩ := x.dict
  obtain ⟨m, hn, hv⟩ := x.ns
  exact ⟨x.keys, ⟨m, hn.at' fun o e => S.keep L o x.aL nx e, fun y v q => by
    obtain ⟨z, e1, r⟩ := hv y v q; exact ⟨z, e1, Rep.ext S.ext _ _ r⟩⟩, S.out L o x.aL e x.gL, S.outA L o x.aL e⟩
structure FSt (c : Cx) (F : FS) (env : Env) (g : GH) (al : List Addr) (ρ : Loc) (mu : Mem) (s : Shared) : Prop where
  ok : EnvOk c F g al env
  ls : Ls F g al env.locals ρ s.heap
  st : St c g al mu s
theorem FSt.step {c : Cx} {F : FS} {env : Env} {g g' : GH} {al al' : List Addr} {ρ : Loc} {mu mu' : Mem} {s s' : Shared} (x : FSt c F env g al ρ mu s) (S : Step NX g al s.heap g' al' s'.heap) (y : St c g' al' mu' s') : FSt c F env g' al' ρ mu' s' :=
  ⟨x.ok.ext S.ext, x.ls.step S (fun h => h), y⟩
/-! expressions -/
structure Ev (c : Cx) (F : FS) (n : Nat) (ρ : Loc) (mu : Mem) (e : Expr) (v : PV) (mu' : Mem) : Prop where
  run : ∀ env g al s A, Room n A → FSt c F env g al ρ mu s → wpAny (Md c) A (eval e env) (Post c g al s.heap v mu') NoE s
structure EvL (c : Cx) (F : FS) (n : Nat) (ρ : Loc) (mu : Mem) (es : List Expr) (vs : List PV) (mu' : Mem) : Prop where
  run : ∀ env g al s A pos, Room n A → FSt c F env g al ρ mu s → wpAny (Md c) A (spliced (backTo pos (starEach es env))) (PostL c g al s.heap vs mu') NoE s
structure Ts (c : Cx) (F : FS) (n : Nat) (ρ : Loc) (mu : Mem) (e : Expr) (b : Bool) (mu' : Mem) : Prop where
  run : ∀ env g al s A, Room n A → FSt c F env g al ρ mu s → wpAny (Md c) A (isTrue e env (eval e env)) (PostB c g al s.heap b mu') NoE s
section
variable {c : Cx} {F : FS} {n : Nat} {ρ : Loc} {mu mu₁ mu₂ mu₃ mu₄ : Mem} {pos : Pos} {e e₁ e₂ e₃ : Expr} {p q v : PV}
theorem thn {A : Around} {t : Sem Value} {g : GH} {al : List Addr} {s : Shared} {Q : Value → Shared → Prop}
    (h : wpAny (Md c) A t (Post c g al s.heap p mu₁) NoE s)
    (hk : ∀ x s' g' al', Step NX g al s.heap g' al' s'.heap → St c g' al' mu₁ s' → Rep g' al' p x → Q x s') : wpAny (Md c) A t Q NoE s :=
  wpAny_mono h (fun x s' ⟨g', al', S, st, r⟩ => hk x s' g' al' S st r) fun _ _ x => x
theorem thnL {A : Around} {t : Sem (List Value)} {g : GH} {al : List Addr} {s : Shared} {vs : List PV} {Q : List Value → Shared → Prop}
    (h : wpAny (Md c) A t (PostL c g al s.heap vs mu₁) NoE s)
    (hk : ∀ x s' g' al', Step NX g al s.heap g' al' s'.heap → St c g' al' mu₁ s' → RepL g' al' vs x → Q x s') : wpAny (Md c) A t Q NoE s :=
  wpAny_mono h (fun x s' ⟨g', al', S, st, r⟩ => hk x s' g' al' S st r) fun _ _ x => x
theorem thnB {A : Around} {t : Sem Bool} {g : GH} {al : List Addr} {s : Shared} {b : Bool} {Q : Bool → Shared → Prop}
    (h : wpAny (Md c) A t (PostB c g al s.heap b mu₁) NoE s)
    (hk : ∀ s' g' al', Step NX g al s.heap g' al' s'.heap → St c g' al' mu₁ s' → Q b s') : wpAny (Md c) A t Q NoE s :=
  wpAny_mono h (fun x s' ⟨e, g', al', S, st⟩ => e ▸ hk s' g' al' S st) fun _ _ x => x
theorem Post.after {g g' : GH} {al al' : List Addr} {h h' : Heap} {x : Value} {s : Shared} (S : Step NX g al h g' al' h') (y : Post c g' al' h' v mu x s) : Post c g al h v mu x s := by
  obtain ⟨g₂, al₂, S₂, st, r⟩ := y; exact ⟨g₂, al₂, S.trans S₂, st, r⟩
theorem PostB.after {g g' : GH} {al al' : List Addr} {h h' : Heap} {x b : Bool} {s : Shared} (S : Step NX g al h g' al' h') (y : PostB c g' al' h' b mu x s) : PostB c g al h b mu x s := by
  obtain ⟨e, g₂, al₂, S₂, st⟩ := y; exact ⟨e, g₂, al₂, S.trans S₂, st⟩
theorem Ev.int {i : Int} {k : Nat} : Ev c F n ρ mu (.Constant (.int i) k pos) (.int i) mu :=
  ⟨fun _ g al _ _ _ x => wpAny_Constant_int ⟨g, al, .refl .., x.st.toks, ⟨_, rfl⟩⟩⟩
theorem Ev.str {i : Str} {k : Nat} : Ev c F n ρ mu (.Constant (.str i) k pos) (.str i.cps.toList) mu :=
  ⟨fun _ g al s _ _ x => wpAny_Constant_str ⟨g, al, .refl .., x.st.toks, ⟨s.toks, by simp⟩⟩⟩
theorem Ev.bool {i : Bool} {k : Nat} : Ev c F n ρ mu (.Constant (.bool i) k pos) (.bool i) mu :=
  ⟨fun _ g al _ _ _ x => wpAny_Constant_bool ⟨g, al, .refl .., x.st, rfl⟩⟩
theorem Ev.none {k : Nat} : Ev c F n ρ mu (.Constant .none k pos) .none mu :=
  ⟨fun _ g al _ _ _ x => wpAny_Constant_none ⟨g, al, .refl .., x.st, rfl⟩⟩
theorem Ev.loc {x : Str} (h : (x, some v) ∈ ρ) : Ev c F n ρ mu (.Name x pos) v mu := by
  refine ⟨fun env g al s A _ X => ?_⟩
  have hx : x ∈ F.lc := X.ls.keys ▸ List.mem_map_of_mem h
  obtain ⟨hk, hd⟩ := X.ok.loc x hx
  obtain ⟨m, hn, hv⟩ := X.ls.ns
  obtain ⟨y, e, r⟩ := hv x v h
  exact wpAny_Name (wpAny_loadName_local X.ok.kind hk hn e ⟨g, al, .refl .., X.st, r⟩) hd
theorem Ev.glb (C : c.Ok) {x : Str} {y : Value} (h : (x, y) ∈ F.gl) : Ev c F n ρ mu (.Name x pos) (.val y) mu := by
  refine ⟨fun env g al s A _ X => ?_⟩
  obtain ⟨hk, hd, hv⟩ := X.ok.glb x y h
  have k : ∀ a o, c.h₀.get? a = some o → s.heap.get? a = some o := fun a o e => X.st.hs.keep a o (X.st.hs.base a o e)
  refine Calls.Name_function_global X.ok.kind hk ?_ hd
  rcases hv with hv | ⟨h1, h2⟩
  · exact Calls.loadGlobal_global (by rw [X.ok.globals]; exact C.mgNs.keeps k) hv ⟨g, al, .refl .., X.st, rfl⟩
  · exact Calls.loadGlobal_builtin (by rw [X.ok.globals]; exact C.mgNs.keeps k) h1 (by rw [X.ok.builtins]; exact C.mbNs.keeps k) h2 ⟨g, al, .refl .., X.st, rfl⟩
structure GVal (c : Cx) (y : Value) (v : PV) : Prop where
  rep : ∀ g al, (∀ a o, c.h₀.get? a = some o → g a = some o) → Rep g al v y
theorem Ev.glbV (C : c.Ok) {x : Str} {y : Value} (h : (x, y) ∈ F.gl) (hv : GVal c y v) : Ev c F n ρ mu (.Name x pos) v mu := by
  refine ⟨fun env g al s A R X => wpAny_mono ((Ev.glb C h).run env g al s A R X) (fun z s' ⟨g', al', S, st, r⟩ => ⟨g', al', S, st, ?_⟩) fun _ _ x => x⟩
  have : z = y := r
  subst this
  exact hv.rep g' al' st.hs.base
theorem Ev.bin {op : Operator} (ha : Ev c F n ρ mu e₁ p mu₁) (hb : Ev c F n ρ mu₁ e₂ q mu₂) (ho : Op2 c n mu₂ (binaryOp op) p q v mu₃) : Ev c F n ρ mu (.BinOp e₁ op e₂ pos) v mu₃ := by
  refine ⟨fun env g al s A R X => wpAny_BinOp (thn (ha.run env g al s A R X) fun x s₁ g₁ al₁ S₁ st₁ r₁ => ?_)⟩
  have X₁ := X.step S₁ st₁
  refine thn (hb.run env g₁ al₁ s₁ A R X₁) fun y s₂ g₂ al₂ S₂ st₂ r₂ => ?_
  exact wpAny_mono (ho.run g₂ al₂ s₂ A x y R st₂ (Rep.ext S₂.ext _ _ r₁) r₂) (fun z s₃ h => (h.after S₂).after S₁) fun _ _ x => x
end
end
-- text M3
section
section
variable {c : Cx} {F : FS} {n : Nat} {ρ : Loc} {mu mu₁ mu₂ mu₃ mu₄ : Mem} {pos : Pos} {e e₁ e₂ e₃ : Expr} {p q r v : PV} {a b i j : Int} {x y : List Nat}
theorem S_inj {x y : List Nat} (h : S x = S y) : x = y := by simpa [S] using h
theorem S_beq (x y : List Nat) : (S x == S y) = decide (x = y) := by
  by_cases h : x = y
  · subst h; simp
  · have : ¬ S x = S y := fun q => h (S_inj q)
    simp [h, this]
theorem S_len (x : List Nat) : (S x).length = x.length := by simp [S, Str.length]
theorem S_app (x y : List Nat) : S x ++ S y = S (x ++ y) := by
  show PySem.Str.append _ _ = _
  simp [S, PySem.Str.append]
/-! ints -/
theorem Op2.addI : Op2 c n mu (binaryOp .Add) (.int a) (.int b) (.int (a + b)) mu := ⟨fun g al s A _ _ _ st ⟨t, e1⟩ ⟨u, e2⟩ => by
  subst e1; subst e2; exact add_int ⟨g, al, .refl .., st.toks, ⟨_, rfl⟩⟩⟩
theorem Op2.subI : Op2 c n mu (binaryOp .Sub) (.int a) (.int b) (.int (a - b)) mu := ⟨fun g al s A _ _ _ st ⟨t, e1⟩ ⟨u, e2⟩ => by
  subst e1; subst e2; exact sub_int ⟨g, al, .refl .., st.toks, ⟨_, rfl⟩⟩⟩
theorem Op2.mulI (h : IntMulOk a b) : Op2 c n mu (binaryOp .Mult) (.int a) (.int b) (.int (a * b)) mu := ⟨fun g al s A _ _ _ st ⟨t, e1⟩ ⟨u, e2⟩ => by
  subst e1; subst e2; exact mul_int ⟨g, al, .refl .., st.toks, ⟨_, rfl⟩⟩ h⟩
theorem Op2.divI (h : b ≠ 0) (h2 : Builtin.divisionGoesByPylong a b = false) : Op2 c n mu (binaryOp .FloorDiv) (.int a) (.int b) (.int (a.fdiv b)) mu := ⟨fun g al s A _ _ _ st ⟨t, e1⟩ ⟨u, e2⟩ => by
  subst e1; subst e2; exact floordiv_int h ⟨g, al, .refl .., st.toks, ⟨_, rfl⟩⟩ (.inl h2)⟩
theorem Op2.modI (h : b ≠ 0) : Op2 c n mu (binaryOp .Mod) (.int a) (.int b) (.int (a.fmod b)) mu := ⟨fun g al s A _ _ _ st ⟨t, e1⟩ ⟨u, e2⟩ => by
  subst e1; subst e2; exact mod_int' h ⟨g, al, .refl .., st.toks, ⟨_, rfl⟩⟩⟩
theorem Op2.powI (h : 0 ≤ b) (h2 : (Builtin.Int.intBits a : Int) * b ≤ 2 ^ 27) : Op2 c n mu (binaryOp .Pow) (.int a) (.int b) (.int (a ^ b.toNat)) mu := ⟨fun g al s A _ _ _ st ⟨t, e1⟩ ⟨u, e2⟩ => by
  subst e1; subst e2; exact pow_int h h2 ⟨g, al, .refl .., st.toks, ⟨_, rfl⟩⟩⟩
theorem Op2.iaddI : Op2 c n mu (inplaceOp .Add) (.int a) (.int b) (.int (a + b)) mu := ⟨fun g al s A _ _ _ st ⟨t, e1⟩ ⟨u, e2⟩ => by
  subst e1; subst e2; exact iadd_int ⟨g, al, .refl .., st.toks, ⟨_, rfl⟩⟩⟩
theorem Op2.imulI (h : IntMulOk a b) : Op2 c n mu (inplaceOp .Mult) (.int a) (.int b) (.int (a * b)) mu := ⟨fun g al s A _ _ _ st ⟨t, e1⟩ ⟨u, e2⟩ => by
  subst e1; subst e2; exact imul_int ⟨g, al, .refl .., st.toks, ⟨_, rfl⟩⟩ h⟩
theorem Op1.negI : Op1 c n mu (unaryOp .USub) (.int a) (.int (-a)) mu := ⟨fun g al s A _ _ st ⟨t, e1⟩ => by
  subst e1; exact neg_int ⟨g, al, .refl .., st.toks, ⟨_, rfl⟩⟩⟩
theorem Op2.eqI : Op2 c n mu (compareOp .Eq) (.int a) (.int b) (.bool (decide (a = b))) mu := ⟨fun g al s A _ _ _ st ⟨t, e1⟩ ⟨u, e2⟩ => by
  subst e1; subst e2; exact eq_int ⟨g, al, .refl .., st, by show _ = _; congr 1⟩⟩
theorem Op2.neI : Op2 c n mu (compareOp .NotEq) (.int a) (.int b) (.bool (!decide (a = b))) mu := ⟨fun g al s A _ _ _ st ⟨t, e1⟩ ⟨u, e2⟩ => by
  subst e1; subst e2; exact PyProof.Rows.ne_int ⟨g, al, .refl .., st, by show _ = _; congr 1⟩⟩
theorem Op2.ltI : Op2 c n mu (compareOp .Lt) (.int a) (.int b) (.bool (decide (a < b))) mu := ⟨fun g al s A _ _ _ st ⟨t, e1⟩ ⟨u, e2⟩ => by
  subst e1; subst e2; exact lt_int ⟨g, al, .refl .., st, rfl⟩⟩
theorem Op2.leI : Op2 c n mu (compareOp .LtE) (.int a) (.int b) (.bool (decide (a ≤ b))) mu := ⟨fun g al s A _ _ _ st ⟨t, e1⟩ ⟨u, e2⟩ => by
  subst e1; subst e2; exact PyProof.Rows.le_int ⟨g, al, .refl .., st, rfl⟩⟩
theorem Op2.gtI : Op2 c n mu (compareOp .Gt) (.int a) (.int b) (.bool (decide (b < a))) mu := ⟨fun g al s A _ _ _ st ⟨t, e1⟩ ⟨u, e2⟩ => by
  subst e1; subst e2; exact PyProof.Rows.gt_int ⟨g, al, .refl .., st, rfl⟩⟩
theorem Op2.geI : Op2 c n mu (compareOp .GtE) (.int a) (.int b) (.bool (decide (b ≤ a))) mu := ⟨fun g al s A _ _ _ st ⟨t, e1⟩ ⟨u, e2⟩ => by
  subst e1; subst e2; exact PyProof.Rows.ge_int ⟨g, al, .refl .., st, rfl⟩⟩
/-! texts -/
theorem Op2.addS (h : x.length + y.length ≤ sizeLine) : Op2 c n mu (binaryOp .Add) (.str x) (.str y) (.str (x ++ y)) mu := ⟨fun g al s A _ _ _ st ⟨t, e1⟩ ⟨u, e2⟩ => by
  subst e1; subst e2
  exact add_str (fun t' tk => ⟨g, al, .refl .., st.toks, ⟨t', congrArg (fun z => Value.str z t') (S_app x y)⟩⟩) (by simpa [Str.length] using h)⟩
theorem Op2.eqS : Op2 c n mu (compareOp .Eq) (.str x) (.str y) (.bool (decide (x = y))) mu := ⟨fun g al s A _ _ _ st ⟨t, e1⟩ ⟨u, e2⟩ => by
  subst e1; subst e2; exact eq_str ⟨g, al, .refl .., st, congrArg Value.bool (S_beq x y)⟩⟩
theorem Op2.neS : Op2 c n mu (compareOp .NotEq) (.str x) (.str y) (.bool (!decide (x = y))) mu := ⟨fun g al s A _ _ _ st ⟨t, e1⟩ ⟨u, e2⟩ => by
  subst e1; subst e2; exact ne_str ⟨g, al, .refl .., st, congrArg (fun b => Value.bool (!b)) (S_beq x y)⟩⟩
theorem Op2.leS : Op2 c n mu (compareOp .LtE) (.str x) (.str y) (.bool (!decide (y < x))) mu := ⟨fun g al s A _ _ _ st ⟨t, e1⟩ ⟨u, e2⟩ => by
  subst e1; subst e2; exact PySem.P.le_str ⟨g, al, .refl .., st, by show _ = _; simp⟩⟩
end
end
-- text M4
section
section
variable {c : Cx} {F : FS} {n : Nat} {ρ : Loc} {mu mu₁ mu₂ mu₃ mu₄ : Mem} {pos : Pos} {e e₁ e₂ e₃ : Expr} {p q r v : PV} {a b : Int} {x y : List Nat}
theorem Post.made {g : GH} {al : List Addr} {s s' : Shared} {d : Addr} {o : Obj} (st : St c g al mu s) (k : ∀ b o', s.heap.get? b = some o' → s'.heap.get? b = some o') (hn : s.heap.get? d = none) (hd : s'.heap.get? d = some o)
    (hg : s'.gens = s.gens) (ho : s'.os = s.os) (r : Rep (g.upd d o) al v (.ref d)) : Post c g al s.heap v mu (.ref d) s' := by
  have gd : g d = none := by
    cases q : g d with
    | none => rfl
    | some o' => rw [st.hs.keep d o' q] at hn; cases hn
  have ad : d ∉ al := fun m => by obtain ⟨o', e⟩ := st.hs.alive m; rw [e] at hn; cases hn
  exact ⟨g.upd d o, al, Step.learn k gd hn, ⟨(st.hs.grow k).learn hd gd ad, hg.trans st.gens, ho.trans st.os⟩, r⟩
theorem Post.madeCell {g : GH} {al : List Addr} {s s' : Shared} {d : Addr} {cl : Cell} (st : St c g al mu s) (k : ∀ b o', s.heap.get? b = some o' → s'.heap.get? b = some o') (hn : s.heap.get? d = none)
    (hd : CellAt g (al ++ [d]) c.w.params s'.heap d cl) (hg : s'.gens = s.gens) (ho : s'.os = s.os) : Post c g al s.heap (.cell mu.length) (mu ++ [cl]) (.ref d) s' := by
  have gd : g d = none := by
    cases q : g d with
    | none => rfl
    | some o' => rw [st.hs.keep d o' q] at hn; cases hn
  have ad : d ∉ al := fun m => by obtain ⟨o', e⟩ := st.hs.alive m; rw [e] at hn; cases hn
  refine ⟨g, al ++ [d], Step.cell k hn, ⟨(st.hs.grow k).newCell gd ad hd, hg.trans st.gens, ho.trans st.os⟩, d, rfl, ?_⟩
  rw [← st.hs.len]; simp
theorem size_none (h : Heap) : h.get? h.objs.size = none := by
  cases q : h.get? h.objs.size with
  | none => rfl
  | some o => exact absurd (Heap.lt_size q) (Nat.lt_irrefl _)
theorem size_none' {h : Heap} {d : Addr} (hd : h.objs.size ≤ d) : h.get? d = none := by
  cases q : h.get? d with
  | none => rfl
  | some o => exact absurd (Heap.lt_size q) (Nat.not_lt.mpr hd)
theorem Post.turn {g : GH} {al : List Addr} {s s' : Shared} {k : Nat} {d : Addr} {cl : Cell} {z : Value} (st : St c g al mu s) (hk : al[k]? = some d) (keep : ∀ b o, b ≠ d → s.heap.get? b = some o → s'.heap.get? b = some o)
    (hc : CellAt g al c.w.params s'.heap d cl) (hg : s'.gens = s.gens) (ho : s'.os = s.os) (r : Rep g al v z) : Post c g al s.heap v (mu.set k cl) z s' := by
  obtain ⟨o', e⟩ := hc.ex
  exact ⟨g, al, Step.turn (List.mem_of_getElem? hk) keep e, ⟨st.hs.turn hk keep hc, hg.trans st.gens, ho.trans st.os⟩, r⟩
/-! displays -/
theorem EvL.nil : EvL c F n ρ mu [] [] mu := ⟨fun _ g al _ _ _ _ X => wpAny_items_nil ⟨g, al, .refl .., X.st, rfl⟩⟩
theorem star_cons {e : Expr} {rest : List Expr} {env : Env} (h : isStarred e = false) : starEach (e :: rest) env = (false, eval e env) :: starEach rest env := by
  cases e <;> first | rfl | (simp [isStarred] at h)
theorem EvL.cons {rest : List Expr} {vs : List PV} (h : Ev c F n ρ mu e p mu₁) (t : EvL c F n ρ mu₁ rest vs mu₂) (hs : isStarred e = false := by rfl) : EvL c F n ρ mu (e :: rest) (p :: vs) mu₂ := by
  refine ⟨fun env g al s A pos R X => wpAny_items_cons (thn (h.run env g al s A R X) fun x s₁ g₁ al₁ S₁ st₁ r₁ => ?_) (star_cons hs)⟩
  refine thnL (t.run env g₁ al₁ s₁ A pos R (X.step S₁ st₁)) fun xs s₂ g₂ al₂ S₂ st₂ r₂ => ⟨g₂, al₂, S₁.trans S₂, st₂, x, xs, rfl, Rep.ext S₂.ext _ _ r₁, r₂⟩
theorem Ev.tup {es : List Expr} {vs : List PV} {k : Nat} (h : EvL c F n ρ mu es vs mu₁) (hz : vs.length ≤ sizeLine := by exact Nat.le_of_ble_eq_true rfl) : Ev c F n ρ mu (.Tuple es k pos) (.tup vs) mu₁ := by
  refine ⟨fun env g al s A R X => wpAny_Tuple (thnL (h.run env g al s A pos R X) fun xs s₁ g₁ al₁ S₁ st₁ r₁ => ⟨by rw [r₁.length]; exact hz, ?_⟩)⟩
  refine Post.after S₁ (Post.made (o := tupObj xs 0) st₁ (fun _ _ e => Heap.get?_push_of_some _ e) (size_none _) (Heap.get?_push_size _ rfl) rfl rfl ?_)
  exact ⟨_, xs, 0, rfl, GH.upd_self .., RepL.ext (HS.ext_learn (st₁.hs.free (Nat.le_refl _)).1) _ _ r₁⟩
theorem Ev.lst {es : List Expr} {vs : List PV} (h : EvL c F n ρ mu es vs mu₁) (hz : vs.length ≤ sizeLine := by exact Nat.le_of_ble_eq_true rfl) : Ev c F n ρ mu (.List es pos) (.lst vs) mu₁ := by
  refine ⟨fun env g al s A R X => wpAny_List (thnL (h.run env g al s A pos R X) fun xs s₁ g₁ al₁ S₁ st₁ r₁ => ⟨by rw [r₁.length]; exact hz, ?_⟩)⟩
  refine Post.after S₁ (Post.made (o := lstObj xs 0) st₁ (fun _ _ e => Heap.get?_push_of_some _ e) (size_none _) (Heap.get?_push_size _ rfl) rfl rfl ?_)
  exact ⟨_, xs, 0, rfl, GH.upd_self .., RepL.ext (HS.ext_learn (st₁.hs.free (Nat.le_refl _)).1) _ _ r₁⟩
theorem Ev.lstM {es : List Expr} {vs : List PV} (h : EvL c F n ρ mu es vs mu₁) (hz : vs.length ≤ sizeLine := by exact Nat.le_of_ble_eq_true rfl) : Ev c F n ρ mu (.List es pos) (.cell mu₁.length) (mu₁ ++ [.list vs]) := by
  refine ⟨fun env g al s A R X => wpAny_List (thnL (h.run env g al s A pos R X) fun xs s₁ g₁ al₁ S₁ st₁ r₁ => ⟨by rw [r₁.length]; exact hz, ?_⟩)⟩
  refine Post.after S₁ (Post.madeCell st₁ (fun _ _ e => Heap.get?_push_of_some _ e) (size_none _) ⟨xs, 0, Heap.get?_push_size _ rfl, ?_⟩ rfl rfl)
  exact RepL.ext ⟨fun _ _ e => e, List.prefix_append _ _⟩ _ _ r₁
/-! comparisons, bools -/
theorem Ev.cmp {op : CmpOp} (ha : Ev c F n ρ mu e₁ p mu₁) (hb : Ev c F n ρ mu₁ e₂ q mu₂) (ho : Op2 c n mu₂ (compareOp op) p q v mu₃) (hm : behindInMarks op e₂ = false := by rfl) : Ev c F n ρ mu (.Compare e₁ [op] [e₂] pos) v mu₃ := by
  refine ⟨fun env g al s A R X => wpAny_Compare1 (thn (ha.run env g al s A R X) fun x s₁ g₁ al₁ S₁ st₁ r₁ => ?_) hm⟩
  have X₁ := X.step S₁ st₁
  refine thn (hb.run env g₁ al₁ s₁ A R X₁) fun y s₂ g₂ al₂ S₂ st₂ r₂ => ?_
  exact wpAny_mono (ho.run g₂ al₂ s₂ A x y R st₂ (Rep.ext S₂.ext _ _ r₁) r₂) (fun z s₃ h => (h.after S₂).after S₁) fun _ _ x => x
theorem OpB.bool {b : Bool} : OpB c n mu truthy (.bool b) b mu := ⟨fun g al s A x _ st e => by
  have : x = .bool b := e
  subst this; exact wpAny_truthy_bool ⟨rfl, g, al, .refl .., st⟩⟩
theorem Ts.cmp {op : CmpOp} {t : Bool} (ha : Ev c F n ρ mu e₁ p mu₁) (hb : Ev c F n ρ mu₁ e₂ q mu₂) (ho : Op2 c n mu₂ (compareOp op) p q (.bool t) mu₃) (hm : behindInMarks op e₂ = false := by rfl) : Ts c F n ρ mu (.Compare e₁ [op] [e₂] pos) t mu₃ := by
  refine ⟨fun env g al s A R X => wpAny_isTrue_Compare1 (thn (ha.run env g al s A R X) fun x s₁ g₁ al₁ S₁ st₁ r₁ => ?_) hm⟩
  have X₁ := X.step S₁ st₁
  refine thn (hb.run env g₁ al₁ s₁ A R X₁) fun y s₂ g₂ al₂ S₂ st₂ r₂ => ?_
  refine thn (ho.run g₂ al₂ s₂ A x y R st₂ (Rep.ext S₂.ext _ _ r₁) r₂) fun z s₃ g₃ al₃ S₃ st₃ r₃ => ?_
  have : z = .bool t := r₃
  subst this
  exact wpAny_truthy_bool ⟨rfl, g₃, al₃, (S₁.trans S₂).trans S₃, st₃⟩
theorem Ts.of {t : Bool} (h : Ev c F n ρ mu e p mu₁) (ho : OpB c n mu₁ truthy p t mu₂) (he : ∀ env w, isTrue e env w = (do let v ← w; standAt e.pos; holding [v] (truthy v)) := by intro _ _; rfl) : Ts c F n ρ mu e t mu₂ := by
  refine ⟨fun env g al s A R X => wpAny_isTrue_value (thn (h.run env g al s A R X) fun x s₁ g₁ al₁ S₁ st₁ r₁ => ?_) (he env _)⟩
  exact thnB (ho.run g₁ al₁ s₁ A x R st₁ r₁) fun s₂ g₂ al₂ S₂ st₂ => ⟨rfl, g₂, al₂, S₁.trans S₂, st₂⟩
theorem Ts.not {t : Bool} (h : Ts c F n ρ mu e t mu₁) : Ts c F n ρ mu (.UnaryOp .Not e pos) (!t) mu₁ :=
  ⟨fun env g al s A R X => wpAny_isTrue_Not (thnB (h.run env g al s A R X) fun _ g₁ al₁ S₁ st₁ => ⟨rfl, g₁, al₁, S₁, st₁⟩)⟩
structure TsAll (c : Cx) (F : FS) (n : Nat) (ρ : Loc) (mu : Mem) (op : BoolOp) (es : List Expr) (b : Bool) (mu' : Mem) : Prop where
  run : ∀ env g al s A, Room n A → FSt c F env g al ρ mu s → wpAny (Md c) A (allTrue op es env) (PostB c g al s.heap b mu') NoE s
theorem Ts.boolop {op : BoolOp} {es : List Expr} {t : Bool} (h : TsAll c F n ρ mu op es t mu₁) : Ts c F n ρ mu (.BoolOp op es pos) t mu₁ :=
  ⟨fun env g al s A R X => wpAny_isTrue_BoolOp (h.run env g al s A R X)⟩
theorem TsAll.andNil : TsAll c F n ρ mu .And [] true mu := ⟨fun _ g al _ _ _ X => wpAny_allTrue_And_nil ⟨rfl, g, al, .refl .., X.st⟩⟩
theorem TsAll.orNil : TsAll c F n ρ mu .Or [] false mu := ⟨fun _ g al _ _ _ X => wpAny_allTrue_Or_nil ⟨rfl, g, al, .refl .., X.st⟩⟩
theorem TsAll.andF {es : List Expr} (h : Ts c F n ρ mu e false mu₁) : TsAll c F n ρ mu .And (e :: es) false mu₁ :=
  ⟨fun env g al s A R X => wpAny_allTrue_And_cons (thnB (h.run env g al s A R X) fun _ g₁ al₁ S₁ st₁ => ⟨rfl, g₁, al₁, S₁, st₁⟩)⟩
theorem TsAll.andT {es : List Expr} {t : Bool} (h : Ts c F n ρ mu e true mu₁) (k : TsAll c F n ρ mu₁ .And es t mu₂) : TsAll c F n ρ mu .And (e :: es) t mu₂ :=
  ⟨fun env g al s A R X => wpAny_allTrue_And_cons (thnB (h.run env g al s A R X) fun s₁ g₁ al₁ S₁ st₁ => wpAny_mono (k.run env g₁ al₁ s₁ A R (X.step S₁ st₁)) (fun _ _ h => h.after S₁) fun _ _ x => x)⟩
theorem TsAll.orT {es : List Expr} (h : Ts c F n ρ mu e true mu₁) : TsAll c F n ρ mu .Or (e :: es) true mu₁ :=
  ⟨fun env g al s A R X => wpAny_allTrue_Or_cons (thnB (h.run env g al s A R X) fun _ g₁ al₁ S₁ st₁ => ⟨rfl, g₁, al₁, S₁, st₁⟩)⟩
theorem TsAll.orF {es : List Expr} {t : Bool} (h : Ts c F n ρ mu e false mu₁) (k : TsAll c F n ρ mu₁ .Or es t mu₂) : TsAll c F n ρ mu .Or (e :: es) t mu₂ :=
  ⟨fun env g al s A R X => wpAny_allTrue_Or_cons (thnB (h.run env g al s A R X) fun s₁ g₁ al₁ S₁ st₁ => wpAny_mono (k.run env g₁ al₁ s₁ A R (X.step S₁ st₁)) (fun _ _ h => h.after S₁) fun _ _ x => x)⟩
theorem TsAll.and {es : List Expr} {t u : Bool} (h : Ts c F n ρ mu e t mu) (k : t = true → TsAll c F n ρ mu .And es u mu) : TsAll c F n ρ mu .And (e :: es) (t && u) mu := by
  cases t with
  | false => exact TsAll.andF h
  | true => exact TsAll.andT h (k rfl)
theorem TsAll.or {es : List Expr} {t u : Bool} (h : Ts c F n ρ mu e t mu) (k : t = false → TsAll c F n ρ mu .Or es u mu) : TsAll c F n ρ mu .Or (e :: es) (t || u) mu := by
  cases t with
  | true => exact TsAll.orT h
  | false => exact TsAll.orF h (k rfl)
theorem Ev.chain {op op' : CmpOp} {t u : Bool} (ha : Ev c F n ρ mu e₁ p mu) (hb : Ev c F n ρ mu e₂ q mu) (ho : Op2 c n mu (compareOp op) p q (.bool t) mu) (hc : Ev c F n ρ mu e₃ r mu) (ho' : Op2 c n mu (compareOp op') q r (.bool u) mu)
    (hm' : behindInMarks op' e₃ = false := by rfl) : Ev c F n ρ mu (.Compare e₁ [op, op'] [e₂, e₃] pos) (.bool (t && u)) mu := by
  refine ⟨fun env g al s A R X => ?_⟩
  show wpAny _ A (eval e₁ env >>= fun l => compareChain pos l [op, op'] [eval e₂ env, markedBehindIn op' e₃ (eval e₃ env)]) _ _ s
  rw [markedBehindIn_of_false hm']
  refine wpAny_bind (thn (ha.run env g al s A R X) fun x s₁ g₁ al₁ S₁ st₁ r₁ => ?_)
  have X₁ := X.step S₁ st₁
  show wpAny _ A (do let rv ← holding [x] (eval e₂ env); standAt pos; let c ← holding [x, rv] (compareOp op x rv); release [x, rv] [c]; if ← holding [c, rv] (truthy c) then compareChain pos rv [op'] [eval e₃ env] else pure c) _ _ s₁
  refine wpAny_bind (wpAny_holding (thn (hb.run env g₁ al₁ s₁ A R X₁) fun y s₂ g₂ al₂ S₂ st₂ r₂ => wpAny_bind (wpAny_standAt (wpAny_bind (wpAny_holding (thn (ho.run g₂ al₂ s₂ A x y R st₂ (Rep.ext S₂.ext _ _ r₁) r₂) fun z s₃ g₃ al₃ S₃ st₃ r₃ => ?_))))))
  have : z = .bool t := r₃
  subst this
  have X₃ := (X₁.step S₂ st₂).step S₃ st₃
  refine wpAny_bind (m := release _ _) ?_
  have rel : ∀ (vs ks : List Value) (Q : Unit → Shared → Prop) s, Q () s → wpAny (Md c) A (release vs ks) Q NoE s := fun vs ks Q s h Γ p _ => by rw [Sem.wp_release]; exact h
  refine rel _ _ _ _ (wpAny_bind (wpAny_holding (wpAny_truthy_bool ?_)))
  have S := (S₁.trans S₂).trans S₃
  cases t with
  | false => exact wpAny_pure ⟨g₃, al₃, S, st₃, by rw [Bool.false_and]; rfl⟩
  | true =>
    show wpAny _ A (do let rv ← holding [y] (eval e₃ env); standAt pos; operate [y, rv] (compareOp op' y rv)) _ _ s₃
    refine wpAny_bind (wpAny_holding (thn (hc.run env g₃ al₃ s₃ A R X₃) fun w s₄ g₄ al₄ S₄ st₄ r₄ => wpAny_bind (wpAny_standAt (wpAny_operating ?_))))
    refine wpAny_mono (ho'.run g₄ al₄ s₄ A y w R st₄ (Rep.ext (S₃.ext.trans S₄.ext) _ _ r₂) r₄) (fun z s₅ h => ?_) fun _ _ x => x
    exact (h.after S₄).after S
theorem Ts.chain {op op' : CmpOp} {t u : Bool} (ha : Ev c F n ρ mu e₁ p mu) (hb : Ev c F n ρ mu e₂ q mu) (ho : Op2 c n mu (compareOp op) p q (.bool t) mu) (hc : Ev c F n ρ mu e₃ r mu) (ho' : Op2 c n mu (compareOp op') q r (.bool u) mu)
    (hm' : behindInMarks op' e₃ = false := by rfl) : Ts c F n ρ mu (.Compare e₁ [op, op'] [e₂, e₃] pos) (t && u) mu := by
  refine ⟨fun env g al s A R X => ?_⟩
  show wpAny _ A (eval e₁ env >>= fun l => testChain pos l [op, op'] [eval e₂ env, markedBehindIn op' e₃ (eval e₃ env)]) _ _ s
  rw [markedBehindIn_of_false hm']
  refine wpAny_bind (thn (ha.run env g al s A R X) fun x s₁ g₁ al₁ S₁ st₁ r₁ => ?_)
  have X₁ := X.step S₁ st₁
  show wpAny _ A (do let rv ← holding [x] (eval e₂ env); standAt pos; let c ← holding [x, rv] (compareOp op x rv); release [x, rv] [c]; if ← holding [c, rv] (truthy c) then testChain pos rv [op'] [eval e₃ env] else pure false) _ _ s₁
  refine wpAny_bind (wpAny_holding (thn (hb.run env g₁ al₁ s₁ A R X₁) fun y s₂ g₂ al₂ S₂ st₂ r₂ => wpAny_bind (wpAny_standAt (wpAny_bind (wpAny_holding (thn (ho.run g₂ al₂ s₂ A x y R st₂ (Rep.ext S₂.ext _ _ r₁) r₂) fun z s₃ g₃ al₃ S₃ st₃ r₃ => ?_))))))
  have : z = .bool t := r₃
  subst this
  have X₃ := (X₁.step S₂ st₂).step S₃ st₃
  refine wpAny_bind (m := release _ _) ?_
  have rel : ∀ (vs ks : List Value) (Q : Unit → Shared → Prop) s, Q () s → wpAny (Md c) A (release vs ks) Q NoE s := fun vs ks Q s h Γ p _ => by rw [Sem.wp_release]; exact h
  refine rel _ _ _ _ (wpAny_bind (wpAny_holding (wpAny_truthy_bool ?_)))
  have S := (S₁.trans S₂).trans S₃
  cases t with
  | false => exact wpAny_pure ⟨by rw [Bool.false_and], g₃, al₃, S, st₃⟩
  | true =>
    show wpAny _ A (do let rv ← holding [y] (eval e₃ env); standAt pos; let c ← operate [y, rv] (compareOp op' y rv); holding [c] (truthy c)) _ _ s₃
    refine wpAny_bind (wpAny_holding (thn (hc.run env g₃ al₃ s₃ A R X₃) fun w s₄ g₄ al₄ S₄ st₄ r₄ => wpAny_bind (wpAny_standAt (wpAny_bind (wpAny_operating ?_)))))
    refine thn (ho'.run g₄ al₄ s₄ A y w R st₄ (Rep.ext (S₃.ext.trans S₄.ext) _ _ r₂) r₄) fun z s₅ g₅ al₅ S₅ st₅ r₅ => wpAny_holding ?_
    have : z = .bool u := r₅
    subst this
    exact wpAny_truthy_bool ⟨by rw [Bool.true_and], g₅, al₅, (S.trans S₄).trans S₅, st₅⟩
end
end
-- text M5
section
section
variable {c : Cx} {F : FS} {n : Nat} {ρ : Loc} {mu mu₁ mu₂ mu₃ mu₄ : Mem} {pos : Pos} {e e₁ e₂ e₃ : Expr} {p q r v : PV} {a b i j : Int} {x y : List Nat}
/-! bools as values -/
structure EvB (c : Cx) (F : FS) (n : Nat) (ρ : Loc) (mu : Mem) (op : BoolOp) (es : List Expr) (v : PV) (mu' : Mem) : Prop where
  run : ∀ env g al s A pos, Room n A → FSt c F env g al ρ mu s → wpAny (Md c) A (boolOp pos op (evalEach es env)) (Post c g al s.heap v mu') NoE s
theorem Ev.boolop {op : BoolOp} {es : List Expr} (h : EvB c F n ρ mu op es v mu₁) : Ev c F n ρ mu (.BoolOp op es pos) v mu₁ :=
  ⟨fun env g al s A R X => h.run env g al s A pos R X⟩
theorem EvB.one {op : BoolOp} (h : Ev c F n ρ mu e v mu₁) : EvB c F n ρ mu op [e] v mu₁ := ⟨fun env g al s A _ R X => h.run env g al s A R X⟩
theorem EvB.step {op : BoolOp} {es : List Expr} {t : Bool} (h : Ev c F n ρ mu e (.bool t) mu₁)
    (k1 : (match op, t with | .And, false | .Or, true => true | _, _ => false) = true → v = .bool t ∧ mu₂ = mu₁) (k2 : (match op, t with | .And, false | .Or, true => true | _, _ => false) = false → EvB c F n ρ mu₁ op (e₁ :: es) v mu₂) : EvB c F n ρ mu op (e :: e₁ :: es) v mu₂ := by
  refine ⟨fun env g al s A pos R X => ?_⟩
  show wpAny _ A (do
    let v ← eval e env
    standAt pos
    let t ← holding [v] (truthy v)
    match op, t with
    | .And, false | .Or, true => pure v
    | _, _ => boolOp pos op (evalEach (e₁ :: es) env)) _ _ s
  refine wpAny_bind (thn (h.run env g al s A R X) fun x s₁ g₁ al₁ S₁ st₁ r₁ => wpAny_bind (wpAny_standAt (wpAny_bind (wpAny_holding ?_))))
  have : x = .bool t := r₁
  subst this
  refine wpAny_truthy_bool ?_
  cases op <;> cases t
  · obtain ⟨e1, e2⟩ := k1 rfl; subst e1; subst e2; exact wpAny_pure ⟨g₁, al₁, S₁, st₁, rfl⟩
  · exact wpAny_mono ((k2 rfl).run env g₁ al₁ s₁ A pos R (X.step S₁ st₁)) (fun _ _ h => h.after S₁) fun _ _ x => x
  · exact wpAny_mono ((k2 rfl).run env g₁ al₁ s₁ A pos R (X.step S₁ st₁)) (fun _ _ h => h.after S₁) fun _ _ x => x
  · obtain ⟨e1, e2⟩ := k1 rfl; subst e1; subst e2; exact wpAny_pure ⟨g₁, al₁, S₁, st₁, rfl⟩
theorem EvB.andT {es : List Expr} (h : Ev c F n ρ mu e (.bool true) mu₁) (k : EvB c F n ρ mu₁ .And (e₁ :: es) v mu₂) : EvB c F n ρ mu .And (e :: e₁ :: es) v mu₂ := EvB.step h (fun x => by cases x) (fun _ => k)
theorem EvB.orT {es : List Expr} (h : Ev c F n ρ mu e (.bool true) mu₁) : EvB c F n ρ mu .Or (e :: e₁ :: es) (.bool true) mu₁ := EvB.step h (fun _ => ⟨rfl, rfl⟩) (fun x => by cases x)
theorem EvB.orF {es : List Expr} (h : Ev c F n ρ mu e (.bool false) mu₁) (k : EvB c F n ρ mu₁ .Or (e₁ :: es) v mu₂) : EvB c F n ρ mu .Or (e :: e₁ :: es) v mu₂ := EvB.step h (fun x => by cases x) (fun _ => k)
theorem EvB.or {es : List Expr} {t u : Bool} (h : Ev c F n ρ mu e (.bool t) mu) (k : t = false → EvB c F n ρ mu .Or (e₁ :: es) (.bool u) mu) : EvB c F n ρ mu .Or (e :: e₁ :: es) (.bool (t || u)) mu := by
  cases t with
  | true => exact EvB.orT h
  | false => exact EvB.orF h (k rfl)
theorem Ev.ife {t : Bool} (h : Ts c F n ρ mu e t mu₁) (h1 : t = true → Ev c F n ρ mu₁ e₁ v mu₂) (h2 : t = false → Ev c F n ρ mu₁ e₂ v mu₂) : Ev c F n ρ mu (.IfExp e e₁ e₂ pos) v mu₂ := by
  refine ⟨fun env g al s A R X => wpAny_IfExp (thnB (h.run env g al s A R X) fun s₁ g₁ al₁ S₁ st₁ => ?_)⟩
  cases t with
  | true => exact wpAny_mono ((h1 rfl).run env g₁ al₁ s₁ A R (X.step S₁ st₁)) (fun _ _ h => h.after S₁) fun _ _ x => x
  | false => exact wpAny_mono ((h2 rfl).run env g₁ al₁ s₁ A R (X.step S₁ st₁)) (fun _ _ h => h.after S₁) fun _ _ x => x
theorem Ev.un {op : UnaryOp} (h : Ev c F n ρ mu e p mu₁) (ho : Op1 c n mu₁ (unaryOp op) p v mu₂) : Ev c F n ρ mu (.UnaryOp op e pos) v mu₂ :=
  ⟨fun env g al s A R X => wpAny_UnaryOp (thn (h.run env g al s A R X) fun x s₁ g₁ al₁ S₁ st₁ r₁ => wpAny_mono (ho.run g₁ al₁ s₁ A x R st₁ r₁) (fun _ _ h => h.after S₁) fun _ _ x => x)⟩
/-! items -/
theorem Ev.sub {sl : Expr} (ha : Ev c F n ρ mu e₁ p mu₁) (hb : Ev c F n ρ mu₁ sl q mu₂) (ho : Op2 c n mu₂ (subscriptTail e₁ sl) p q v mu₃) : Ev c F n ρ mu (.Subscript e₁ sl pos) v mu₃ := by
  refine ⟨fun env g al s A R X => Subscript_ (thn (ha.run env g al s A R X) fun x s₁ g₁ al₁ S₁ st₁ r₁ => ?_)⟩
  have X₁ := X.step S₁ st₁
  refine thn (hb.run env g₁ al₁ s₁ A R X₁) fun y s₂ g₂ al₂ S₂ st₂ r₂ => ?_
  exact wpAny_mono (ho.run g₂ al₂ s₂ A x y R st₂ (Rep.ext S₂.ext _ _ r₁) r₂) (fun z s₃ h => (h.after S₂).after S₁) fun _ _ x => x
theorem subs_any (sl : Expr) (o i : Value) : ∃ ops, subscripted sl false o i = operate ops (getItem o i) := by
  unfold subscripted
  split
  · exact ⟨_, rfl⟩
  · contradiction
  · exact ⟨_, rfl⟩
theorem seqIdx {i : Int} {n : Nat} (h0 : 0 ≤ i) (h1 : i < n) : seqIndex? i n = some i.toNat := by
  unfold seqIndex?
  have : ¬ i < 0 := by omega
  simp [this, h0, h1]
theorem Op2.idxS {vl sl : Expr} {k : Nat} (h0 : 0 ≤ i) (h : x[i.toNat]? = some k) (hz : x.length ≤ sizeLine) : Op2 c n mu (subscriptTail vl sl) (.str x) (.int i) (.str [k]) mu := ⟨fun g al s A _ _ _ st ⟨t, e1⟩ ⟨u, e2⟩ => by
  subst e1; subst e2
  obtain ⟨ops, hs⟩ := subs_any sl (.str (S x) t) (.int i u)
  have hl : i.toNat < x.length := by
    by_cases q : i.toNat < x.length
    · exact q
    · rw [List.getElem?_eq_none (by omega)] at h; cases h
  have hz' : sizeLine = 2 ^ 24 := rfl
  refine tail_any (typeIs_str _ _ _) F.slot_str_getitem.lookup (PySem.P.getItem_str (c := k) ?_ ?_ ⟨g, al, .refl .., st.toks, ⟨_, rfl⟩⟩) hs
  · rw [Bool.or_eq_false_iff]; exact ⟨decide_eq_false (by omega), decide_eq_false (by omega)⟩
  · rw [show (S x).length = x.length from S_len x, seqIdx h0 (by omega)]
    simpa using h⟩
theorem Op2.idxT {vl sl : Expr} {ps : List PV} (h0 : 0 ≤ i) (h : ps[i.toNat]? = some v) (hz : i < 2 ^ 63) : Op2 c n mu (subscriptTail vl sl) (.tup ps) (.int i) v mu := ⟨fun g al s A _ _ _ st ⟨d, vs, m, e1, hd, r⟩ ⟨u, e2⟩ => by
  subst e1; subst e2
  obtain ⟨ops, hs⟩ := subs_any sl (.ref d) (.int i u)
  obtain ⟨y, hy, ry⟩ := r.get h
  have hT : IsTup s.heap d vs.toArray := ⟨_, st.hs.keep _ _ hd, rfl, m, rfl⟩
  have hl : i.toNat < vs.length := by
    by_cases q : i.toNat < vs.length
    · exact q
    · rw [List.getElem?_eq_none (by omega)] at hy; cases hy
  refine tail_any ⟨_, st.hs.keep _ _ hd, rfl⟩ F.slot_tuple_getitem.lookup (getItem_tuple (j := i.toNat) hT (by omega) hz (by rw [List.size_toArray]; exact seqIdx h0 (by omega)) (by simpa using hy) ⟨g, al, .refl .., st, ry⟩) hs⟩
theorem Op2.idxL {vl sl : Expr} {ps : List PV} (h0 : 0 ≤ i) (h : ps[i.toNat]? = some v) (hz : i < 2 ^ 63) : Op2 c n mu (subscriptTail vl sl) (.lst ps) (.int i) v mu := ⟨fun g al s A _ _ _ st ⟨d, vs, m, e1, hd, r⟩ ⟨u, e2⟩ => by
  subst e1; subst e2
  obtain ⟨ops, hs⟩ := subs_any sl (.ref d) (.int i u)
  obtain ⟨y, hy, ry⟩ := r.get h
  have hL : s.heap.IsList d vs.toArray := ⟨_, st.hs.keep _ _ hd, rfl, m, rfl⟩
  refine tail_any hL.typeIs slot_list_getitem.lookup (wpAny_getItem_list hL h0 hz (by simpa using hy) ⟨g, al, .refl .., st, ry⟩) hs⟩
theorem St.list {g : GH} {al : List Addr} {s : Shared} {k : Nat} {ps : List PV} (st : St c g al mu s) {z : Value} (r : Rep g al (.cell k) z) (h : mu[k]? = some (.list ps)) :
    ∃ d vs m, z = .ref d ∧ al[k]? = some d ∧ s.heap.get? d = some (lstObj vs m) ∧ RepL g al ps vs := by
  obtain ⟨d, e, hk⟩ := r
  obtain ⟨vs, m, hd, r⟩ := st.hs.cells k d _ hk h
  exact ⟨d, vs, m, e, hk, hd, r⟩
theorem Op2.idxC {vl sl : Expr} {ps : List PV} {k : Nat} (hk : mu[k]? = some (.list ps)) (h0 : 0 ≤ i) (h : ps[i.toNat]? = some v) (hz : i < 2 ^ 63) : Op2 c n mu (subscriptTail vl sl) (.cell k) (.int i) v mu := ⟨fun g al s A _ _ _ st r1 ⟨u, e2⟩ => by
  obtain ⟨d, vs, m, e1, _, hd, r⟩ := st.list r1 hk
  subst e1; subst e2
  obtain ⟨ops, hs⟩ := subs_any sl (.ref d) (.int i u)
  obtain ⟨y, hy, ry⟩ := r.get h
  have hL : s.heap.IsList d vs.toArray := ⟨_, hd, rfl, m, rfl⟩
  refine tail_any hL.typeIs slot_list_getitem.lookup (wpAny_getItem_list hL h0 hz (by simpa using hy) ⟨g, al, .refl .., st, ry⟩) hs⟩
/-! slices of texts -/
theorem sl_clip (a b m : Nat) : Builtin.Str.strSliceIndices (some (a : Int)) (some (b : Int)) 1 m = Builtin.Str.strSliceIndices (some ((min a m : Nat) : Int)) (some ((min b m : Nat) : Int)) 1 m := by
  unfold Builtin.Str.strSliceIndices
  have h1 : ¬ ((a : Int) < 0) := by omega
  have h2 : ¬ ((b : Int) < 0) := by omega
  have h3 : ¬ (((min a m : Nat) : Int) < 0) := by omega
  have h4 : ¬ (((min b m : Nat) : Int) < 0) := by omega
  have e1 : max (0 : Int) (min (a : Int) (m : Int)) = max 0 (min ((min a m : Nat) : Int) m) := by omega
  have e2 : max (0 : Int) (min (b : Int) (m : Int)) = max 0 (min ((min b m : Nat) : Int) m) := by omega
  simp only [h1, h2, h3, h4, if_false, show ((1 : Int) > 0) = True from by simp, if_true, e1, e2]
theorem slice_nat (x : List Nat) (a b : Nat) (hab : a ≤ b) : Txt.slice (S x) (some (a : Int)) (some (b : Int)) = S ((x.drop a).take (b - a)) := by
  unfold Txt.slice
  rw [show (S x).length = x.length from S_len x, sl_clip]
  have hp := StrLaws.sliced_plain (S x) (a := min a x.length) (b := min b x.length) (by omega) (by rw [S_len]; omega)
  rw [S_len] at hp
  have key : (x.drop (min a x.length)).take (min b x.length - min a x.length) = (x.drop a).take (b - a) := by
    by_cases ha : a ≤ x.length
    · rw [show min a x.length = a by omega]
      by_cases hb : b ≤ x.length
      · rw [show min b x.length = b by omega]
      · rw [show min b x.length = x.length by omega, List.take_of_length_le (by simp), List.take_of_length_le (by simp; omega)]
    · rw [List.drop_eq_nil_of_le (by omega), List.drop_eq_nil_of_le (by omega)]; simp
  split
  · rename_i h
    simp only [BEq.rfl, Bool.true_and, beq_iff_eq] at h
    have hl := congrArg List.length hp
    rw [← key]
    congr 1
    -- all of it is taken
    rw [StrLaws.strSliceIndices_plain (by omega) (by omega)] at h
    simp at h
    have h0 : min a x.length = 0 ∨ x.length = 0 := by omega
    rcases h0 with h0 | h0
    · rw [h0, show min b x.length - 0 = x.length by omega]; simp
    · have : x = [] := List.eq_nil_of_length_eq_zero h0
      subst this; simp
  · rw [← key, ← (show (S x).cps.toList = x from by simp), ← hp]
theorem slice_from (x : List Nat) (a : Nat) : Txt.slice (S x) (some (a : Int)) none = S (x.drop a) := by
  have e : Txt.slice (S x) (some (a : Int)) none = Txt.slice (S x) (some (a : Int)) (some ((max a x.length : Nat) : Int)) := by
    unfold Txt.slice
    have : Builtin.Str.strSliceIndices (some (a : Int)) none 1 (S x).length = Builtin.Str.strSliceIndices (some (a : Int)) (some ((max a x.length : Nat) : Int)) 1 (S x).length := by
      rw [S_len]
      unfold Builtin.Str.strSliceIndices
      have h2 : ¬ (((max a x.length : Nat) : Int) < 0) := by omega
      have e2 : max (0 : Int) (min ((max a x.length : Nat) : Int) (x.length : Int)) = x.length := by omega
      simp only [h2, if_false, show ((1 : Int) > 0) = True from by simp, if_true, e2]
    rw [this]
  rw [e, slice_nat x a _ (by omega), List.take_of_length_le (by simp; omega)]
theorem slice_upto (x : List Nat) (b : Nat) : Txt.slice (S x) none (some (b : Int)) = S (x.take b) := by
  have e : Txt.slice (S x) none (some (b : Int)) = Txt.slice (S x) (some ((0 : Nat) : Int)) (some (b : Int)) := by
    unfold Txt.slice
    have : Builtin.Str.strSliceIndices none (some (b : Int)) 1 (S x).length = Builtin.Str.strSliceIndices (some ((0 : Nat) : Int)) (some (b : Int)) 1 (S x).length := by
      rw [S_len]
      unfold Builtin.Str.strSliceIndices
      have e2 : max (0 : Int) (min ((0 : Nat) : Int) (x.length : Int)) = 0 := by omega
      simp only [show ¬ (((0 : Nat) : Int) < 0) from by omega, if_false, show ((1 : Int) > 0) = True from by simp, if_true, e2]
    rw [this]
  rw [e, slice_nat x 0 b (by omega)]
  simp
end
end
-- text M6
section
section
variable {c : Cx} {F : FS} {n : Nat} {ρ : Loc} {mu mu₁ mu₂ mu₃ mu₄ : Mem} {pos : Pos} {e e₁ e₂ e₃ : Expr} {p q r v : PV} {a b i j : Int} {x y : List Nat}
theorem Post.junk {g : GH} {al : List Addr} {s s' : Shared} {z : Value} (st : St c g al mu s) (k : ∀ b o', s.heap.get? b = some o' → s'.heap.get? b = some o') (hg : s'.gens = s.gens) (ho : s'.os = s.os) (r : Rep g al v z) : Post c g al s.heap v mu z s' :=
  ⟨g, al, Step.grow k, ⟨st.hs.grow k, hg.trans st.gens, ho.trans st.os⟩, r⟩
theorem slice_post {g : GH} {al : List Addr} {s : Shared} {z : PySem.Str} {t : Tok} {l u : Option (Int × Tok)} {vl vu : Value} {y : List Nat} (st : St c g al mu s) (hz : z.length ≤ sizeLine) (h : Txt.slice z (l.map (·.1)) (u.map (·.1)) = S y) :
    (sliceMade z t l u none).post (Post c g al s.heap (.str y) mu) { s with heap := s.heap.push { cls := .type "slice", data := .fields #[vl, vu, .none] } } := by
  have key : ∀ t' k, Post c g al s.heap (.str y) mu (.str (Txt.slice z (l.map (·.1)) (u.map (·.1))) t') { s with heap := s.heap.push { cls := .type "slice", data := .fields #[vl, vu, .none] }, toks := k } := fun t' k => by
    rw [h]; exact Post.junk st (fun _ _ e => Heap.get?_push_of_some _ e) rfl rfl ⟨t', rfl⟩
  exact post_val_or_str ⟨Nat.le_trans (Txt.slice_le z _ _) hz, key⟩
theorem post_mono {z : PySem.Str} {t : Tok} {l u : Option (Int × Tok)} {Q Q' : Value → Shared → Prop} {s : Shared} (h : (sliceMade z t l u Option.none).post Q s) (k : ∀ v s, Q v s → Q' v s) : (sliceMade z t l u Option.none).post Q' s := by
  unfold sliceMade at h ⊢
  split
  · rename_i q; rw [if_pos q] at h; exact k _ _ h
  · rename_i q; rw [if_neg q] at h; exact ⟨h.1, k _ _ h.2⟩
theorem Ev.slSS {ea eb : Expr} {sp : Pos} (hv : Ev c F n ρ mu e (.str x) mu₁) (ha : Ev c F n ρ mu₁ ea (.int i) mu₂) (hb : Ev c F n ρ mu₂ eb (.int j) mu₃) (h0 : 0 ≤ i) (h1 : i ≤ j) (hz : x.length ≤ sizeLine)
    (ht : ∀ o r, letTemporaryGo e o r = pure () := by intro _ _; rfl) : Ev c F n ρ mu (.Subscript e (.Slice (some ea) (some eb) Option.none sp) pos) (.str ((x.drop i.toNat).take (j.toNat - i.toNat))) mu₃ := by
  refine ⟨fun env g al s A R X => wpAny_Subscript_str_slice (thn (hv.run env g al s A R X) fun z s₁ g₁ al₁ S₁ st₁ r₁ => evalPart_some_step ?_) ht⟩
  have X₁ := X.step S₁ st₁
  refine thn (ha.run env g₁ al₁ s₁ A R X₁) fun zi s₂ g₂ al₂ S₂ st₂ r₂ => evalPart_some_step (thn (hb.run env g₂ al₂ s₂ A R (X₁.step S₂ st₂)) fun zj s₃ g₃ al₃ S₃ st₃ r₃ => ?_)
  obtain ⟨t, rfl⟩ := r₁
  obtain ⟨ti, rfl⟩ := r₂
  obtain ⟨tj, rfl⟩ := r₃
  refine ⟨S x, t, some (i, ti), some (j, tj), rfl, rfl, rfl, ?_⟩
  have sp := slice_post (z := S x) (t := t) (l := some (i, ti)) (u := some (j, tj)) (vl := .int i ti) (vu := .int j tj) (y := (x.drop i.toNat).take (j.toNat - i.toNat)) st₃ (by rw [S_len]; exact hz) (by
    have := slice_nat x i.toNat j.toNat (by omega)
    rw [Int.toNat_of_nonneg h0, Int.toNat_of_nonneg (by omega)] at this
    exact this)
  exact post_mono sp fun _ _ h => ((h.after S₃).after S₂).after S₁
theorem Ev.slS_ {ea : Expr} {sp : Pos} (hv : Ev c F n ρ mu e (.str x) mu₁) (ha : Ev c F n ρ mu₁ ea (.int i) mu₂) (h0 : 0 ≤ i) (hz : x.length ≤ sizeLine)
    (ht : ∀ o r, letTemporaryGo e o r = pure () := by intro _ _; rfl) : Ev c F n ρ mu (.Subscript e (.Slice (some ea) Option.none Option.none sp) pos) (.str (x.drop i.toNat)) mu₂ := by
  refine ⟨fun env g al s A R X => wpAny_Subscript_str_slice (thn (hv.run env g al s A R X) fun z s₁ g₁ al₁ S₁ st₁ r₁ => evalPart_some_step ?_) ht⟩
  have X₁ := X.step S₁ st₁
  refine thn (ha.run env g₁ al₁ s₁ A R X₁) fun zi s₂ g₂ al₂ S₂ st₂ r₂ => evalPart_none_step ?_
  obtain ⟨t, rfl⟩ := r₁
  obtain ⟨ti, rfl⟩ := r₂
  refine ⟨S x, t, some (i, ti), Option.none, rfl, rfl, rfl, ?_⟩
  have sp := slice_post (z := S x) (t := t) (l := some (i, ti)) (u := Option.none) (vl := .int i ti) (vu := .none) (y := x.drop i.toNat) st₂ (by rw [S_len]; exact hz) (by
    have := slice_from x i.toNat
    rw [Int.toNat_of_nonneg h0] at this
    exact this)
  exact post_mono sp fun _ _ h => (h.after S₂).after S₁
theorem Ev.sl_S {eb : Expr} {sp : Pos} (hv : Ev c F n ρ mu e (.str x) mu₁) (hb : Ev c F n ρ mu₁ eb (.int j) mu₂) (h0 : 0 ≤ j) (hz : x.length ≤ sizeLine)
    (ht : ∀ o r, letTemporaryGo e o r = pure () := by intro _ _; rfl) : Ev c F n ρ mu (.Subscript e (.Slice Option.none (some eb) Option.none sp) pos) (.str (x.take j.toNat)) mu₂ := by
  refine ⟨fun env g al s A R X => wpAny_Subscript_str_slice (thn (hv.run env g al s A R X) fun z s₁ g₁ al₁ S₁ st₁ r₁ => evalPart_none_step (evalPart_some_step ?_)) ht⟩
  have X₁ := X.step S₁ st₁
  refine thn (hb.run env g₁ al₁ s₁ A R X₁) fun zi s₂ g₂ al₂ S₂ st₂ r₂ => ?_
  obtain ⟨t, rfl⟩ := r₁
  obtain ⟨ti, rfl⟩ := r₂
  refine ⟨S x, t, Option.none, some (j, ti), rfl, rfl, rfl, ?_⟩
  have sp := slice_post (z := S x) (t := t) (l := Option.none) (u := some (j, ti)) (vl := .none) (vu := .int j ti) (y := x.take j.toNat) st₂ (by rw [S_len]; exact hz) (by
    have := slice_upto x j.toNat
    rw [Int.toNat_of_nonneg h0] at this
    exact this)
  exact post_mono sp fun _ _ h => (h.after S₂).after S₁
/-! slices of lists -/
theorem Ev.slL_ {ea : Expr} {sp : Pos} {ps : List PV} (hv : Ev c F n ρ mu e (.lst ps) mu₁) (ha : Ev c F n ρ mu₁ ea (.int i) mu₂) (h0 : 0 ≤ i) (hz : ps.length ≤ sizeLine)
    (ht : ∀ o r, letTemporaryGo e o r = pure () := by intro _ _; rfl) : Ev c F n ρ mu (.Subscript e (.Slice (some ea) Option.none Option.none sp) pos) (.lst (ps.drop i.toNat)) mu₂ := by
  refine ⟨fun env g al s A R X => wpAny_Subscript_list_slice (thn (hv.run env g al s A R X) fun z s₁ g₁ al₁ S₁ st₁ r₁ => evalPart_some_step ?_) ht⟩
  have X₁ := X.step S₁ st₁
  refine thn (ha.run env g₁ al₁ s₁ A R X₁) fun zi s₂ g₂ al₂ S₂ st₂ r₂ => evalPart_none_step ?_
  obtain ⟨d, vs, m, rfl, hd, rs⟩ := Rep.ext S₂.ext _ _ r₁
  obtain ⟨ti, rfl⟩ := r₂
  refine ⟨d, vs.toArray, some i, Option.none, rfl, ⟨_, st₂.hs.keep _ _ hd, rfl, m, rfl⟩, by rw [List.size_toArray, rs.length]; exact hz, .int .., .none, ?_⟩
  have hp := slicePick_from' vs.toArray i.toNat
  rw [Int.toNat_of_nonneg h0] at hp
  rw [hp]
  refine Post.after S₁ (Post.after S₂ (Post.made (o := lstObj (vs.drop i.toNat) 0) st₂ (fun _ _ e => Heap.get?_push_of_some _ (Heap.get?_push_of_some _ e)) (size_none' (Nat.le_succ _)) ?_ rfl rfl ?_))
  · have := Heap.get?_push_size (s₂.heap.push { cls := .type "slice", data := .fields #[.int i ti, .none, .none] }) (o := lstObj (vs.drop i.toNat) 0) rfl
    rw [Heap.size_push] at this
    exact this
  · have gd := (st₂.hs.free (a := s₂.heap.objs.size + 1) (Nat.le_succ _)).1
    exact ⟨_, vs.drop i.toNat, 0, rfl, GH.upd_self .., RepL.ext (HS.ext_learn gd) _ _ (rs.drop _)⟩
theorem Ev.sl_L {eb : Expr} {sp : Pos} {ps : List PV} (hv : Ev c F n ρ mu e (.lst ps) mu₁) (ha : Ev c F n ρ mu₁ eb (.int i) mu₂) (h0 : 0 ≤ i) (hz : ps.length ≤ sizeLine)
    (ht : ∀ o r, letTemporaryGo e o r = pure () := by intro _ _; rfl) : Ev c F n ρ mu (.Subscript e (.Slice Option.none (some eb) Option.none sp) pos) (.lst (ps.take i.toNat)) mu₂ := by
  refine ⟨fun env g al s A R X => wpAny_Subscript_list_slice (thn (hv.run env g al s A R X) fun z s₁ g₁ al₁ S₁ st₁ r₁ => evalPart_none_step (evalPart_some_step ?_)) ht⟩
  have X₁ := X.step S₁ st₁
  refine thn (ha.run env g₁ al₁ s₁ A R X₁) fun zi s₂ g₂ al₂ S₂ st₂ r₂ => ?_
  obtain ⟨d, vs, m, rfl, hd, rs⟩ := Rep.ext S₂.ext _ _ r₁
  obtain ⟨ti, rfl⟩ := r₂
  refine ⟨d, vs.toArray, Option.none, some i, rfl, ⟨_, st₂.hs.keep _ _ hd, rfl, m, rfl⟩, by rw [List.size_toArray, rs.length]; exact hz, .none, .int .., ?_⟩
  have hp := slicePick_upto' vs.toArray i.toNat
  rw [Int.toNat_of_nonneg h0] at hp
  rw [hp]
  refine Post.after S₁ (Post.after S₂ (Post.made (o := lstObj (vs.take i.toNat) 0) st₂ (fun _ _ e => Heap.get?_push_of_some _ (Heap.get?_push_of_some _ e)) (size_none' (Nat.le_succ _)) ?_ rfl rfl ?_))
  · have := Heap.get?_push_size (s₂.heap.push { cls := .type "slice", data := .fields #[.none, .int i ti, .none] }) (o := lstObj (vs.take i.toNat) 0) rfl
    rw [Heap.size_push] at this
    exact this
  · have gd := (st₂.hs.free (a := s₂.heap.objs.size + 1) (Nat.le_succ _)).1
    exact ⟨_, vs.take i.toNat, 0, rfl, GH.upd_self .., RepL.ext (HS.ext_learn gd) _ _ (rs.take _)⟩
/-! the same tree is equal -/
mutual
noncomputable def PV.plain : Nat → PV → Bool
  | _, .none => true
  | _, .bool _ => true
  | _, .int _ => true
  | _, .str _ => true
  | 0, .tup _ => false
  | d + 1, .tup xs => PV.plainL d xs
  | 0, .lst _ => false
  | d + 1, .lst xs => PV.plainL d xs
  | _, .cell _ => false
  | _, .inst _ _ => false
  | _, .val _ => false
noncomputable def PV.plainL : Nat → List PV → Bool
  | _, [] => true
  | d, p :: ps => PV.plain d p && PV.plainL d ps
end
theorem PV.plainL_get : ∀ {d : Nat} {ps : List PV}, PV.plainL d ps = true → ∀ {k : Nat} {p : PV}, ps[k]? = some p → p.plain d = true
  | d, [], _, k, _, e => by simp at e
  | d, q :: ps, h, 0, _, e => by simp at e; subst e; unfold PV.plainL at h; exact (Bool.and_eq_true_iff.mp h).1
  | d, q :: ps, h, k + 1, _, e => by unfold PV.plainL at h; exact PV.plainL_get (Bool.and_eq_true_iff.mp h).2 (by simpa using e)
theorem RepL.get2 {g : GH} {al : List Addr} {ps : List PV} {vs us : List Value} (h1 : RepL g al ps vs) (h2 : RepL g al ps us) {k : Nat} (a1 : k < vs.toArray.size) (a2 : k < us.toArray.size) :
    ∃ p, ps[k]? = some p ∧ Rep g al p vs.toArray[k] ∧ Rep g al p us.toArray[k] := by
  have l1 : k < ps.length := by rw [List.size_toArray, h1.length] at a1; exact a1
  have e : ps[k]? = some ps[k] := by simp [l1]
  obtain ⟨y, ey, ry⟩ := h1.get e
  obtain ⟨z, ez, rz⟩ := h2.get e
  refine ⟨_, e, ?_, ?_⟩
  · have : vs.toArray[k] = y := by
      have : vs[k]? = some vs.toArray[k] := by simp
      rw [ey] at this; exact (Option.some.inj this).symm
    rw [this]; exact ry
  · have : us.toArray[k] = z := by
      have : us[k]? = some us.toArray[k] := by simp
      rw [ez] at this; exact (Option.some.inj this).symm
    rw [this]; exact rz
theorem all_true (m : Nat) : (List.range m).all (fun _ => true) = true := by simp
open SeqAt in
theorem eq_same {g : GH} {al : List Addr} : ∀ (d : Nat) (p : PV) (A : Around) (s : Shared) (y z : Value), p.plain d = true → (∀ a o, g a = some o → s.heap.get? a = some o) → A.units + d < cLine → Rep g al p y → Rep g al p z → EqAt A s y z true
  | d, .none, A, s, y, z, _, _, _, e1, e2 => by have e1 : y = .none := e1; have e2 : z = .none := e2; subst e1; subst e2; exact EqAt.same _
  | d, .bool b, A, s, y, z, _, _, _, e1, e2 => by have e1 : y = .bool b := e1; have e2 : z = .bool b := e2; subst e1; subst e2; exact EqAt.same _
  | d, .int i, A, s, y, z, _, _, _, ⟨t, e1⟩, ⟨u, e2⟩ => by
    subst e1; subst e2
    have := EqAt.int_int (A := A) (s := s) i t i u
    rwa [beq_self_eq_true] at this
  | d, .str x, A, s, y, z, _, _, _, ⟨t, e1⟩, ⟨u, e2⟩ => by
    subst e1; subst e2
    have := EqAt.str_str (A := A) (s := s) (S x) t (S x) u
    rwa [beq_self_eq_true] at this
  | 0, .tup xs, A, s, y, z, h, _, _, _, _ => by simp [PV.plain] at h
  | 0, .lst xs, A, s, y, z, h, _, _, _, _ => by simp [PV.plain] at h
  | d + 1, .tup xs, A, s, y, z, h, hk, hu, ⟨a1, vs, m1, e1, g1, r1⟩, ⟨a2, us, m2, e2, g2, r2⟩ => by
    subst e1; subst e2
    unfold PV.plain at h
    by_cases q : a1 = a2
    · subst q; exact EqAt.same _
    · refine EqAt.of_refs q ?_
      have z := RcAt.tuples (A := A) (e := fun _ => true) (items := vs.toArray) (items2 := us.toArray) ⟨_, hk _ _ g1, rfl, m1, rfl⟩ ⟨_, hk _ _ g2, rfl, m2, rfl⟩ (by omega) (fun j h1 h2 => by
        obtain ⟨p, ep, rp, rq⟩ := r1.get2 r2 h1 h2
        exact eq_same d p A.in1 s _ _ (PV.plainL_get h ep) hk (by show A.units + 1 + d < cLine; omega) rp rq)
      rw [all_true] at z
      have hl : (vs.toArray.size == us.toArray.size) = true := by rw [List.size_toArray, List.size_toArray, r1.length, r2.length]; simp
      rwa [hl] at z
  | d + 1, .lst xs, A, s, y, z, h, hk, hu, ⟨a1, vs, m1, e1, g1, r1⟩, ⟨a2, us, m2, e2, g2, r2⟩ => by
    subst e1; subst e2
    unfold PV.plain at h
    by_cases q : a1 = a2
    · subst q; exact EqAt.same _
    · refine EqAt.of_refs q ?_
      have z := RcAt.lists (A := A) (e := fun _ => true) (items := vs.toArray) (items2 := us.toArray) ⟨_, hk _ _ g1, rfl, m1, rfl⟩ ⟨_, hk _ _ g2, rfl, m2, rfl⟩ (by rw [List.size_toArray, List.size_toArray, r1.length, r2.length]) (by omega) (fun j h1 h2 => by
        obtain ⟨p, ep, rp, rq⟩ := r1.get2 r2 h1 h2
        exact eq_same d p A.in1 s _ _ (PV.plainL_get h ep) hk (by show A.units + 1 + d < cLine; omega) rp rq)
      rwa [all_true] at z
  | _, .cell _, A, s, y, z, h, _, _, _, _ => by simp [PV.plain] at h
  | _, .inst _ _, A, s, y, z, h, _, _, _, _ => by simp [PV.plain] at h
  | _, .val _, A, s, y, z, h, _, _, _, _ => by simp [PV.plain] at h
theorem Op2.eqT {xs : List PV} (h : PV.plainL 300 xs = true) : Op2 c n mu (compareOp .Eq) (.tup xs) (.tup xs) (.bool true) mu := ⟨fun g al s A _ _ R st ⟨a1, vs, m1, e1, g1, r1⟩ ⟨a2, us, m2, e2, g2, r2⟩ => by
  subst e1; subst e2
  have hu := R.units
  have z := SeqAt.RcAt.tuples (A := A) (e := fun _ => true) (items := vs.toArray) (items2 := us.toArray) ⟨_, st.hs.keep _ _ g1, rfl, m1, rfl⟩ ⟨_, st.hs.keep _ _ g2, rfl, m2, rfl⟩ R.line (fun j h1 h2 => by
    obtain ⟨p, ep, rp, rq⟩ := r1.get2 r2 h1 h2
    exact eq_same 300 p A.in1 s _ _ (PV.plainL_get h ep) st.hs.keep (by show A.units + 1 + 300 < cLine; omega) rp rq)
  rw [all_true] at z
  have hl : (vs.toArray.size == us.toArray.size) = true := by rw [List.size_toArray, List.size_toArray, r1.length, r2.length]; simp
  rw [hl] at z
  exact z _ _ NoE _ ⟨g, al, .refl .., st, rfl⟩⟩
theorem Op2.eqP2 {x' y' : List Nat} : Op2 c n mu (compareOp .Eq) (.tup [.str x, .str y]) (.tup [.str x', .str y']) (.bool (decide (x = x') && decide (y = y'))) mu := ⟨fun g al s A _ _ R st ⟨a1, vs, m1, e1, g1, r1⟩ ⟨a2, us, m2, e2, g2, r2⟩ => by
  subst e1; subst e2
  obtain ⟨v1, _, rfl, ⟨t1, rfl⟩, v2, _, rfl, ⟨t2, rfl⟩, rfl⟩ := r1
  obtain ⟨u1, _, rfl, ⟨t3, rfl⟩, u2, _, rfl, ⟨t4, rfl⟩, rfl⟩ := r2
  have z := SeqAt.RcAt.tuples (A := A) (s := s) (e := fun j => match j with | 0 => decide (x = x') | _ => decide (y = y')) (items := #[.str (S x) t1, .str (S y) t2]) (items2 := #[.str (S x') t3, .str (S y') t4]) ⟨_, st.hs.keep _ _ g1, rfl, m1, rfl⟩ ⟨_, st.hs.keep _ _ g2, rfl, m2, rfl⟩ R.line (fun j h1 h2 => by
    match j, h1 with
    | 0, _ => have := SeqAt.EqAt.str_str (A := A.in1) (s := s) (S x) t1 (S x') t3; rw [S_beq] at this; exact this
    | 1, _ => have := SeqAt.EqAt.str_str (A := A.in1) (s := s) (S y) t2 (S y') t4; rw [S_beq] at this; exact this
    | j + 2, h => simp at h; omega)
  refine z _ _ NoE _ ⟨g, al, .refl .., st, ?_⟩
  show _ = _
  simp [List.range_succ]⟩
end
end
-- text M7
section
section
variable {c : Cx} {F : FS} {n : Nat} {ρ : Loc} {mu mu₁ mu₂ mu₃ mu₄ : Mem} {pos : Pos} {e e₁ e₂ e₃ : Expr} {p q r v : PV} {a b i j : Int} {x y : List Nat}
theorem St.KX {g : GH} {al : List Addr} {s : Shared} (st : St c g al mu s) (C : c.Ok) : c.K.In s.heap := fun a o e => st.hs.keep a o (st.hs.base a o (C.KX a o e))
theorem St.hk {g : GH} {al : List Addr} {s : Shared} (st : St c g al mu s) : ∀ b o, c.h₀.get? b = some o → s.heap.get? b = some o := fun a o e => st.hs.keep a o (st.hs.base a o e)
/-! membership -/
noncomputable def hit (x : List Nat) : Value → Bool
  | .str s _ => s == S x
  | _ => false
theorem any_hit {g : GH} {al : List Addr} : ∀ {ys : List (List Nat)} {vs : List Value}, RepL g al (ys.map PV.str) vs → vs.any (hit x) = ys.contains x
  | [], _, h => by cases h; rfl
  | y :: ys, _, ⟨v, r, e, ⟨t, ev⟩, h⟩ => by
    subst e; subst ev
    rw [List.any_cons, any_hit h, List.contains_cons]
    congr 1
    show (S y == S x) = _
    rw [S_beq]
    by_cases h : y = x
    · subst h; simp
    · have h' : ¬ x = y := fun q => h q.symm
      simp [h, h']
theorem hit_at {g : GH} {al : List Addr} (A : Around) (s : Shared) (t : Tok) : ∀ {ys : List (List Nat)} {vs : List Value}, RepL g al (ys.map PV.str) vs → ∀ z, z ∈ vs → SeqAt.EqAt A s z (.str (S x) t) (hit x z)
  | [], _, h, z, m => by cases h; cases m
  | y :: ys, _, ⟨v, r, e, ⟨u, ev⟩, h⟩, z, m => by
    subst e; subst ev
    rcases List.mem_cons.mp m with rfl | m
    · exact SeqAt.EqAt.str_str _ _ _ _
    · exact hit_at A s t h z m
theorem Op2.inT {ys : List (List Nat)} : Op2 c n mu (compareOp .In) (.str x) (.tup (ys.map PV.str)) (.bool (ys.contains x)) mu := ⟨fun g al s A _ _ R st ⟨t, e1⟩ ⟨a2, us, m2, e2, g2, r2⟩ => by
  subst e1; subst e2
  refine SeqAt.in_tupleAt (hit x) ⟨_, st.hs.keep _ _ g2, rfl, m2, rfl⟩ (fun z m => hit_at _ _ _ r2 z (by simpa using m)) ⟨g, al, .refl .., st, ?_⟩
  show _ = _
  rw [List.any_toArray, any_hit r2]⟩
theorem Op2.notInT {ys : List (List Nat)} : Op2 c n mu (compareOp .NotIn) (.str x) (.tup (ys.map PV.str)) (.bool (!ys.contains x)) mu := ⟨fun g al s A _ _ R st ⟨t, e1⟩ ⟨a2, us, m2, e2, g2, r2⟩ => by
  subst e1; subst e2
  refine SeqAt.notIn_tupleAt (hit x) ⟨_, st.hs.keep _ _ g2, rfl, m2, rfl⟩ (fun z m => hit_at _ _ _ r2 z (by simpa using m)) ⟨g, al, .refl .., st, ?_⟩
  show _ = _
  rw [List.any_toArray, any_hit r2]⟩
theorem Op2.inL {ys : List (List Nat)} : Op2 c n mu (compareOp .In) (.str x) (.lst (ys.map PV.str)) (.bool (ys.contains x)) mu := ⟨fun g al s A _ _ R st ⟨t, e1⟩ ⟨a2, us, m2, e2, g2, r2⟩ => by
  subst e1; subst e2
  refine SeqAt.in_listAt (hit x) ⟨_, st.hs.keep _ _ g2, rfl, m2, rfl⟩ (fun z m => hit_at _ _ _ r2 z (by simpa using m)) ⟨g, al, .refl .., st, ?_⟩
  show _ = _
  rw [List.any_toArray, any_hit r2]⟩
theorem Op2.inS {k : Nat} : Op2 c n mu (compareOp .In) (.str [k]) (.str x) (.bool (decide (k ∈ x))) mu := ⟨fun g al s A _ _ R st ⟨t, e1⟩ ⟨u, e2⟩ => by
  subst e1; subst e2
  refine SB.contains ⟨g, al, .refl .., st, ?_⟩
  show _ = _
  have := StrLaws.found_one (S x) k
  exact congrArg Value.bool (this.trans (by simp))⟩
structure DictK (c : Cx) (d : Addr) (m : List Nat → Option PV) : Prop where
  own : (d == sysModules) = false
  ex : ∃ es k, c.K.lookup d = some ⟨.type "dict", Option.none, .dict es k, #[]⟩ ∧ KeysLit c.w.params es.toList ∧
    ∀ x, (findBy Value.isStrOf es (S x)).isSome = (m x).isSome ∧ ∀ v, m x = some v → ∃ z, findBy Value.isStrOf es (S x) = some z ∧ ∀ g al, Rep g al v z
theorem Op2.inD (C : c.Ok) {d : Addr} {m : List Nat → Option PV} (D : DictK c d m) : Op2 c n mu (compareOp .In) (.str x) (.val (.ref d)) (.bool (m x).isSome) mu := ⟨fun g al s A _ z R st ⟨t, e1⟩ e2 => by
  subst e1
  have : z = .ref d := e2
  subst this
  obtain ⟨es, k, hl, hk, hm⟩ := D.ex
  refine wpAny_in_of (strKind_is c.prog c.w (S x) t) D.own (mapOf_K (prog := c.prog) (st.KX C) hl hk) ?_
  rw [(hm x).1]
  exact ⟨g, al, .refl .., st.toks, rfl⟩⟩
theorem Op2.idxD (C : c.Ok) {d : Addr} {m : List Nat → Option PV} (D : DictK c d m) {vl sl : Expr} (h : m x = some v) : Op2 c n mu (subscriptTail vl sl) (.val (.ref d)) (.str x) v mu := ⟨fun g al s A z _ R st e2 ⟨t, e1⟩ => by
  subst e1
  have : z = .ref d := e2
  subst this
  obtain ⟨es, k, hl, hk, hm⟩ := D.ex
  obtain ⟨w, hw, rw⟩ := (hm x).2 v h
  obtain ⟨ops, hs⟩ := subs_any sl (.ref d) (.str (S x) t)
  have hM := mapOf_K (prog := c.prog) (st.KX C) hl hk
  exact tail_any hM.typeIs slot_dict_getitem.lookup (wpAny_getItem_of (strKind_is c.prog c.w (S x) t) hM hw ⟨g, al, .refl .., st.toks, rw g al⟩) hs⟩
theorem Op2.isNotNone {p : PV} (h : ∀ g al z, Rep g al p z → (z == Value.none) = false) : Op2 c n mu (compareOp .IsNot) p .none (.bool true) mu := ⟨fun g al s A z w R st r1 r2 => by
  have : w = .none := r2
  subst this
  refine isNot_none ?_
  rw [h g al z r1]
  exact ⟨g, al, .refl .., st, rfl⟩⟩
theorem Op2.isNotNone' : Op2 c n mu (compareOp .IsNot) .none .none (.bool false) mu := ⟨fun g al s A z w R st r1 r2 => by
  have : w = .none := r2
  subst this
  have : z = .none := r1
  subst this
  exact isNot_none ⟨g, al, .refl .., st, rfl⟩⟩
theorem notNone_tup {xs : List PV} (g : GH) (al : List Addr) (z : Value) (h : Rep g al (.tup xs) z) : (z == Value.none) = false := by
  obtain ⟨d, _, _, e, _⟩ := h; subst e; rfl
/-! calls -/
structure Callee (c : Cx) (f : Value) : Prop where
  ok : ∀ h, c.K.In h → ∃ k, (k = Keeper.frame ∨ k = Keeper.machine ∨ k = Keeper.boundFrame) ∧ Looks (Md c) h (keeperOf f) k
theorem Callee.builtin {id : String} : Callee c (.builtin id) := ⟨fun _ _ => ⟨.machine, .inr (.inl rfl), Looks.of_pure rfl⟩⟩
theorem Callee.type {t : String} : Callee c (.type t) := ⟨fun _ _ => ⟨.machine, .inr (.inl rfl), Looks.of_pure rfl⟩⟩
theorem Callee.fn {f : Value} (h : keepIn c.K f = true) : Callee c f := ⟨fun hp X => keeps_K h hp X⟩
theorem plain_args : ∀ {es : List Expr} (pos : Pos) (env : Env), es.all (fun e => !isStarred e) = true → (backTo pos (starEach es env)).any (·.1) = false
  | [], _, _, _ => rfl
  | e :: r, pos, env, h => by
    rw [List.all_cons, Bool.and_eq_true] at h
    rw [star_cons (by simpa using h.1)]
    show (false || (backTo pos (starEach r env)).any (·.1)) = false
    rw [plain_args pos env h.2]; rfl
theorem evalArgs_nil' {M : Model} {A : Around} {E : Value → Shared → Prop} {s : Shared} {f : Value} {Q : Args → Shared → Prop} (h : wpAny M A (spliced []) (fun vs s' => Q ⟨vs, []⟩ s') E s) : wpAny M A (evalArgs f true [] []) Q E s := by
  unfold evalArgs
  show wpAny M A (spliced [] >>= _) Q E s
  refine wpAny_bind (wpAny_mono h (fun vs s' h' => ?_) fun _ _ x => x)
  refine wpAny_holding ?_
  exact wpAny_bind (wpAny_pure (wpAny_bind (wpAny_pure (wpAny_pure h'))))
theorem call_with (C : c.Ok) {A : Around} {env : Env} {g : GH} {al : List Addr} {s : Shared} {f : Value} {first : List Value} {es : List Expr} {ps qs : List PV} (R : Room n A) (X : FSt c F env g al ρ mu s) (hk : Callee c f) (rf : RepL g al qs first)
    (ha : EvL c F n ρ mu es ps mu₁) (ho : OpN c n mu₁ (fun vs => call f vs) (qs ++ ps) v mu₂) (hs : es.all (fun e => !isStarred e) = true) :
    wpAny (Md c) A (callWith pos f first (backTo pos (starEach es env)) (backToKw pos (keywordEach [] env))) (Post c g al s.heap v mu₂) NoE s := by
  refine callWith_of (P := c.K.In) (by rw [plain_args pos env hs]; rfl) hk.ok ?_
  have fin : ∀ (xs : List Value) (s₁ : Shared), PostL c g al s.heap ps mu₁ xs s₁ → c.K.In s₁.heap ∧ wpAny (Md c) A (call f (first ++ xs) []) (Post c g al s.heap v mu₂) NoE s₁ := by
    rintro xs s₁ ⟨g₁, al₁, S₁, st₁, r₁⟩
    exact ⟨st₁.KX C, wpAny_mono (ho.run g₁ al₁ s₁ A _ R st₁ ((RepL.ext S₁.ext _ _ rf).append r₁)) (fun _ _ h => h.after S₁) fun _ _ x => x⟩
  cases es with
  | nil => exact evalArgs_nil' (wpAny_mono (ha.run env g al s A pos R X) fin fun _ _ x => x)
  | cons e r =>
    rw [List.all_cons, Bool.and_eq_true] at hs
    have he := star_cons (env := env) (rest := r) (e := e) (by simpa using hs.1)
    have h := ha.run env g al s A pos R X
    rw [he] at h ⊢
    exact Calls.evalArgs_plain (wpAny_mono h fin fun _ _ x => x)
theorem Ev.fcall (C : c.Ok) {fn : Expr} {f : Value} {es : List Expr} {ps : List PV} (hf : Ev c F n ρ mu fn (.val f) mu₁) (hk : Callee c f) (ha : EvL c F n ρ mu₁ es ps mu₂) (ho : OpN c n mu₂ (fun vs => call f vs) ps v mu₃)
    (hs : es.all (fun e => !isStarred e) = true := by rfl)
    (he : ∀ env, eval (.Call fn es [] pos) env = (do callWith pos (← eval fn env) [] (backTo pos (starEach es env)) (backToKw pos (keywordEach [] env))) := by intro _; rfl) : Ev c F n ρ mu (.Call fn es [] pos) v mu₃ := by
  refine ⟨fun env g al s A R X => ?_⟩
  rw [he env]
  refine wpAny_bind (thn (hf.run env g al s A R X) fun x s₁ g₁ al₁ S₁ st₁ r₁ => ?_)
  have : x = f := r₁
  subst this
  exact wpAny_mono (call_with C R (X.step S₁ st₁) hk (qs := []) rfl ha ho hs) (fun _ _ h => h.after S₁) fun _ _ x => x
structure Meth (c : Cx) (n : Nat) (mu : Mem) (p : PV) (name : PySem.Str) (f : Value) : Prop where
  run : ∀ g al s A x pl (Q : Value × List Value → Shared → Prop), Room n A → St c g al mu s → Rep g al p x → Q (f, [x]) s → wpAny (Md c) A (getMethod x name pl) Q NoE s
theorem Ev.meth (C : c.Ok) {o : Expr} {name : PySem.Str} {ap : Pos} {f : Value} {es : List Expr} {ps : List PV} (hf : Ev c F n ρ mu o p mu₁) (hm : Meth c n mu₁ p name f) (hk : Callee c f) (ha : EvL c F n ρ mu₁ es ps mu₂) (ho : OpN c n mu₂ (fun vs => call f vs) (p :: ps) v mu₃)
    (hs : es.all (fun e => !isStarred e) = true := by rfl)
    (he : ∀ env, eval (.Call (.Attribute o name ap) es [] pos) env = (do
      let ov ← eval o env
      standAt ap.atName
      let (f, first) ← holding [ov] (getMethod ov name (do return (← importBound o env).getD true))
      callWith pos f first (backTo pos (starEach es env)) (backToKw pos (keywordEach [] env))) := by intro _; rfl) : Ev c F n ρ mu (.Call (.Attribute o name ap) es [] pos) v mu₃ := by
  refine ⟨fun env g al s A R X => ?_⟩
  rw [he]
  refine wpAny_bind (thn (hf.run env g al s A R X) fun x s₁ g₁ al₁ S₁ st₁ r₁ => wpAny_bind (wpAny_standAt (wpAny_bind (wpAny_holding ?_))))
  refine hm.run g₁ al₁ s₁ A x _ _ R st₁ r₁ ?_
  exact wpAny_mono (call_with C R (X.step S₁ st₁) hk (qs := [p]) (RepL.one r₁) ha ho hs) (fun _ _ h => h.after S₁) fun _ _ x => x
end
end
-- text M8
section
inductive Upd : Loc → PySem.Str → PV → Loc → Prop
  | here {x : PySem.Str} {o : Option PV} {r : Loc} {v : PV} : Upd ((x, o) :: r) x v ((x, some v) :: r)
  | there {p : PySem.Str × Option PV} {r r' : Loc} {x : PySem.Str} {v : PV} : Upd r x v r' → Upd (p :: r) x v (p :: r')
theorem Upd.keys {ρ ρ' : Loc} {x : PySem.Str} {v : PV} (U : Upd ρ x v ρ') : ρ'.map (·.1) = ρ.map (·.1) := by
  induction U with
  | here => rfl
  | there _ ih => simp [ih]
theorem Upd.isKey {ρ ρ' : Loc} {x : PySem.Str} {v : PV} (U : Upd ρ x v ρ') : x ∈ ρ.map (·.1) := by
  induction U with
  | here => simp
  | there _ ih => simp; right; simpa using ih
theorem Upd.mem {ρ ρ' : Loc} {x : PySem.Str} {v : PV} (U : Upd ρ x v ρ') : (ρ.map (·.1)).Nodup → ∀ {y : PySem.Str} {w : PV}, (y, some w) ∈ ρ' → (y = x ∧ w = v) ∨ (y ≠ x ∧ (y, some w) ∈ ρ) := by
  induction U with
  | @here x o r v =>
    intro nd y w m
    rcases List.mem_cons.mp m with e | m2
    · cases e; exact .inl ⟨rfl, rfl⟩
    · right
      refine ⟨fun q => ?_, List.mem_cons_of_mem _ m2⟩
      exact (List.nodup_cons.mp nd).1 (List.mem_map.mpr ⟨_, m2, q⟩)
  | @there p r r' x v U ih =>
    intro nd y w m
    have nd' := List.nodup_cons.mp nd
    rcases List.mem_cons.mp m with e | m
    · right
      refine ⟨?_, by rw [← e]; exact List.mem_cons_self⟩
      rintro rfl
      apply nd'.1
      have := U.isKey
      rw [← e]
      exact this
    · rcases ih nd'.2 m with h | ⟨h1, h2⟩
      · exact .inl h
      · exact .inr ⟨h1, List.mem_cons_of_mem _ h2⟩
inductive Out where
  | next (ρ : Loc) (mu : Mem)
  | ret (v : PV) (mu : Mem)
noncomputable def PostS (c : Cx) (F : FS) (env : Env) (g : GH) (al : List Addr) (h : Heap) (out : Out) : Flow → Shared → Prop := fun fl s' =>
  ∃ g' al', Step (· = env.locals) g al h g' al' s'.heap ∧ match out with
    | .next ρ' mu' => fl = .next ∧ FSt c F env g' al' ρ' mu' s'
    | .ret v mu' => ∃ y ρ', fl = .ret y ∧ FSt c F env g' al' ρ' mu' s' ∧ Rep g' al' v y
theorem PostS.after {c : Cx} {F : FS} {env : Env} {g g' : GH} {al al' : List Addr} {h h' : Heap} {out : Out} {fl : Flow} {s : Shared} (S : Step (· = env.locals) g al h g' al' h') (y : PostS c F env g' al' h' out fl s) : PostS c F env g al h out fl s := by
  obtain ⟨g₂, al₂, S₂, k⟩ := y; exact ⟨g₂, al₂, S.trans S₂, k⟩
structure Ex (c : Cx) (F : FS) (n : Nat) (ρ : Loc) (mu : Mem) (st : Stmt) (out : Out) : Prop where
  run : ∀ env g al s A, Room n A → FSt c F env g al ρ mu s → wpAny (Md c) A (exec st env) (PostS c F env g al s.heap out) NoE s
structure Exs (c : Cx) (F : FS) (n : Nat) (ρ : Loc) (mu : Mem) (sts : List Stmt) (out : Out) : Prop where
  run : ∀ env g al s A, Room n A → FSt c F env g al ρ mu s → wpAny (Md c) A (execs sts env) (PostS c F env g al s.heap out) NoE s
section
variable {c : Cx} {F : FS} {n : Nat} {ρ ρ₁ ρ₂ ρ₃ : Loc} {mu mu₁ mu₂ mu₃ mu₄ : Mem} {pos : Pos} {e e₁ e₂ e₃ : Expr} {p q r v : PV} {a b i j : Int} {x y : List Nat} {out : Out}
theorem Step.toS {env : Env} {g g' : GH} {al al' : List Addr} {h h' : Heap} (S : Step NX g al h g' al' h') : Step (· = env.locals) g al h g' al' h' := S.weaken fun _ x => x.elim
theorem Exs.nil : Exs c F n ρ mu [] (.next ρ mu) := ⟨fun _ g al _ _ _ X => wpAny_execs_nil ⟨g, al, .refl .., rfl, X⟩⟩
theorem Exs.cons {st : Stmt} {sts : List Stmt} (h : Ex c F n ρ mu st (.next ρ₁ mu₁)) (k : Exs c F n ρ₁ mu₁ sts out) : Exs c F n ρ mu (st :: sts) out := by
  refine ⟨fun env g al s A R X => wpAny_execs_cons (wpAny_mono (h.run env g al s A R X) (fun fl s₁ h₁ => ?_) fun _ _ x => x)⟩
  obtain ⟨g₁, al₁, S₁, rfl, X₁⟩ := h₁
  exact wpAny_mono (k.run env g₁ al₁ s₁ A R X₁) (fun _ _ h => h.after S₁) fun _ _ x => x
theorem Exs.ret {st : Stmt} {sts : List Stmt} (h : Ex c F n ρ mu st (.ret v mu₁)) : Exs c F n ρ mu (st :: sts) (.ret v mu₁) := by
  refine ⟨fun env g al s A R X => wpAny_execs_cons (wpAny_mono (h.run env g al s A R X) (fun fl s₁ h₁ => ?_) fun _ _ x => x)⟩
  obtain ⟨g₁, al₁, S₁, y, ρ', rfl, X₁, r⟩ := h₁
  exact ⟨g₁, al₁, S₁, y, ρ', rfl, X₁, r⟩
theorem store {A : Around} {env : Env} {g : GH} {al : List Addr} {s : Shared} {x : PySem.Str} {y : Value} {Q : Unit → Shared → Prop} (X : FSt c F env g al ρ mu s) (U : Upd ρ x v ρ₁) (r : Rep g al v y)
    (h : ∀ s', FSt c F env g al ρ₁ mu s' → Step (· = env.locals) g al s.heap g al s'.heap → Q () s') : wpAny (Md c) A (storeName env x y) Q NoE s := by
  have hx : x ∈ F.lc := X.ls.keys ▸ U.isKey
  obtain ⟨m, hn, hv⟩ := X.ls.ns
  refine wpAny_storeName_local (X.ok.loc x hx).1 hn (fun h' hn' hs' => ?_) (by rw [X.ok.kind]; rfl)
  obtain ⟨oL, eL⟩ := X.ls.dict
  have keep : ∀ b o, b ≠ env.locals → s.heap.get? b = some o → h'.get? b = some o := fun b o nb e => (hs'.2 b nb).trans e
  obtain ⟨oL', _, _, eL', _⟩ := id hn'
  refine h _ ⟨X.ok, ⟨U.keys.trans X.ls.keys, ⟨_, hn', fun z w q => ?_⟩, X.ls.gL, X.ls.aL⟩, X.st.put (X.st.hs.growBut X.ls.gL X.ls.aL keep)⟩ ?_
  · rcases U.mem (by rw [X.ls.keys]; exact X.ok.nodup) q with ⟨rfl, rfl⟩ | ⟨h1, h2⟩
    · exact ⟨y, by simp, r⟩
    · obtain ⟨z', e1, r1⟩ := hv z w h2
      exact ⟨z', by simp [h1, e1], r1⟩
  · refine ⟨.refl .., fun b o _ nb e => keep b o nb e, fun b o e => ?_, fun _ _ _ _ q => q, fun _ _ m _ => m⟩
    by_cases q : b = env.locals
    · subst q; exact ⟨_, eL'⟩
    · exact ⟨o, keep b o q e⟩
theorem Ex.asg {x : PySem.Str} {np : Pos} (h : Ev c F n ρ mu e v mu₁) (U : Upd ρ x v ρ₁) (hs : ∀ env, swapsWith e (some (.Name x np)) pos.line env = pure false := by intro _; rfl) : Ex c F n ρ mu (.Assign [.Name x np] e pos) (.next ρ₁ mu₁) := by
  refine ⟨fun env g al s A R X => wpAny_Assign_Name (thn (h.run env g al s A R X) fun y s₁ g₁ al₁ S₁ st₁ r₁ => ?_) (hs env)⟩
  exact store (X.step S₁ st₁) U r₁ fun s₂ X₂ S₂ => ⟨g₁, al₁, S₁.toS.trans S₂, rfl, X₂⟩
theorem Ex.aug {op : Operator} {x : PySem.Str} {np : Pos} (hl : (x, some p) ∈ ρ) (h : Ev c F n ρ mu e q mu₁) (ho : Op2 c n mu₁ (inplaceOp op) p q v mu₂) (U : Upd ρ x v ρ₁) : Ex c F n ρ mu (.AugAssign (.Name x np) op e pos) (.next ρ₁ mu₂) := by
  refine ⟨fun env g al s A R X => wpAny_AugAssign_Name ?_⟩
  have hx : x ∈ F.lc := X.ls.keys ▸ List.mem_map_of_mem hl
  obtain ⟨m, hn, hv⟩ := X.ls.ns
  obtain ⟨y, e, r⟩ := hv x p hl
  refine wpAny_loadName_local X.ok.kind (X.ok.loc x hx).1 hn e (thn (h.run env g al s A R X) fun z s₁ g₁ al₁ S₁ st₁ r₁ => ?_)
  have X₁ := X.step S₁ st₁
  refine thn (ho.run g₁ al₁ s₁ A y z R st₁ (Rep.ext S₁.ext _ _ r) r₁) fun w s₂ g₂ al₂ S₂ st₂ r₂ => ?_
  exact store (X₁.step S₂ st₂) U r₂ fun s₃ X₃ S₃ => ⟨g₂, al₂, (S₁.trans S₂).toS.trans S₃, rfl, X₃⟩
theorem Ex.ret (h : Ev c F n ρ mu e v mu₁) : Ex c F n ρ mu (.Return (some e) pos) (.ret v mu₁) :=
  ⟨fun env g al s A R X => wpAny_Return_some (thn (h.run env g al s A R X) fun y s₁ g₁ al₁ S₁ st₁ r₁ => ⟨g₁, al₁, S₁.toS, y, ρ, rfl, X.step S₁ st₁, r₁⟩)⟩
theorem Ex.expr (h : Ev c F n ρ mu e v mu₁) (hs : ∀ env, swapsWith e Option.none pos.line env = pure false := by intro _; rfl) : Ex c F n ρ mu (.Expr e pos) (.next ρ mu₁) := by
  refine ⟨fun env g al s A R X => ?_⟩
  have hi : interactive env = false := by unfold interactive; rw [X.ok.kind]; rfl
  exact wpAny_Expr_any (thn (h.run env g al s A R X) fun y s₁ g₁ al₁ S₁ st₁ r₁ => ⟨g₁, al₁, S₁.toS, rfl, X.step S₁ st₁⟩) hi (hs env)
theorem Ex.ite {t : Bool} {s1 s2 : List Stmt} (h : Ts c F n ρ mu e t mu₁) (k1 : t = true → Exs c F n ρ mu₁ s1 out) (k2 : t = false → Exs c F n ρ mu₁ s2 out) : Ex c F n ρ mu (.If e s1 s2 pos) out := by
  refine ⟨fun env g al s A R X => wpAny_If (thnB (h.run env g al s A R X) fun s₁ g₁ al₁ S₁ st₁ => ?_)⟩
  cases t with
  | true => exact wpAny_mono ((k1 rfl).run env g₁ al₁ s₁ A R (X.step S₁ st₁)) (fun _ _ h => h.after S₁.toS) fun _ _ x => x
  | false => exact wpAny_mono ((k2 rfl).run env g₁ al₁ s₁ A R (X.step S₁ st₁)) (fun _ _ h => h.after S₁.toS) fun _ _ x => x
/-! while -/
theorem while_step {A : Around} {test : Expr} {body orelse : List Stmt} {env : Env} {R : Result → Shared → Prop} {s : Shared}
    (h : wpAny (Md c) A (isTrue test env (eval test env)) (fun b s₂ => if b then wpAny (Md c) A (execs body env) (fun f s₃ => match f with
        | .next | .cont => codeAny (Md c) A (.whileLoop test body orelse env) R s₃
        | .brk => R (.ok .next) s₃
        | .ret v => R (.ok (.ret v)) s₃) NoE s₂
      else wpAny (Md c) A (execs orelse env) (fun f s₃ => R (.ok f) s₃) NoE s₂) NoE s) : codeAny (Md c) A (.whileLoop test body orelse env) R s := by
  refine codeAny_of_tree ?_
  show wpAny _ A ((whileTurn test body orelse env).onRaise (fun x => do noteFrame x env; theTreesLotGoes x)) _ _ s
  refine wpAny_noted ?_
  simp only [whileTurn]
  refine wpAny_bind (wpAny_mono h (fun b s₂ h₂ => ?_) fun _ _ h' => h'.elim)
  cases b with
  | false =>
    simp only [Bool.false_eq_true, if_false] at h₂ ⊢
    exact wpAny_bind (wpAny_mono h₂ (fun f s₃ h₃ => wpAny_pure h₃) fun _ _ h' => h'.elim)
  | true =>
    simp only [if_true] at h₂ ⊢
    refine wpAny_bind (wpAny_mono h₂ (fun f s₃ h₃ => ?_) fun _ _ h' => h'.elim)
    cases f with
    | next => exact wpAny_pure ⟨rfl, h₃⟩
    | cont => exact wpAny_pure ⟨rfl, h₃⟩
    | brk => exact wpAny_pure h₃
    | ret v => exact wpAny_pure h₃
structure Wh (c : Cx) (F : FS) (n : Nat) (ρ : Loc) (mu : Mem) (test : Expr) (body : List Stmt) (out : Out) : Prop where
  run : ∀ env g al s A, Room n A → FSt c F env g al ρ mu s → codeAny (Md c) A (.whileLoop test body [] env) (fun r s' => ∃ f, r = .ok f ∧ PostS c F env g al s.heap out f s') s
theorem Wh.stop {body : List Stmt} (h : Ts c F n ρ mu e false mu₁) : Wh c F n ρ mu e body (.next ρ mu₁) :=
  ⟨fun env g al s A R X => while_step (thnB (h.run env g al s A R X) fun s₁ g₁ al₁ S₁ st₁ => wpAny_execs_nil ⟨_, rfl, g₁, al₁, S₁.toS, rfl, X.step S₁ st₁⟩)⟩
theorem Wh.turn {body : List Stmt} (h : Ts c F n ρ mu e true mu₁) (hb : Exs c F n ρ mu₁ body (.next ρ₁ mu₂)) (k : Wh c F n ρ₁ mu₂ e body out) : Wh c F n ρ mu e body out := by
  refine ⟨fun env g al s A R X => while_step (thnB (h.run env g al s A R X) fun s₁ g₁ al₁ S₁ st₁ => ?_)⟩
  refine wpAny_mono (hb.run env g₁ al₁ s₁ A R (X.step S₁ st₁)) (fun f s₂ h₂ => ?_) fun _ _ x => x
  obtain ⟨g₂, al₂, S₂, rfl, X₂⟩ := h₂
  refine codeAny_mono (k.run env g₂ al₂ s₂ A R X₂) fun r s₃ h₃ => ?_
  obtain ⟨f, rfl, h₃⟩ := h₃
  exact ⟨f, rfl, (h₃.after S₂).after S₁.toS⟩
theorem Ex.whl {body : List Stmt} (h : Wh c F n ρ mu e body out) : Ex c F n ρ mu (.While e body [] pos) out := by
  refine ⟨fun env g al s A R X => wpAny_While (codeAny_mono (h.run env g al s A R X) fun r s' h' => ?_)⟩
  obtain ⟨f, rfl, h'⟩ := h'
  exact h'
end
end
-- text M9
section
structure Fn (c : Cx) (n : Nat) (f : Value) (args : List PV) (mu : Mem) (v : PV) (mu' : Mem) : Prop where
  run : ∀ g al s A vs, Room n A → St c g al mu s → RepL g al args vs → codeAny (Md c) A (.call f ⟨vs, []⟩) (fun r s' => ∃ y, r = .ok (.ret y) ∧ Post c g al s.heap v mu' y s') s
theorem Fn.op {c : Cx} {n m : Nat} {f : Value} {args : List PV} {mu mu' : Mem} {v : PV} (h : Fn c m f args mu v mu') (hm : m ≤ n := by decide) : OpN c n mu (fun vs => call f vs) args v mu' :=
  ⟨fun g al s A xs R st r => wpAny_call (codeAny_mono (h.run g al s A xs (R.mono hm) st r) fun r s' h => by obtain ⟨y, rfl, h⟩ := h; exact h)⟩
structure FnAt (c : Cx) (fa : Addr) (fd : FuncData) (ps rest : List PySem.Str) (gl : List (PySem.Str × Value)) (body : List Stmt) : Prop where
  ex : ∃ oc od osl, c.K.lookup fa = some ⟨oc, od, .func fd, osl⟩
  code : codeIn c.K fd.code fd.qualname = true
  body : fd.body = .stmts body
  bind : ∀ vs : List Value, vs.length = ps.length → bindArgs fd ⟨vs, []⟩ = pure (ps.zip vs)
  cell : ∀ x ∈ fd.scope.names, x.2 ≠ .cell
  kind : fd.scope.kind = .function
  co : fd.scope.isCoroutine = false
  gen : fd.scope.isGenerator = false
  globals : fd.globals = mainGlobals
  builtins : fd.builtins = builtinsNs
  loc : ∀ x ∈ ps ++ rest, fd.scope.names.lookup x = some .local ∧ (x == ("__debug__" : Str)) = false
  nodup : (ps ++ rest).Nodup
  glb : ∀ x v, (x, v) ∈ gl → fd.scope.names.lookup x = some .globalImplicit ∧ (x == ("__debug__" : Str)) = false ∧
    (nsIn c.K mainGlobals x = some (some v) ∨ (nsIn c.K mainGlobals x = some Option.none ∧ bootBuiltins x = some v ∧ x ≠ "__name__"))
noncomputable abbrev FSof (ps rest : List PySem.Str) (gl : List (PySem.Str × Value)) : FS := ⟨ps ++ rest, gl, []⟩
noncomputable def start (ps rest : List PySem.Str) (args : List PV) : Loc := (ps.zip (args.map some)) ++ rest.map (·, Option.none)
theorem lookup_rev_zip : ∀ {ps : List PySem.Str} {vs : List Value}, ps.Nodup → ∀ {x : PySem.Str} {v : Value}, (x, v) ∈ ps.zip vs → (ps.zip vs).reverse.lookup x = some v
  | [], _, _, _, _, m => by simp at m
  | p :: ps, [], _, _, _, m => by simp at m
  | p :: ps, w :: vs, nd, x, v, m => by
    have nd' := List.nodup_cons.mp nd
    rw [List.zip_cons_cons, List.reverse_cons, List.lookup_append]
    rcases List.mem_cons.mp (by simpa using m : (x, v) ∈ (p, w) :: ps.zip vs) with e | m2
    · cases e
      have : (ps.zip vs).reverse.lookup p = Option.none := by
        rw [List.lookup_eq_none_iff]
        intro q hq
        rw [List.mem_reverse] at hq
        have : q.1 ∈ ps := (List.of_mem_zip hq).1
        rw [bne_iff_ne]
        rintro rfl
        exact nd'.1 this
      rw [this]; simp
    · rw [lookup_rev_zip nd'.2 m2]; rfl
theorem start_mem {g : GH} {al : List Addr} : ∀ {ps : List PySem.Str} {args : List PV} {vs : List Value}, RepL g al args vs → ∀ {x : PySem.Str} {v : PV}, (x, some v) ∈ ps.zip (args.map some) → ∃ y, (x, y) ∈ ps.zip vs ∧ Rep g al v y
  | [], _, _, _, x, v, m => by simp at m
  | p :: ps, [], _, h, x, v, m => by simp at m
  | p :: ps, a :: args, _, ⟨w, r, e, h, t⟩, x, v, m => by
    subst e
    rcases List.mem_cons.mp (by simpa using m : (x, some v) ∈ (p, some a) :: ps.zip (args.map some)) with e | m2
    · cases e; exact ⟨w, by simp, h⟩
    · obtain ⟨y, my, ry⟩ := start_mem t m2
      exact ⟨y, by simp [my], ry⟩
theorem start_keys : ∀ {ps rest : List PySem.Str} {args : List PV}, args.length = ps.length → (start ps rest args).map (·.1) = ps ++ rest := by
  intro ps rest args h
  unfold start
  rw [List.map_append, List.map_map]
  congr 1
  · rw [List.map_fst_zip]; simp [h]
  · induction rest with
    | nil => rfl
    | cons a r ih => simp; exact ih
noncomputable def memNarrow (k : Nat) (v : PV) (mu : Mem) : Bool := v.under k && memBelow k (mu.take k)
theorem Fn.of {c : Cx} {n : Nat} {fa : Addr} {fd : FuncData} {ps rest : List PySem.Str} {gl : List (PySem.Str × Value)} {body : List Stmt} {args : List PV} {mu mu' muB : Mem} {v : PV} (C : c.Ok) (I : FnAt c fa fd ps rest gl body)
    (hb : Exs c (FSof ps rest gl) n (start ps rest args) mu body (.ret v muB)) (hl : args.length = ps.length := by rfl) (hmu : mu' = muB.take mu'.length := by rfl) (hle : mu.length ≤ mu'.length := by first | exact Nat.le_refl _ | decide) (hn : memNarrow mu'.length v muB = true := by rfl) :
    Fn c (n + 1) (.ref fa) args mu v mu' := by
  refine ⟨fun g al s A vs R st r => ?_⟩
  obtain ⟨oc, od, osl, hlook⟩ := I.ex
  have X := st.KX C
  have hvs : vs.length = ps.length := r.length.trans hl
  have nd := List.nodup_append.mp I.nodup
  refine codeAny_call_def (fd := fd) (body := body) (binds := ps.zip vs) R.lim (X _ _ hlook) rfl (C.nolimit.keeps st.hk) (codeRec_of X I.code) I.body (BindsTo.of_eq (I.bind vs hvs)) I.cell (fun x hx => ?_) (fun h₁ hns hk₁ => ?_) I.co I.gen I.kind
  · obtain ⟨y, w⟩ := x
    exact (I.loc y (List.mem_append_left _ (List.of_mem_zip hx).1)).1
  · have hsz := size_none s.heap
    have fr := st.hs.free (Nat.le_refl s.heap.objs.size)
    have EO : EnvOk c (FSof ps rest gl) g al (callEnv fd s.heap.objs.size fa) := by
      refine ⟨I.kind, I.globals, I.builtins, I.loc, I.nodup, fun x w m => ?_, fun x w m => by cases m⟩
      obtain ⟨k1, k2, k3⟩ := I.glb x w m
      refine ⟨k1, k2, ?_⟩
      rcases k3 with k3 | ⟨k3, k4, k5⟩
      · exact .inl (mg_of C.KX C.mgNs k3)
      · exact .inr ⟨mg_none_of C.KX C.mgNs k3, (C.builtins x k5).trans k4⟩
    have LS : Ls (FSof ps rest gl) g al s.heap.objs.size (start ps rest args) h₁ := by
      refine ⟨start_keys hl, ⟨_, hns, fun x w m => ?_⟩, fr.1, fr.2⟩
      unfold start at m
      rcases List.mem_append.mp m with m | m
      · obtain ⟨y, my, ry⟩ := start_mem r m
        exact ⟨y, lookup_rev_zip nd.1 my, ry⟩
      · obtain ⟨z, _, ez⟩ := List.mem_map.mp m; cases ez
    have R' : Room n (A.deeper (callEnv fd s.heap.objs.size fa)) := ⟨R.handled, by have := R.depth; show A.depth + 1 + 2 * n ≤ 600; omega, by have := R.units; show A.units + 3 + 20 * n + 400 ≤ cLine; omega⟩
    have z := hb.run (callEnv fd s.heap.objs.size fa) g al { s with heap := h₁, toks := s.toks + (ps.zip vs).length } _ R' ⟨EO, LS, st.put (st.hs.grow hk₁)⟩
    refine wpAny_mono z (fun fl s' h' => ?_) fun _ _ x => x.elim
    obtain ⟨g', al', S', y, ρ', rfl, X', ry⟩ := h'
    refine ⟨y, rfl, ?_⟩
    -- what the call made besides is forgotten
    have S : Step NX g al s.heap g' al' s'.heap := by
      have S0 : Step (· = s.heap.objs.size) g al s.heap g al h₁ := Step.grow hk₁
      have S1 := S0.trans S'
      exact ⟨S1.ext, fun b o m _ e => S1.keep b o m (by rintro rfl; rw [hsz] at e; cases e) e, S1.alive, S1.out, S1.outA⟩
    unfold memNarrow at hn
    have hn' := Bool.and_eq_true_iff.mp hn
    have hl2 := X'.st.hs.len
    have hle1 : mu'.length ≤ muB.length := by
      have := congrArg List.length hmu
      rw [List.length_take] at this; omega
    refine ⟨g', al'.take mu'.length, ⟨⟨S.ext.le, ?_⟩, S.keep, S.alive, S.out, fun b o m e q => S.outA b o m e (List.mem_of_mem_take q)⟩, ⟨by rw [hmu, List.length_take, Nat.min_eq_left hle1]; exact X'.st.hs.narrow hn'.2, X'.st.gens, X'.st.os⟩, Rep.narrow v y hn'.1 ry⟩
    have hal : al.length ≤ mu'.length := by rw [st.hs.len]; exact hle
    obtain ⟨t, ht⟩ := S.ext.pre
    rw [← ht, List.take_append]
    rw [List.take_of_length_le hal]
    exact ⟨_, rfl⟩
end
-- text M10
section
noncomputable def fdAt (K : Frag) (a : Addr) : FuncData := match K.lookup a with
  | some ⟨_, _, .func fd, _⟩ => fd
  | _ => default
noncomputable def bodyAt (K : Frag) (a : Addr) : List Stmt := match (fdAt K a).body with
  | .stmts b => b
  | _ => []
noncomputable def isFnB (K : Frag) (a : Addr) : Bool := match K.lookup a with
  | some ⟨_, _, .func _, _⟩ => true
  | _ => false
noncomputable def isStmts (b : FuncBody) : Bool := match b with
  | .stmts _ => true
  | _ => false
noncomputable def nodupB : List PySem.Str → Bool
  | [] => true
  | x :: r => !r.contains x && nodupB r
theorem nodupB_ok : ∀ {l : List PySem.Str}, nodupB l = true → l.Nodup
  | [], _ => .nil
  | x :: r, h => by
    have := Bool.and_eq_true_iff.mp h
    exact List.nodup_cons.mpr ⟨by have := this.1; simpa using this, nodupB_ok this.2⟩
noncomputable def glbB (K : Frag) (names : List (PySem.Str × NameKind)) (p : PySem.Str × Value) : Bool :=
  names.lookup p.1 == some .globalImplicit && !(p.1 == ("__debug__" : Str)) && (nsIn K mainGlobals p.1 == some (some p.2) || (nsIn K mainGlobals p.1 == some Option.none && bootBuiltins p.1 == some p.2 && !(p.1 == ("__name__" : Str))))
noncomputable def fnB (K : Frag) (a : Addr) (ps rest : List PySem.Str) (gl : List (PySem.Str × Value)) : Bool :=
  isFnB K a && isStmts (fdAt K a).body && codeIn K (fdAt K a).code (fdAt K a).qualname && ((fdAt K a).scope.names.all fun x => !(x.2 == .cell)) && ((fdAt K a).scope.kind == .function) && !(fdAt K a).scope.isCoroutine && !(fdAt K a).scope.isGenerator &&
  Nat.beq (fdAt K a).globals mainGlobals && Nat.beq (fdAt K a).builtins builtinsNs && ((ps ++ rest).all fun x => (fdAt K a).scope.names.lookup x == some .local && !(x == ("__debug__" : Str))) && nodupB (ps ++ rest) && gl.all (glbB K (fdAt K a).scope.names)
theorem FnAt.of {c : Cx} {fa : Addr} {ps rest : List PySem.Str} {gl : List (PySem.Str × Value)} (h : fnB c.K fa ps rest gl = true) (bind : ∀ vs : List Value, vs.length = ps.length → bindArgs (fdAt c.K fa) ⟨vs, []⟩ = pure (ps.zip vs)) :
    FnAt c fa (fdAt c.K fa) ps rest gl (bodyAt c.K fa) := by
  unfold fnB at h
  simp only [Bool.and_eq_true] at h
  obtain ⟨⟨⟨⟨⟨⟨⟨⟨⟨⟨⟨h1, h2⟩, h3⟩, h4⟩, h5⟩, h6⟩, h7⟩, h8⟩, h9⟩, h10⟩, h11⟩, h12⟩ := h
  refine ⟨?_, h3, ?_, bind, fun x hx => ?_, by simpa using h5, by simpa using h6, by simpa using h7, Nat.eq_of_beq_eq_true h8, Nat.eq_of_beq_eq_true h9, fun x hx => ?_, nodupB_ok h11, fun x v m => ?_⟩
  · unfold isFnB at h1
    unfold fdAt
    split at h1
    · rename_i q; rw [q]; exact ⟨_, _, _, rfl⟩
    · cases h1
  · unfold bodyAt
    revert h2
    cases (fdAt c.K fa).body with
    | stmts b => intro _; rfl
    | expr e => intro h; cases h
  · have := List.all_eq_true.mp h4 x hx
    simpa using this
  · have := List.all_eq_true.mp h10 x hx
    simpa using this
  · have := List.all_eq_true.mp h12 (x, v) m
    unfold glbB at this
    simp only [Bool.and_eq_true, Bool.or_eq_true] at this
    obtain ⟨⟨a1, a2⟩, a3⟩ := this
    refine ⟨by simpa using a1, by simpa using a2, ?_⟩
    rcases a3 with a3 | ⟨⟨b1, b2⟩, b3⟩
    · exact .inl (by simpa using a3)
    · exact .inr ⟨by simpa using b1, by simpa using b2, by simpa using b3⟩
end
-- text M11
section
/-! two names, three names at once -/
inductive Upds : Loc → List PySem.Str → List PV → Loc → Prop
  | nil {ρ : Loc} : Upds ρ [] [] ρ
  | cons {ρ ρ₁ ρ₂ : Loc} {x : PySem.Str} {xs : List PySem.Str} {v : PV} {vs : List PV} : Upd ρ x v ρ₁ → Upds ρ₁ xs vs ρ₂ → Upds ρ (x :: xs) (v :: vs) ρ₂
section
variable {c : Cx} {F : FS} {n : Nat} {ρ ρ₁ ρ₂ ρ₃ : Loc} {mu mu₁ mu₂ mu₃ mu₄ : Mem} {pos : Pos} {e e₁ e₂ e₃ : Expr} {p q r v : PV} {a b i j : Int} {x y : List Nat} {out : Out}
theorem stores {A : Around} {env : Env} : ∀ (xs : List PySem.Str) (vs : List PV) (ys : List Value) (ρ ρ' : Loc) (g : GH) (al : List Addr) (s : Shared) (Q : Unit → Shared → Prop), FSt c F env g al ρ mu s → Upds ρ xs vs ρ' → RepL g al vs ys →
      (∀ s', FSt c F env g al ρ' mu s' → Step (· = env.locals) g al s.heap g al s'.heap → Q () s') → wpAny (Md c) A (assignInOrder (xs.map fun x => bindName env x) ys) Q NoE s := by
  intro xs
  induction xs with
  | nil => intro vs ys ρ ρ' g al s Q X U _ h; cases U; exact wpAny_pure (h s X (.refl ..))
  | cons x xs ih =>
    intro vs ys ρ ρ' g al s Q X U rs h
    cases U with
    | cons U Us =>
      obtain ⟨y, ys, e, r, rs⟩ := rs
      subst e
      show wpAny _ _ (do holding ys (bindName env x y); assignInOrder (xs.map fun x => bindName env x) ys) _ _ _
      refine wpAny_bind (wpAny_holding (wpAny_bindName (store X U r fun s₁ X₁ S₁ => ?_)))
      exact ih _ ys _ ρ' g al s₁ Q X₁ Us rs fun s₂ X₂ S₂ => h s₂ X₂ (S₁.trans S₂)
theorem unpack_tup {g : GH} {al : List Addr} {s : Shared} {A : Around} {z : Value} {vs : List PV} {m : Nat} {Q : List Value → Shared → Prop} (R : Room n A) (st : St c g al mu s) (r : Rep g al (.tup vs) z) (hm : m = vs.length)
    (h : ∀ ys s', St c g al mu s' → Step NX g al s.heap g al s'.heap → RepL g al vs ys → Q ys s') : wpAny (Md c) A (unpackItems z m Option.none) Q NoE s := by
  obtain ⟨d, us, k, rfl, gd, rs⟩ := r
  have hm' : m = us.toArray.size := by rw [List.size_toArray, rs.length, hm]
  rw [hm']
  refine unpackItems_tuple R.handled ⟨_, st.hs.keep _ _ gd, rfl, k, rfl⟩ fun h' he => ?_
  have keep : ∀ b o, s.heap.get? b = some o → h'.get? b = some o := fun b o e => he b o (Nat.ne_of_lt (Heap.lt_size e)) e
  exact h us _ (st.put (st.hs.grow keep)) (Step.grow keep) rs
noncomputable def tgts : List (PySem.Str × Pos) → List Expr := List.map fun p => .Name p.1 p.2
theorem assignEach_names (env : Env) : ∀ ns : List (PySem.Str × Pos), assignEach (tgts ns) env = ns.map fun p => (false, assign (.Name p.1 p.2) env)
  | [] => rfl
  | p :: r => by
    show (false, assign (.Name p.1 p.2) env) :: assignEach (tgts r) env = _
    rw [assignEach_names env r]; rfl
theorem assign_tup {A : Around} {env : Env} {g : GH} {al : List Addr} {s : Shared} {k : Nat} {tp : Pos} {ns : List (PySem.Str × Pos)} {vs : List PV} {z : Value} {Q : Unit → Shared → Prop} (R : Room n A) (X : FSt c F env g al ρ mu s) (r : Rep g al (.tup vs) z)
    (U : Upds ρ (ns.map (·.1)) vs ρ₁) (hl : vs.length = ns.length) (h : ∀ s', FSt c F env g al ρ₁ mu s' → Step (· = env.locals) g al s.heap g al s'.heap → Q () s') : wpAny (Md c) A (assign (.Tuple (tgts ns) k tp) env z) Q NoE s := by
  show wpAny _ _ (do standAt tp; unpack z (assignEach (tgts ns) env)) _ _ _
  refine wpAny_bind (wpAny_standAt ?_)
  rw [assignEach_names]
  unfold unpack
  have hf : (ns.map fun p => (false, assign (.Name p.1 p.2) env)).findIdx? (·.1) = Option.none := by
    rw [List.findIdx?_eq_none_iff]; intro x hx
    obtain ⟨p, _, rfl⟩ := List.mem_map.mp hx; rfl
  rw [hf, List.length_map, List.map_map]
  refine wpAny_bind (wpAny_holding (unpack_tup R X.st r hl.symm fun ys s₁ st₁ S₁ rs => ?_))
  have X₁ := X.step S₁ st₁
  -- the names with their places
  have go : ∀ (ns : List (PySem.Str × Pos)) (vs : List PV) (ys : List Value) (ρ ρ' : Loc) (s : Shared) (Q : Unit → Shared → Prop), FSt c F env g al ρ mu s → Upds ρ (ns.map (·.1)) vs ρ' → RepL g al vs ys →
      (∀ s', FSt c F env g al ρ' mu s' → Step (· = env.locals) g al s.heap g al s'.heap → Q () s') → wpAny (Md c) A (assignInOrder (ns.map fun p => assign (.Name p.1 p.2) env) ys) Q NoE s := by
    intro ns
    induction ns with
    | nil => intro vs ys ρ ρ' s Q X U _ h; cases U; exact wpAny_pure (h s X (.refl ..))
    | cons p ns ih =>
      intro vs ys ρ ρ' s Q X U rs h
      cases U with
      | cons U Us =>
        obtain ⟨y, ys, e, r, rs⟩ := rs
        subst e
        show wpAny _ _ (do holding ys (assign (.Name p.1 p.2) env y); assignInOrder (ns.map fun p => assign (.Name p.1 p.2) env) ys) _ _ _
        refine wpAny_bind (wpAny_holding (wpAny_assign_Name (store X U r fun s₁ X₁ S₁ => ?_)))
        exact ih _ ys _ ρ' s₁ Q X₁ Us rs fun s₂ X₂ S₂ => h s₂ X₂ (S₁.trans S₂)
  exact go ns vs ys ρ ρ₁ s₁ Q X₁ U rs fun s₂ X₂ S₂ => h s₂ X₂ (S₁.toS.trans S₂)
noncomputable def isTupleE : Expr → Bool
  | .Tuple .. => true
  | _ => false
theorem Ex.asgT {k : Nat} {tp : Pos} {ns : List (PySem.Str × Pos)} {vs : List PV} (h : Ev c F n ρ mu e (.tup vs) mu₁) (U : Upds ρ (ns.map (·.1)) vs ρ₁) (hl : vs.length = ns.length := by rfl)
    (hs : ∀ env, swapsWithSole [.Tuple (tgts ns) k tp] e pos.line env = pure false := by intro _; rfl) (hw : ∀ env, swappedStores [.Tuple (tgts ns) k tp] e env = pure Option.none := by intro _; rfl) :
    Ex c F n ρ mu (.Assign [.Tuple (tgts ns) k tp] e pos) (.next ρ₁ mu₁) := by
  refine ⟨fun env g al s A R X => Assign_Tuple (thn (h.run env g al s A R X) fun z s₁ g₁ al₁ S₁ st₁ r₁ => ?_) (hs env) (hw env)⟩
  exact assign_tup R (X.step S₁ st₁) r₁ U hl fun s₂ X₂ S₂ => ⟨g₁, al₁, S₁.toS.trans S₂, rfl, X₂⟩
theorem Upds.keysIn {ρ ρ' : Loc} {xs : List PySem.Str} {vs : List PV} (U : Upds ρ xs vs ρ') : ρ'.map (·.1) = ρ.map (·.1) ∧ ∀ x ∈ xs, x ∈ ρ.map (·.1) := by
  induction U with
  | nil => exact ⟨rfl, fun _ h => by cases h⟩
  | cons U _ ih =>
    refine ⟨ih.1.trans U.keys, fun x hx => ?_⟩
    rcases List.mem_cons.mp hx with rfl | hx
    · exact U.isKey
    · rw [← U.keys]; exact ih.2 x hx
theorem ladder {α : Type} (b1 b2 b3 b4 b5 : Bool) (N u r : Sem α) (h : (b4 || !b5) = true) : (if b1 then N else if b2 then N else if b3 then N else if b4 then N else if b5 then u else r) = N ∨ (b3 = false ∧ (if b1 then N else if b2 then N else if b3 then N else if b4 then N else if b5 then u else r) = r) := by
  cases b1 <;> cases b2 <;> cases b3 <;> cases b4 <;> cases b5 <;> first | (left; rfl) | (right; exact ⟨rfl, rfl⟩) | cases h
theorem swapped_or {env : Env} {k k' : Nat} {tp vp : Pos} {ns : List (PySem.Str × Pos)} {es : List Expr} (hf : env.scope.kind = .function) (hk : ∀ x ∈ ns.map (·.1), env.kindOf x = some .local) (hl : es.length = ns.length)
    (hb : (es.all (foldedForSure 8) || !es.all (constantsAlone 8)) = true) :
    swappedStores [.Tuple (tgts ns) k tp] (.Tuple es k' vp) env = pure Option.none ∨ swappedStores [.Tuple (tgts ns) k tp] (.Tuple es k' vp) env = pure (some (ns.map (·.1))) := by
  have hbk : env.blockKind = .function := by unfold Env.blockKind; rw [hf]; rfl
  show (do
    if !((tgts ns).length == 2 || (tgts ns).length == 3) || es.length != (tgts ns).length || env.blockKind != .function then return Option.none
    if es.any fun | .Starred .. => true | _ => false then return Option.none
    let line := ((tgts ns).head?.map (·.pos.line)).getD 0
    let names := (tgts ns).filterMap fun
      | .Name id pos => if env.kindOf id == some .local && pos.line == line then some id else Option.none
      | _ => Option.none
    if names.length != (tgts ns).length || names.eraseDups.length != names.length then return Option.none
    if es.all (foldedForSure 8) then return Option.none
    if es.all (constantsAlone 8) then unsupported "assign.tuple-of-constant-expressions:order-of-the-stores"
    return some names : Sem (Option (List PySem.Str))) = _ ∨ _
  have sub : ∀ (line : Nat) (ns : List (PySem.Str × Pos)), (∀ x ∈ ns.map (·.1), env.kindOf x = some .local) → ((tgts ns).filterMap fun
      | .Name id pos => if env.kindOf id == some .local && pos.line == line then some id else Option.none
      | _ => Option.none).length = (tgts ns).length → ((tgts ns).filterMap fun
      | .Name id pos => if env.kindOf id == some .local && pos.line == line then some id else Option.none
      | _ => Option.none) = ns.map (·.1) := by
    intro line ns
    induction ns with
    | nil => intro _ _; rfl
    | cons p r ih =>
      intro hk hlen
      simp only [tgts, List.map_cons, List.filterMap_cons] at hlen ⊢
      have le : ∀ l : List (PySem.Str × Pos), ((l.map fun p => (Expr.Name p.1 p.2)).filterMap fun
        | .Name id pos => if env.kindOf id == some .local && pos.line == line then some id else Option.none
        | _ => Option.none).length ≤ (l.map fun p => (Expr.Name p.1 p.2)).length := fun l => List.length_filterMap_le _ _
      have := le r
      split at hlen
      · simp only [List.length_cons] at hlen; omega
      · rename_i b q
        have e : p.1 = b := by
          split at q
          · exact Option.some.inj q
          · cases q
        rw [← e]
        congr 1
        exact ih (fun x hx => hk x (List.mem_cons_of_mem _ hx)) (by simp only [List.length_cons] at hlen; exact Nat.succ.inj hlen)
  have hsub := sub (((tgts ns).head?.map (·.pos.line)).getD 0) ns hk
  rcases ladder (!((tgts ns).length == 2 || (tgts ns).length == 3) || es.length != (tgts ns).length || env.blockKind != .function) (es.any fun | .Starred .. => true | _ => false)
    (((tgts ns).filterMap fun
      | .Name id pos => if env.kindOf id == some .local && pos.line == ((tgts ns).head?.map (·.pos.line)).getD 0 then some id else Option.none
      | _ => Option.none).length != (tgts ns).length || ((tgts ns).filterMap fun
      | .Name id pos => if env.kindOf id == some .local && pos.line == ((tgts ns).head?.map (·.pos.line)).getD 0 then some id else Option.none
      | _ => Option.none).eraseDups.length != ((tgts ns).filterMap fun
      | .Name id pos => if env.kindOf id == some .local && pos.line == ((tgts ns).head?.map (·.pos.line)).getD 0 then some id else Option.none
      | _ => Option.none).length) (es.all (foldedForSure 8)) (es.all (constantsAlone 8)) (pure Option.none : Sem (Option (List PySem.Str)))
    (unsupported "assign.tuple-of-constant-expressions:order-of-the-stores" >>= fun (_ : Unit) => pure (some ((tgts ns).filterMap fun
      | .Name id pos => if env.kindOf id == some .local && pos.line == ((tgts ns).head?.map (·.pos.line)).getD 0 then some id else Option.none
      | _ => Option.none))) (pure (some ((tgts ns).filterMap fun
      | .Name id pos => if env.kindOf id == some .local && pos.line == ((tgts ns).head?.map (·.pos.line)).getD 0 then some id else Option.none
      | _ => Option.none))) hb with h | ⟨h3, h⟩
  · exact .inl h
  · right
    refine Eq.trans h ?_
    rw [hsub (by have := (Bool.or_eq_false_iff.mp h3).1; simpa using this)]
theorem Ex.asgD {k k' : Nat} {tp vp : Pos} {ns : List (PySem.Str × Pos)} {es : List Expr} {vs : List PV} (h : EvL c F n ρ mu es vs mu₁) (U : Upds ρ (ns.map (·.1)) vs ρ₁) (U' : Upds ρ (ns.map (·.1)).reverse vs.reverse ρ₁) (hl : vs.length = ns.length := by rfl) (hle : es.length = ns.length := by rfl)
    (hb : (es.all (foldedForSure 8) || !es.all (constantsAlone 8)) = true := by rfl) (hz : vs.length ≤ sizeLine := by exact Nat.le_of_ble_eq_true rfl)
    (hs : ∀ env, swapsWithSole [.Tuple (tgts ns) k tp] (.Tuple es k' vp) pos.line env = pure false := by intro _; rfl) :
    Ex c F n ρ mu (.Assign [.Tuple (tgts ns) k tp] (.Tuple es k' vp) pos) (.next ρ₁ mu₁) := by
  refine ⟨fun env g al s A R X => ?_⟩
  have hv := (Ev.tup (k := k') (pos := vp) h hz).run env g al s A R X
  have hk : ∀ x ∈ ns.map (·.1), env.kindOf x = some .local := fun x hx => (X.ok.loc x (X.ls.keys ▸ U.keysIn.2 x hx)).1
  rcases swapped_or (k := k) (k' := k') (tp := tp) (vp := vp) X.ok.kind hk hle hb with hw | hw
  · refine Assign_Tuple (thn hv fun z s₁ g₁ al₁ S₁ st₁ r₁ => ?_) (hs env) hw
    exact assign_tup R (X.step S₁ st₁) r₁ U hl fun s₂ X₂ S₂ => ⟨g₁, al₁, S₁.toS.trans S₂, rfl, X₂⟩
  · refine Assign_Tuple_swapped (thn hv fun z s₁ g₁ al₁ S₁ st₁ r₁ => ?_) (hs env) hw
    refine unpack_tup R st₁ r₁ (by rw [List.length_map]; exact hl.symm) fun ys s₂ st₂ S₂ rs => ?_
    have X₂ := (X.step S₁ st₁).step S₂ st₂
    exact stores _ _ _ _ ρ₁ g₁ al₁ s₂ _ X₂ U' rs.reverse fun s₃ X₃ S₃ => ⟨g₁, al₁, ((S₁.trans S₂).toS).trans S₃, rfl, X₃⟩
end
end
-- text M12
section
/-! iterators -/
structure Nxt (c : Cx) (n : Nat) (mu : Mem) (k : Nat) (v : PV) (mu' : Mem) : Prop where
  run : ∀ g al s A I, Room n A → St c g al mu s → al[k]? = some I → wpAny (Md c) A (pyNext (.ref I)) (fun r s' => ∃ y, r = some y ∧ Post c g al s.heap v mu' y s') NoE s
structure Lst (c : Cx) (n : Nat) (mu : Mem) (k : Nat) : Prop where
  run : ∀ g al s A I, Room n A → St c g al mu s → al[k]? = some I → wpAny (Md c) A (pyNext (.ref I)) (fun r s' => r = Option.none ∧ s'.gens = s.gens ∧ s'.os = s.os ∧ ∀ b o, b ≠ I → s.heap.get? b = some o → s'.heap.get? b = some o) NoE s
structure Slf (c : Cx) (n : Nat) (mu : Mem) (k : Nat) : Prop where
  run : ∀ g al s A I (Q : Value → Shared → Prop) (E : Value → Shared → Prop), Room n A → St c g al mu s → al[k]? = some I → Q (.ref I) s → wpAny (Md c) A (pyIter (.ref I)) Q E s
section
variable {c : Cx} {F F' : FS} {n : Nat} {ρ ρ₁ ρ₂ ρ₃ : Loc} {mu mu₁ mu₂ mu₃ mu₄ : Mem} {pos : Pos} {e e₁ e₂ e₃ : Expr} {p q r v : PV} {a b i j : Int} {x y : List Nat} {out : Out} {k : Nat}
/-! lists -/
theorem iterL {ps : List PV} : Op1 c n mu pyIter (.lst ps) (.cell mu.length) (mu ++ [.lit ps 0]) := ⟨fun g al s A z R st ⟨d, vs, m, e1, hd, r⟩ => by
  subst e1
  have hL : s.heap.IsList d vs.toArray := ⟨_, st.hs.keep _ _ hd, rfl, m, rfl⟩
  refine wpAny_pyIter_list hL (Post.madeCell st (fun _ _ e => Heap.get?_push_of_some _ e) (size_none _) ⟨d, vs, m, ⟨_, Heap.get?_push_size _ rfl, rfl, rfl⟩, hd, ?_⟩ rfl rfl)
  exact RepL.ext ⟨fun _ _ e => e, List.prefix_append _ _⟩ _ _ r⟩
theorem Slf.lit {ps : List PV} {j : Nat} (h : mu[k]? = some (.lit ps j)) : Slf c n mu k := ⟨fun g al s A I Q E R st hk hq => by
  obtain ⟨l, vs, m, hi, _⟩ := st.hs.cells k I _ hk h
  exact wpAny_pyIter_listiter hi hq⟩
theorem Nxt.lit {ps : List PV} {j : Nat} (h : mu[k]? = some (.lit ps j)) (hv : ps[j]? = some v) : Nxt c n mu k v (mu.set k (.lit ps (j + 1))) := ⟨fun g al s A I R st hk => by
  obtain ⟨l, vs, m, hi, gl, r⟩ := st.hs.cells k I _ hk h
  obtain ⟨y, hy, ry⟩ := r.get hv
  have hL : s.heap.IsList l vs.toArray := ⟨_, st.hs.keep _ _ gl, rfl, m, rfl⟩
  refine wpAny_pyNext_list_item hi hL (x := y) (by simpa using hy) fun h' hi' hs' => ⟨y, rfl, ?_⟩
  exact Post.turn st hk (fun b o nb e => (hs'.2 b nb).trans e) ⟨l, vs, m, hi', gl, r⟩ rfl rfl ry⟩
theorem Lst.lit {ps : List PV} {j : Nat} (h : mu[k]? = some (.lit ps j)) (hv : ps.length ≤ j) : Lst c n mu k := ⟨fun g al s A I R st hk => by
  obtain ⟨l, vs, m, hi, gl, r⟩ := st.hs.cells k I _ hk h
  have hL : s.heap.IsList l vs.toArray := ⟨_, st.hs.keep _ _ gl, rfl, m, rfl⟩
  exact wpAny_pyNext_list_end R.handled hi hL (by simp [r.length, hv]) fun h' hs' => ⟨rfl, rfl, rfl, fun b o nb e => hs' b o nb e⟩⟩
/-! lists from behind -/
theorem revL {ps : List PV} : OpN c n mu (fun vs => call (.type "reversed") vs) [.lst ps] (.cell mu.length) (mu ++ [.rit ps ps.length]) := ⟨fun g al s A zs R st ⟨z, zs', e, ⟨d, vs, m, e1, hd, r⟩, e3⟩ => by
  subst e3; subst e; subst e1
  have hL : s.heap.IsList d vs.toArray := ⟨_, st.hs.keep _ _ hd, rfl, m, rfl⟩
  refine call_reversed_list hL (Post.madeCell st (fun _ _ e => Heap.get?_push_of_some _ e) (size_none _) ⟨d, vs, m, ⟨_, Heap.get?_push_size _ rfl, rfl, ?_⟩, hd, ?_⟩ rfl rfl)
  · rw [List.size_toArray, r.length]; rfl
  · exact RepL.ext ⟨fun _ _ e => e, List.prefix_append _ _⟩ _ _ r⟩
theorem Slf.rit {ps : List PV} {j : Nat} (h : mu[k]? = some (.rit ps j)) : Slf c n mu k := ⟨fun g al s A I Q E R st hk hq => by
  obtain ⟨l, vs, m, hi, _⟩ := st.hs.cells k I _ hk h
  exact wpAny_pyIter_revIter hi hq⟩
theorem Nxt.rit {ps : List PV} {j : Nat} (h : mu[k]? = some (.rit ps (j + 1))) (hv : ps[j]? = some v) : Nxt c n mu k v (mu.set k (.rit ps j)) := ⟨fun g al s A I R st hk => by
  obtain ⟨l, vs, m, hi, gl, r⟩ := st.hs.cells k I _ hk h
  obtain ⟨y, hy, ry⟩ := r.get hv
  have hL : s.heap.IsList l vs.toArray := ⟨_, st.hs.keep _ _ gl, rfl, m, rfl⟩
  rw [show ((j + 1 : Nat) : Int) - 1 = (j : Int) by omega] at hi
  refine wpAny_pyNext_rev_item hi hL (x := y) (by simpa using hy) fun h' hi' hs' => ⟨y, rfl, ?_⟩
  exact Post.turn st hk (fun b o nb e => (hs'.2 b nb).trans e) ⟨l, vs, m, hi', gl, r⟩ rfl rfl ry⟩
theorem Lst.rit {ps : List PV} (h : mu[k]? = some (.rit ps 0)) : Lst c n mu k := ⟨fun g al s A I R st hk => by
  obtain ⟨l, vs, m, hi, gl, r⟩ := st.hs.cells k I _ hk h
  exact wpAny_pyNext_rev_end R.handled hi fun h' hs' => ⟨rfl, rfl, rfl, fun b o nb e => hs' b o nb e⟩⟩
/-! texts -/
theorem iterS : Op1 c n mu pyIter (.str x) (.cell mu.length) (mu ++ [.sit x 0]) := ⟨fun g al s A z R st ⟨t, e1⟩ => by
  subst e1
  have go : ∀ T, (T = "str_ascii_iterator" ∨ T = "str_iterator") → Post c g al s.heap (.cell mu.length) (mu ++ [.sit x 0]) (.ref s.heap.objs.size) { s with heap := s.heap.push { cls := .type T, data := .fields #[.str (S x) t, .int 0 0] } } := fun T hT =>
    Post.madeCell st (fun _ _ e => Heap.get?_push_of_some _ e) (size_none _) ⟨T, t, hT, ⟨_, Heap.get?_push_size _ rfl, rfl, rfl⟩⟩ rfl rfl
  cases ha : (S x).cps.all (· < 128)
  · exact wpAny_pyIter_wide ha (go _ (.inr rfl))
  · exact wpAny_pyIter_ascii ha (go _ (.inl rfl))⟩
theorem Slf.sit {j : Nat} (h : mu[k]? = some (.sit x j)) : Slf c n mu k := ⟨fun g al s A I Q E R st hk hq => by
  obtain ⟨T, t, hT, hi⟩ := st.hs.cells k I _ hk h
  rcases hT with rfl | rfl
  · exact wpAny_pyIter_striter_ascii hi hq
  · exact wpAny_pyIter_striter_wide hi hq⟩
theorem Nxt.sit {j m : Nat} (h : mu[k]? = some (.sit x j)) (hv : x[j]? = some m) : Nxt c n mu k (.str [m]) (mu.set k (.sit x (j + 1))) := ⟨fun g al s A I R st hk => by
  obtain ⟨T, t, hT, hi⟩ := st.hs.cells k I _ hk h
  rcases hT with rfl | rfl
  · refine wpAny_pyNext_ascii_item hi (c := m) (by simpa using hv) fun h' hi' hs' => ⟨_, rfl, ?_⟩
    exact Post.turn st hk (fun b o nb e => (hs'.2 b nb).trans e) ⟨_, t, .inl rfl, hi'⟩ rfl rfl ⟨_, rfl⟩
  · refine wpAny_pyNext_wide_item hi (c := m) (by simpa using hv) fun h' hi' hs' => ⟨_, rfl, ?_⟩
    exact Post.turn st hk (fun b o nb e => (hs'.2 b nb).trans e) ⟨_, t, .inr rfl, hi'⟩ rfl rfl ⟨_, rfl⟩⟩
theorem Lst.sit {j : Nat} (h : mu[k]? = some (.sit x j)) (hv : x.length ≤ j) : Lst c n mu k := ⟨fun g al s A I R st hk => by
  obtain ⟨T, t, hT, hi⟩ := st.hs.cells k I _ hk h
  rcases hT with rfl | rfl
  · exact wpAny_pyNext_ascii_end R.handled hi (by simpa using hv) fun h' hs' => ⟨rfl, rfl, rfl, fun b o nb e => hs' b o nb e⟩
  · exact wpAny_pyNext_wide_end R.handled hi (by simpa using hv) fun h' hs' => ⟨rfl, rfl, rfl, fun b o nb e => hs' b o nb e⟩⟩
/-! ranges -/
noncomputable def rngObj (b : Int) : Obj → Prop := fun o => ∃ t u v, o = { cls := .type "range", dict := Option.none, data := .fields #[.int 0 t, .int b u, .int 1 v], slots := #[] }
theorem rng1 : OpN c n mu (fun vs => call (.type "range") vs) [.int b] (.cell mu.length) (mu ++ [.obj (rngObj b)]) := ⟨fun g al s A zs R st ⟨z, zs', e, ⟨t, e1⟩, e3⟩ => by
  subst e3; subst e; subst e1
  exact call_range_1 (Post.madeCell st (fun _ _ e => Heap.get?_push_of_some _ e) (size_none _) ⟨_, Heap.get?_push_size _ rfl, _, _, _, rfl⟩ rfl rfl)⟩
set_option maxRecDepth 8000 in
theorem iterG {m : Nat} (hm : m < 1000) (h : mu[k]? = some (.obj (rngObj m))) : Op1 c n mu pyIter (.cell k) (.cell mu.length) (mu ++ [.git 0 m]) := ⟨fun g al s A z R st ⟨d, e1, hk⟩ => by
  subst e1
  obtain ⟨o, ho, t, u, v, rfl⟩ := st.hs.cells k d _ hk h
  have hr : Builtin.Range.rangeSize 0 (m : Int) 1 = (m : Int) := by
    unfold Builtin.Range.rangeSize
    simp only [show ((1 : Int) > 0) from by decide, if_true, Int.ediv_one]
    split <;> omega
  have hs : Builtin.Range.small 0 (m : Int) 1 = true := by
    have fit : ∀ z : Int, -10 ≤ z → z < 2000 → Builtin.Range.rangeFitsLong z = true := fun z h1 h2 => by
      unfold Builtin.Range.rangeFitsLong
      rw [Bool.and_eq_true]
      exact ⟨decide_eq_true (by omega), decide_eq_true (by omega)⟩
    unfold Builtin.Range.small
    rw [hr, fit 0 (by omega) (by omega), fit m (by omega) (by omega), fit 1 (by omega) (by omega), if_pos (by decide), fit _ (by omega) (by omega)]
    simp
  refine wpAny_pyIter_range ho hs (Post.madeCell st (fun _ _ e => Heap.get?_push_of_some _ e) (size_none _) ?_ rfl rfl)
  show IsRangeIter _ _ _ _ _
  rw [hr]
  exact Heap.get?_push_size _ rfl⟩
theorem Slf.git (h : mu[k]? = some (.git i j)) : Slf c n mu k := ⟨fun g al s A I Q E R st hk hq => by
  have hi : IsRangeIter s.heap I i j 1 := st.hs.cells k I _ hk h
  refine wpAny_pyIter_slot (T := "range_iterator") ⟨_, hi, rfl⟩ F.slot_range_iterator_iter (wpAny_call_entry F.slot_range_iterator_iter ⟨_, hi, rfl⟩ F.entry_range_iterator_iter ?_ (F.args_range_iterator_iter_1 _))
  show wpAny _ _ (ret (.ref I)) _ _ s
  exact wpAny_pure ⟨_, rfl, "range_iterator", _, ⟨_, hi, rfl⟩, F.slot_range_iterator_next.lookup, hq⟩⟩
theorem Nxt.git (h : mu[k]? = some (.git i j)) (hj : 0 < j) : Nxt c n mu k (.int i) (mu.set k (.git (i + 1) (j - 1))) := ⟨fun g al s A I R st hk => by
  have hi : IsRangeIter s.heap I i j 1 := st.hs.cells k I _ hk h
  refine wpAny_pyNext_range_item hi hj fun h' hi' hs' => ⟨_, rfl, ?_⟩
  exact Post.turn st hk (fun b o nb e => (hs'.2 b nb).trans e) hi' rfl rfl ⟨_, rfl⟩⟩
theorem Lst.git (h : mu[k]? = some (.git i 0)) : Lst c n mu k := ⟨fun g al s A I R st hk => by
  have hi : IsRangeIter s.heap I i 0 1 := st.hs.cells k I _ hk h
  exact wpAny_pyNext_range_end R.handled hi (Int.le_refl _) fun h' hs' => ⟨rfl, rfl, rfl, fun b o nb e => hs' b o nb e⟩⟩
end
end
-- text M13
section
section
variable {c : Cx} {F F' : FS} {n : Nat} {ρ ρ₁ ρ₂ ρ₃ : Loc} {mu mu₁ mu₂ mu₃ mu₄ : Mem} {pos : Pos} {e e₁ e₂ e₃ : Expr} {p q r v : PV} {a b i j : Int} {x : PySem.Str} {out : Out} {k : Nat}
theorem HS.drop {g : GH} {al : List Addr} {h h' : Heap} {I : Addr} (H : HS c g al mu h) (hl : al.length = k + 1) (hI : al[k]? = some I) (hb : memBelow k (mu.take k) = true) (hk : ∀ b o, b ≠ I → h.get? b = some o → h'.get? b = some o) : HS c g (al.take k) (mu.take k) h' := by
  have mI : I ∈ al := List.mem_of_getElem? hI
  refine (H.narrow hb).growBut (L := I) (H.fresh I mI) (fun m => ?_) hk
  obtain ⟨i, hi, ei⟩ := List.mem_iff_getElem.mp m
  have e1 : (al.take k)[i]? = some I := by rw [List.getElem?_eq_getElem hi, ei]
  rw [List.length_take] at hi
  rw [List.getElem?_take, if_pos (by omega)] at e1
  have := nodup_inj H.nodup e1 hI
  omega
theorem take_pre {al₀ al : List Addr} (h : al₀ <+: al) (hl : al₀.length = k) : al.take k = al₀ := by
  obtain ⟨t, rfl⟩ := h
  rw [List.take_append, ← hl, List.take_of_length_le (Nat.le_refl _), Nat.sub_self]; simp
/-! for -/
theorem for_step {A : Around} {target it : _} {body orelse : List Stmt} {env : Env} {R : Result → Shared → Prop} {s : Shared} (ht : ∀ v, letOwnedTupleGo target it v = pure ())
    (h : wpAny (Md c) A (pyNext it) (fun r s₁ => match r with
      | Option.none => wpAny (Md c) A (execs orelse env) (fun f s₃ => R (.ok f) s₃) NoE s₁
      | some v => wpAny (Md c) A (assign target env v) (fun _ s₂ => wpAny (Md c) A (execs body env) (fun f s₃ => match f with
          | .next | .cont => codeAny (Md c) A (.forLoop target it body orelse env) R s₃
          | .brk => R (.ok .next) s₃
          | .ret v => R (.ok (.ret v)) s₃) NoE s₂) NoE s₁) NoE s) : codeAny (Md c) A (.forLoop target it body orelse env) R s := by
  refine codeAny_of_tree ?_
  show wpAny _ A ((forTurn target it body orelse env).onRaise (fun x => do noteFrame x env; theTreesLotGoes x)) _ _ s
  refine wpAny_noted ?_
  simp only [forTurn]
  refine wpAny_bind (wpAny_standAt (wpAny_bind (wpAny_onRaise (wpAny_mono h (fun r s₁ h₁ => ?_) fun _ _ h' => h'.elim))))
  cases r with
  | none => exact wpAny_pure ⟨rfl, codeAny_block (wpAny_mono h₁ (fun _ _ x => x) fun _ _ x => x.elim)⟩
  | some v =>
    refine wpAny_bind (wpAny_of_eq (ht v) ?_)
    refine wpAny_bind (wpAny_mono h₁ (fun _ s₂ h₂ => wpAny_bind (wpAny_mono h₂ (fun f s₃ h₃ => ?_) fun _ _ h' => h'.elim)) fun _ _ h' => h'.elim)
    cases f with
    | next => exact wpAny_pure ⟨rfl, h₃⟩
    | cont => exact wpAny_pure ⟨rfl, h₃⟩
    | brk => exact wpAny_pure h₃
    | ret v => exact wpAny_pure h₃
structure Fo (c : Cx) (F : FS) (n k : Nat) (ρ : Loc) (mu : Mem) (x : PySem.Str) (px : Pos) (body : List Stmt) (out : Out) : Prop where
  run : ∀ env g al s A g₀ al₀ h₀ I, Room n A → FSt c F env g al ρ mu s → Step (· = env.locals) g₀ al₀ h₀ g al s.heap → h₀.get? I = Option.none → al₀.length = k → al[k]? = some I →
    codeAny (Md c) A (.forLoop (.Name x px) (.ref I) body [] env) (fun r s' => ∃ f, r = .ok f ∧ PostS c F env g₀ al₀ h₀ out f s') s
theorem Fo.stop {px : Pos} {body : List Stmt} {cl : Cell} (h : Lst c n (mu ++ [cl]) mu.length) (hb : memBelow mu.length mu = true) (hr : ∀ y w, (y, some w) ∈ ρ → w.under mu.length = true) (hkp : F.kp = [] := by rfl) (hk : mu.length = k := by rfl) : Fo c F n k ρ (mu ++ [cl]) x px body (.next ρ mu) := by
  refine ⟨fun env g al s A g₀ al₀ h₀ I R X S hI hl hA => for_step (fun v => rfl) ?_⟩
  subst hk
  refine wpAny_mono (h.run g al s A I R X.st hA) (fun r s₁ h₁ => ?_) fun _ _ x => x
  obtain ⟨rfl, hg, ho, keep⟩ := h₁
  refine wpAny_execs_nil ⟨_, rfl, g, al₀, ⟨⟨S.ext.le, List.prefix_refl _⟩, fun b o m nx e => ?_, fun b o e => ?_, S.out, fun b o m _ => m⟩, rfl, ?_⟩
  · exact keep b o (by rintro rfl; rw [hI] at e; cases e) (S.keep b o m nx e)
  · obtain ⟨o', e'⟩ := S.alive b o e
    exact ⟨o', keep b o' (by rintro rfl; rw [hI] at e; cases e) e'⟩
  · have hlen : al.length = mu.length + 1 := by rw [X.st.hs.len]; simp
    have tk := take_pre S.ext.pre hl
    have H := X.st.hs.drop (h' := s₁.heap) hlen hA (by simpa using hb) keep
    rw [tk] at H
    have hL : env.locals ≠ I := by rintro q; exact X.ls.aL (q ▸ List.mem_of_getElem? hA)
    obtain ⟨m, hn, hv⟩ := X.ls.ns
    refine ⟨⟨X.ok.kind, X.ok.globals, X.ok.builtins, X.ok.loc, X.ok.nodup, X.ok.glb, ?_⟩, ⟨X.ls.keys, ⟨m, hn.at' fun o e => keep _ o hL e, fun y w q => ?_⟩, X.ls.gL, fun m => X.ls.aL ?_⟩, ⟨by simpa using H, hg.trans X.st.gens, ho.trans X.st.os⟩⟩
    · intro y w q; rw [hkp] at q; cases q
    · obtain ⟨z, e1, r⟩ := hv y w q
      refine ⟨z, e1, ?_⟩
      have := Rep.narrow w z (hr y w q) r
      rwa [tk] at this
    · obtain ⟨t, rfl⟩ := S.ext.pre; exact List.mem_append_left _ m
theorem Fo.turn {px : Pos} {body : List Stmt} (h : Nxt c n mu k v mu₁) (U : Upd ρ x v ρ₁) (hb : Exs c F n ρ₁ mu₁ body (.next ρ₂ mu₂)) (t : Fo c F n k ρ₂ mu₂ x px body out) : Fo c F n k ρ mu x px body out := by
  refine ⟨fun env g al s A g₀ al₀ h₀ I R X S hI hl hA => for_step (fun v => rfl) ?_⟩
  refine wpAny_mono (h.run g al s A I R X.st hA) (fun r s₁ h₁ => ?_) fun _ _ x => x
  obtain ⟨y, rfl, g₁, al₁, S₁, st₁, r₁⟩ := h₁
  refine wpAny_assign_Name (store (X.step S₁ st₁) U r₁ fun s₂ X₂ S₂ => ?_)
  refine wpAny_mono (hb.run env g₁ al₁ s₂ A R X₂) (fun f s₃ h₃ => ?_) fun _ _ x => x
  obtain ⟨g₃, al₃, S₃, rfl, X₃⟩ := h₃
  have SS := ((S.trans S₁.toS).trans S₂).trans S₃
  refine t.run env g₃ al₃ s₃ A g₀ al₀ h₀ I R X₃ SS hI hl ?_
  exact (S₁.ext.trans (S₂.ext.trans S₃.ext)).at hA
theorem Step.newAt {X : Addr → Prop} {g g' : GH} {al al' : List Addr} {h h' : Heap} {I : Addr} (S : Step X g al h g' al' h') (nd : al'.Nodup) (hl : al.length = k) (hk : al'[k]? = some I) : h.get? I = Option.none := by
  cases e : h.get? I with
  | none => rfl
  | some o =>
    exfalso
    by_cases m : I ∈ al
    · obtain ⟨i, hi, ei⟩ := List.mem_iff_getElem.mp m
      have e1 : al[i]? = some I := by rw [List.getElem?_eq_getElem hi, ei]
      have := nodup_inj nd (S.ext.at e1) hk
      omega
    · exact S.outA I o m e (List.mem_of_getElem? hk)
structure Src (c : Cx) (F : FS) (n : Nat) (ρ : Loc) (mu : Mem) (e : Expr) (k : Nat) (mu' : Mem) : Prop where
  run : ∀ env g al s A, Room n A → FSt c F env g al ρ mu s → wpAny (Md c) A (eval e env) (fun z s₁ => wpAny (Md c) A (pyIter z) (fun y s₂ => ∃ g₀ al₀ h₀ g₂ al₂ I, Step NX g al s.heap g₀ al₀ h₀ ∧ Step NX g₀ al₀ h₀ g₂ al₂ s₂.heap ∧ al₀.length = k ∧
    St c g₂ al₂ mu' s₂ ∧ y = .ref I ∧ al₂[k]? = some I) NoE s₁) NoE s
theorem Src.new {cl : Cell} (h : Ev c F n ρ mu e p mu₁) (hi : Op1 c n mu₁ pyIter p (.cell mu₁.length) (mu₁ ++ [cl])) : Src c F n ρ mu e mu₁.length (mu₁ ++ [cl]) := by
  refine ⟨fun env g al s A R X => thn (h.run env g al s A R X) fun z s₁ g₁ al₁ S₁ st₁ r₁ => thn (hi.run g₁ al₁ s₁ A z R st₁ r₁) fun y s₂ g₂ al₂ S₂ st₂ r₂ => ?_⟩
  obtain ⟨I, rfl, hI⟩ := r₂
  exact ⟨g₁, al₁, s₁.heap, g₂, al₂, I, S₁, S₂, st₁.hs.len, st₂, rfl, hI⟩
theorem Src.self {cl : Cell} (h : Ev c F n ρ mu e (.cell mu.length) (mu ++ [cl])) (hi : Slf c n (mu ++ [cl]) mu.length) : Src c F n ρ mu e mu.length (mu ++ [cl]) := by
  refine ⟨fun env g al s A R X => thn (h.run env g al s A R X) fun z s₁ g₁ al₁ S₁ st₁ r₁ => ?_⟩
  obtain ⟨I, rfl, hI⟩ := r₁
  exact hi.run g₁ al₁ s₁ A I _ _ R st₁ hI ⟨g, al, s.heap, g₁, al₁, I, .refl .., S₁, X.st.hs.len, st₁, rfl, hI⟩
theorem Ex.for {px : Pos} {body : List Stmt} (h : Src c F n ρ mu e k mu₁) (t : Fo c F n k ρ mu₁ x px body out) (hs : ∀ env z, foldedSetIterable e env z = pure z := by intro _ _; rfl) :
    Ex c F n ρ mu (.For (.Name x px) e body [] pos) out := by
  refine ⟨fun env g al s A R X => wpAny_For (wpAny_mono (h.run env g al s A R X) (fun z s₁ h₁ => wpAny_mono h₁ (fun y s₂ h₂ => ?_) fun _ _ x => x.elim) fun _ _ x => x.elim) (hs env)⟩
  obtain ⟨g₀, al₀, h₀, g₂, al₂, I, S₀, S₁, hl, st₂, rfl, hI⟩ := h₂
  refine codeAny_mono (t.run env g₂ al₂ s₂ A g₀ al₀ h₀ I R (X.step (S₀.trans S₁) st₂) S₁.toS (S₁.newAt st₂.hs.nodup hl hI) hl hI) fun r s₃ h₃ => ?_
  obtain ⟨f, rfl, h₃⟩ := h₃
  exact h₃.after S₀.toS
/-! comprehensions -/
structure Sc (c : Cx) (F F' : FS) (scope : Scope) (x : PySem.Str) : Prop where
  kind : scope.kind = .function
  cell : ∀ y ∈ scope.names, y.2 ≠ .cell
  names : ∀ y ∈ scope.names, y.2 = .local → scope.names.lookup y.1 = some .local
  lc : F'.lc = [x]
  env : ∀ env g al C, EnvOk c F g al env → ∃ cl, closureFor scope env = pure cl ∧ EnvOk c F' g al (compEnvC scope cl C env)
theorem comp_step {A : Around} {elt target iter : Expr} {scope : Scope} {it acc : Value} {env : Env} {R : Result → Shared → Prop} {s : Shared}
    (h : wpAny (Md c) A (pyNext it) (fun r s₁ => match r with
      | Option.none => R (.ok .next) s₁
      | some v => wpAny (Md c) A (assign target env v) (fun _ s₂ => wpAny (Md c) A (eval elt env) (fun x s₃ =>
          wpAny (Md c) A (call (.builtin "list.append") [acc, x]) (fun _ s₄ => codeAny (Md c) A (.compLoop (.ListComp elt [⟨target, iter, [], 0⟩] scope pos) 0 it acc env) R s₄) NoE s₃) NoE s₂) NoE s₁) NoE s)
    (ht : ∀ v, letOwnedTupleGo target it v = pure () := by intro _; rfl) :
    codeAny (Md c) A (.compLoop (.ListComp elt [⟨target, iter, [], 0⟩] scope pos) 0 it acc env) R s := by
  refine codeAny_of_tree ?_
  show wpAny _ _ ((compTurn (.ListComp elt [⟨target, iter, [], 0⟩] scope pos) 0 it acc env).onRaise (fun x => do noteFrame x env; theTreesLotGoes x)) _ _ s
  refine wpAny_noted ?_
  rw [compTurn_list1]
  refine wpAny_bind (wpAny_standAt (wpAny_bind (wpAny_mono h (fun r s₁ h₁ => ?_) fun _ _ h' => h'.elim)))
  cases r with
  | none => exact wpAny_pure h₁
  | some v =>
    refine wpAny_bind (wpAny_of_eq (ht v) ?_)
    exact wpAny_bind (wpAny_mono h₁ (fun _ s₂ h₂ => wpAny_bind (wpAny_bind (wpAny_mono h₂ (fun x s₃ h₃ => wpAny_bind (wpAny_mono h₃
      (fun _ s₄ h₄ => wpAny_pure (wpAny_pure ⟨rfl, h₄⟩)) fun _ _ h' => h'.elim)) fun _ _ h' => h'.elim))) fun _ _ h' => h'.elim)
structure Co (c : Cx) (F' : FS) (n k : Nat) (x : PySem.Str) (elt : Expr) (w : Option PV) (mu : Mem) (ys : List PV) (mu' : Mem) : Prop where
  run : ∀ env g al s A g₀ al₀ h₀ I D px iter scope pos, Room n A → FSt c F' env g al [(x, w)] mu s → Step (· = env.locals) g₀ al₀ h₀ g al s.heap → h₀.get? I = Option.none → h₀.get? D = Option.none → al₀.length = k → al[k]? = some I → al[k + 1]? = some D →
    codeAny (Md c) A (.compLoop (.ListComp elt [⟨.Name x px, iter, [], 0⟩] scope pos) 0 (.ref I) (.ref D) env) (fun r s' => r = .ok .next ∧ ∃ g' al', Step (· = env.locals) g₀ al₀ h₀ g' al' s'.heap ∧ St c g' al' mu' s' ∧ Rep g' al' (.lst ys) (.ref D) ∧
      (∃ m, s'.heap.Ns env.locals m) ∧ g' env.locals = Option.none ∧ env.locals ∉ al') s
theorem Co.turn {elt : Expr} {wo : Option PV} {w : PV} {acc ys : List PV} (h : Nxt c n mu k v mu₁) (he : Ev c F' n [(x, some v)] mu₁ elt w mu₂) (ha : mu₂[k + 1]? = some (.list acc)) (hz : acc.length ≤ sizeLine) (t : Co c F' n k x elt (some v) (mu₂.set (k + 1) (.list (acc ++ [w]))) ys mu₃) :
    Co c F' n k x elt wo mu ys mu₃ := by
  refine ⟨fun env g al s A g₀ al₀ h₀ I D px iter scope pos R X S hI hD hl hA hA' => comp_step ?_⟩
  refine wpAny_mono (h.run g al s A I R X.st hA) (fun r s₁ h₁ => ?_) fun _ _ x => x
  obtain ⟨y, rfl, g₁, al₁, S₁, st₁, r₁⟩ := h₁
  refine wpAny_assign_Name (store (X.step S₁ st₁) Upd.here r₁ fun s₂ X₂ S₂ => ?_)
  refine thn (he.run env g₁ al₁ s₂ A R X₂) fun z s₃ g₃ al₃ S₃ st₃ r₃ => ?_
  have X₃ := X₂.step S₃ st₃
  have E3 := S₁.ext.trans (S₂.ext.trans S₃.ext)
  obtain ⟨vs, m, hd, rs⟩ := st₃.hs.cells (k + 1) D _ (E3.at hA') ha
  refine append_at (its := vs.toArray) hd (fun h' hs' hd' => ?_) (by rw [List.size_toArray, rs.length]; exact hz)
  have keep : ∀ b o, b ≠ D → s₃.heap.get? b = some o → h'.get? b = some o := fun b o nb e => (hs'.2 b nb).trans e
  have hc : CellAt g₃ al₃ c.w.params h' D (.list (acc ++ [w])) := ⟨vs ++ [z], m + 1, by rw [hd', List.push_toArray], rs.append (RepL.one r₃)⟩
  have S₄ : Step NX g₃ al₃ s₃.heap g₃ al₃ h' := Step.turn (List.mem_of_getElem? (E3.at hA')) keep (by rw [hd'])
  have st₄ : St c g₃ al₃ (mu₂.set (k + 1) (.list (acc ++ [w]))) { s₃ with heap := h' } := ⟨st₃.hs.turn (E3.at hA') keep hc, st₃.gens, st₃.os⟩
  have SS := (((S.trans S₁.toS).trans S₂).trans S₃.toS).trans S₄.toS
  exact t.run env g₃ al₃ _ A g₀ al₀ h₀ I D px iter scope pos R (X₃.step S₄ st₄) SS hI hD hl (E3.at hA) (E3.at hA')
theorem Co.stop {elt : Expr} {wo : Option PV} {cl : Cell} {ys : List PV} (h : Lst c n (mu ++ [cl, .list ys]) mu.length) (hb : memBelow mu.length mu = true) (hy : PV.underL mu.length ys = true) : Co c F' n mu.length x elt wo (mu ++ [cl, .list ys]) ys mu := by
  refine ⟨fun env g al s A g₀ al₀ h₀ I D px iter scope pos R X S hI hD hl hA hA' => comp_step ?_⟩
  refine wpAny_mono (h.run g al s A I R X.st hA) (fun r s₁ h₁ => ?_) fun _ _ x => x
  obtain ⟨rfl, hg, ho, keep⟩ := h₁
  have tk := take_pre S.ext.pre hl
  have H := X.st.hs
  have hlen : al.length = mu.length + 2 := by rw [H.len]; simp
  obtain ⟨vs, m, hd, rs⟩ := H.cells (mu.length + 1) D (.list ys) hA' (by rw [List.getElem?_append_right (by omega)]; simp)
  have mI := List.mem_of_getElem? hA
  have mD := List.mem_of_getElem? hA'
  have nID : D ≠ I := by rintro rfl; have := nodup_inj H.nodup hA hA'; omega
  have out : ∀ J i, al[i]? = some J → mu.length ≤ i → J ∉ al₀ := by
    rintro J i e hi m
    rw [← tk] at m
    obtain ⟨i', hi', ei⟩ := List.mem_iff_getElem.mp m
    have e1 : (al.take mu.length)[i']? = some J := by rw [List.getElem?_eq_getElem hi', ei]
    rw [List.length_take] at hi'
    rw [List.getElem?_take, if_pos (by omega)] at e1
    have := nodup_inj H.nodup e1 e
    omega
  have H1 := (H.narrow (k := mu.length) (by simpa using hb))
  rw [tk] at H1
  have H2 := H1.growBut (H.fresh I mI) (out I _ hA (Nat.le_refl _)) keep
  have gD := H.fresh D mD
  have hd' := keep D _ nID hd
  have H3 := H2.learn hd' gD (out D _ hA' (Nat.le_succ _))
  have hCD : env.locals ≠ D := by rintro q; exact X.ls.aL (q ▸ mD)
  have hCI : env.locals ≠ I := by rintro q; exact X.ls.aL (q ▸ mI)
  refine ⟨rfl, g.upd D (lstObj vs m), al₀, ⟨⟨fun b o e => GH.upd_le g _ gD b o (S.ext.le b o e), List.prefix_refl _⟩, fun b o m nx e => ?_, fun b o e => ?_, fun b o m e q => ?_, fun b o m _ => m⟩, ⟨by simpa using H3, hg.trans X.st.gens, ho.trans X.st.os⟩, ?_, ?_, ?_, ?_⟩
  · exact keep b o (by rintro rfl; rw [hI] at e; cases e) (S.keep b o m nx e)
  · obtain ⟨o', e'⟩ := S.alive b o e
    exact ⟨o', keep b o' (by rintro rfl; rw [hI] at e; cases e) e'⟩
  · rw [GH.upd_ne g _ (by rintro rfl; rw [hD] at e; cases e)]; exact S.out b o m e q
  · refine ⟨D, vs, m, rfl, GH.upd_self .., RepL.ext (HS.ext_learn gD) _ _ ?_⟩
    have := RepL.narrow ys vs hy rs
    rwa [tk] at this
  · obtain ⟨m, hn, _⟩ := X.ls.ns
    exact ⟨m, hn.at' fun o e => keep _ o hCI e⟩
  · rw [GH.upd_ne g _ hCD]; exact X.ls.gL
  · intro q
    obtain ⟨t, rfl⟩ := S.ext.pre
    exact X.ls.aL (List.mem_append_left _ q)
theorem Ev.comp {px : Pos} {elt iter : Expr} {scope : Scope} {ys : List PV} (h : Src c F n ρ mu iter k mu₁) (sc : Sc c F F' scope x) (t : Co c F' n k x elt Option.none (mu₁ ++ [.list []]) ys mu₂) (sl : Slf c n (mu₁ ++ [.list []]) k) (hk : mu₁.length = k + 1 := by rfl) (hs : ∀ env z, foldedSetIterable iter env z = pure z := by intro _ _; rfl) :
    Ev c F n ρ mu (.ListComp elt [⟨.Name x px, iter, [], 0⟩] scope pos) (.lst ys) mu₂ := by
  refine ⟨fun env g al s A R X => ?_⟩
  rw [eval_ListComp]
  obtain ⟨cl, hcl, _⟩ := sc.env env g al 0 X.ok
  refine wpAny_comprehension_free (use := Option.none) rfl (hs env) hcl sc.kind sc.names (wpAny_mono (h.run env g al s A R X) (fun z s₁ h₁ => wpAny_mono h₁ (fun y s₂ h₂ => ?_) fun _ _ x => x) fun _ _ x => x)
  obtain ⟨g₀, al₀, h₀, g₂, al₂, I, S₀, S₁, hl, st₂, rfl, hI⟩ := h₂
  have SS := S₀.trans S₁
  have X₂ := X.step SS st₂
  have h₀I := S₁.newAt st₂.hs.nodup hl hI
  refine wpAny_newObj_type (wpAny_newFunctionEnv sc.cell (by intro y hy; simp at hy) (fun h₁ hns₁ hsb₁ => ?_) sc.kind)
  dsimp only at hns₁ hsb₁ ⊢
  generalize hH2 : s₂.heap.push { cls := .type "list", dict := Option.none, data := .seq ([] : List Value).toArray } = H2 at hns₁ hsb₁ ⊢
  have hC : H2.objs.size = s₂.heap.objs.size + 1 := by rw [← hH2, Heap.size_push]
  have old : ∀ b o, s₂.heap.get? b = some o → h₁.get? b = some o := fun b o e => hsb₁.extBut b o (by rw [hC]; exact Nat.ne_of_lt (Nat.lt_succ_of_lt (Heap.lt_size e))) (Heap.get?_push_of_some _ (hH2 ▸ Heap.get?_push_of_some _ e))
  have hD : h₁.get? s₂.heap.objs.size = some (lstObj [] 0) := hsb₁.extBut _ _ (by rw [hC]; exact Nat.ne_of_lt (Nat.lt_succ_self _)) (Heap.get?_push_of_some _ (hH2 ▸ Heap.get?_push_size _ rfl))
  have fD := st₂.hs.free (Nat.le_refl s₂.heap.objs.size)
  have fC := st₂.hs.free (a := H2.objs.size) (by rw [hC]; exact Nat.le_succ _)
  have st₃ : St c g₂ (al₂ ++ [s₂.heap.objs.size]) (mu₁ ++ [.list []]) { s₂ with heap := h₁, toks := s₂.toks + ([] : List (PySem.Str × Value)).length } :=
    ⟨(st₂.hs.grow old).newCell fD.1 fD.2 ⟨[], 0, hD, rfl⟩, st₂.gens, st₂.os⟩
  have S₂ : Step NX g₂ al₂ s₂.heap g₂ (al₂ ++ [s₂.heap.objs.size]) h₁ := Step.cell old (size_none _)
  have hl2 : al₂.length = k + 1 := by rw [st₂.hs.len]; exact hk
  obtain ⟨cl', hcl', EO⟩ := sc.env env g₂ (al₂ ++ [s₂.heap.objs.size]) H2.objs.size (X₂.ok.ext S₂.ext)
  have : cl' = cl := by
    have := hcl'.symm.trans hcl
    injection this
  subst this
  have LS : Ls F' g₂ (al₂ ++ [s₂.heap.objs.size]) H2.objs.size [(x, Option.none)] h₁ := ⟨by rw [sc.lc]; rfl, ⟨_, hns₁, fun y w q => by simp at q⟩, fC.1, fun m => by
    rcases List.mem_append.mp m with m | m
    · exact fC.2 m
    · rw [hC] at m; simp at m⟩
  have h₀D : h₀.get? s₂.heap.objs.size = Option.none := by
    cases e : h₀.get? s₂.heap.objs.size with
    | none => rfl
    | some o => obtain ⟨o', e'⟩ := S₁.alive _ _ e; rw [size_none] at e'; cases e'
  have loop := t.run (compEnvC scope cl' H2.objs.size env) g₂ _ { s₂ with heap := h₁, toks := s₂.toks + ([] : List (PySem.Str × Value)).length } A g₀ al₀ h₀ I s₂.heap.objs.size px iter scope pos R ⟨EO, LS, st₃⟩ ((S₁.trans S₂).weaken fun _ x => x.elim) h₀I h₀D hl
    (S₂.ext.at hI) (by rw [← hl2]; simp)
  have loop' := codeAny_mono loop (R' := fun r s' => compPost (Md c) A NoE Option.none (Post c g al s.heap (.lst ys) mu₂) (.ref s₂.heap.objs.size) H2.objs.size r s') fun r s₃ h₃ => by
    obtain ⟨rfl, g₃, al₃, S₃, st₃, r₃, ⟨m, hn⟩, gC, aC⟩ := h₃
    refine ⟨m, hn, fun h' hs' => ?_⟩
    have h₀C : h₀.get? H2.objs.size = Option.none := by
      cases e : h₀.get? H2.objs.size with
      | none => rfl
      | some o =>
        obtain ⟨o', e'⟩ := S₁.alive _ _ e
        rw [size_none' (by rw [hC]; exact Nat.le_succ _)] at e'; cases e'
    have keep : ∀ b o, b ≠ H2.objs.size → s₃.heap.get? b = some o → h'.get? b = some o := fun b o nb e => (hs'.2 b nb).trans e
    have ne : ∀ b o, h₀.get? b = some o → b ≠ H2.objs.size := fun b o e => by rintro rfl; rw [h₀C] at e; cases e
    have S₃' : Step NX g₀ al₀ h₀ g₃ al₃ h' := ⟨S₃.ext, fun b o m _ e => keep b o (ne b o e) (S₃.keep b o m (ne b o e) e), fun b o e => by
      obtain ⟨o', e'⟩ := S₃.alive b o e; exact ⟨o', keep b o' (ne b o e) e'⟩, S₃.out, S₃.outA⟩
    exact ⟨g₃, al₃, S₀.trans S₃', ⟨st₃.hs.growBut gC aC keep, st₃.gens, st₃.os⟩, r₃⟩
  exact codeAny_compStart_list loop' (sl.run g₂ _ _ A I _ _ R st₃ (S₂.ext.at hI) loop')
end
end
-- text M14
section
section
variable {c : Cx} {F F' : FS} {n : Nat} {ρ ρ₁ ρ₂ ρ₃ : Loc} {mu mu₁ mu₂ mu₃ mu₄ : Mem} {pos : Pos} {e e₁ e₂ e₃ : Expr} {p q r v : PV} {a b i j : Int} {x y : List Nat} {out : Out} {k : Nat}
theorem RepL.uncons {g : GH} {al : List Addr} {p : PV} {ps : List PV} {vs : List Value} (h : RepL g al (p :: ps) vs) : ∃ z zs, vs = z :: zs ∧ Rep g al p z ∧ RepL g al ps zs := h
theorem RepL.nil {g : GH} {al : List Addr} {vs : List Value} (h : RepL g al [] vs) : vs = [] := h
theorem OpN.one {f : Value} (h : ∀ g al s A z, Room n A → St c g al mu s → Rep g al p z → wpAny (Md c) A (call f [z]) (Post c g al s.heap v mu₁) NoE s) : OpN c n mu (fun vs => call f vs) [p] v mu₁ :=
  ⟨fun g al s A xs R st r => by obtain ⟨z, zs, e, rz, e2⟩ := r; cases e2; subst e; exact h g al s A z R st rz⟩
theorem OpN.two {f : Value} (h : ∀ g al s A z w, Room n A → St c g al mu s → Rep g al p z → Rep g al q w → wpAny (Md c) A (call f [z, w]) (Post c g al s.heap v mu₁) NoE s) : OpN c n mu (fun vs => call f vs) [p, q] v mu₁ :=
  ⟨fun g al s A xs R st r => by obtain ⟨z, zs, e, rz, w, ws, e2, rw, e3⟩ := r; cases e3; subst e2; subst e; exact h g al s A z w R st rz rw⟩
theorem OpN.three {f : Value} (h : ∀ g al s A z w u, Room n A → St c g al mu s → Rep g al p z → Rep g al q w → Rep g al r u → wpAny (Md c) A (call f [z, w, u]) (Post c g al s.heap v mu₁) NoE s) : OpN c n mu (fun vs => call f vs) [p, q, r] v mu₁ :=
  ⟨fun g al s A xs R st r => by obtain ⟨z, zs, e, rz, w, ws, e2, rw, u, us, e3, ru, e4⟩ := r; cases e4; subst e3; subst e2; subst e; exact h g al s A z w u R st rz rw ru⟩
theorem lenS (h : x.length < 1000000) : OpN c n mu (fun vs => call (.builtin "len") vs) [.str x] (.int x.length) mu := OpN.one fun g al s A z R st ⟨t, e⟩ => by
  subst e
  exact PySem.P.len_str (by rw [S_len]; omega) ⟨g, al, .refl .., st.toks, ⟨_, by rw [S_len]⟩⟩
theorem lenL {ps : List PV} (h : ps.length < 1000000) : OpN c n mu (fun vs => call (.builtin "len") vs) [.lst ps] (.int ps.length) mu := OpN.one fun g al s A z R st ⟨d, vs, m, e, hd, r⟩ => by
  subst e
  exact PyProof.Rows.len_list ⟨_, st.hs.keep _ _ hd, rfl, m, rfl⟩ (by rw [List.size_toArray, r.length]; omega) ⟨g, al, .refl .., st.toks, ⟨_, by rw [List.size_toArray, r.length]⟩⟩
theorem lenC {ps : List PV} (hk : mu[k]? = some (.list ps)) (h : ps.length < 1000000) : OpN c n mu (fun vs => call (.builtin "len") vs) [.cell k] (.int ps.length) mu := OpN.one fun g al s A z R st r1 => by
  obtain ⟨d, vs, m, e1, _, hd, r⟩ := st.list r1 hk
  subst e1
  exact PyProof.Rows.len_list ⟨_, hd, rfl, m, rfl⟩ (by rw [List.size_toArray, r.length]; omega) ⟨g, al, .refl .., st.toks, ⟨_, by rw [List.size_toArray, r.length]⟩⟩
theorem ord1 {m : Nat} : OpN c n mu (fun vs => call (.builtin "ord") vs) [.str [m]] (.int m) mu := OpN.one fun g al s A z R st ⟨t, e⟩ => by
  subst e
  exact PySem.P.ord_of_char ⟨g, al, .refl .., st.toks, ⟨_, rfl⟩⟩
theorem chr1 (h0 : 0 ≤ i) (h1 : i ≤ 1000) : OpN c n mu (fun vs => call (.builtin "chr") vs) [.int i] (.str [i.toNat]) mu := OpN.one fun g al s A z R st ⟨t, e⟩ => by
  subst e
  exact PySem.P.chr_of_int (by rw [decide_eq_false (by omega), decide_eq_false (by omega)]; rfl) ⟨g, al, .refl .., st.toks, ⟨_, rfl⟩⟩
theorem strI (h : i.natAbs.log2 < 1920) : OpN c n mu (fun vs => call (.type "str") vs) [.int i] (.str (T (toString i))) mu := OpN.one fun g al s A z R st ⟨t, e⟩ => by
  subst e
  exact PySem.P.str_of_int h ⟨g, al, .refl .., st.toks, ⟨_, rfl⟩⟩
theorem strS : OpN c n mu (fun vs => call (.type "str") vs) [.str x] (.str x) mu := OpN.one fun g al s A z R st ⟨t, e⟩ => by
  subst e
  exact PySem.P.str_of_str ⟨g, al, .refl .., st, ⟨_, rfl⟩⟩
theorem intI : OpN c n mu (fun vs => call (.type "int") vs) [.int i] (.int i) mu := OpN.one fun g al s A z R st ⟨t, e⟩ => by
  subst e
  exact call_int_int ⟨g, al, .refl .., st, ⟨_, rfl⟩⟩
theorem absI : OpN c n mu (fun vs => call (.builtin "abs") vs) [.int i] (.int i.natAbs) mu := OpN.one fun g al s A z R st ⟨t, e⟩ => by
  subst e
  refine call_abs_int fun u tk => ⟨g, al, .refl .., st.toks, ⟨u, ?_⟩⟩
  congr 1
  split <;> omega
theorem maxI : OpN c n mu (fun vs => call (.builtin "max") vs) [.int i, .int j] (.int (if i < j then j else i)) mu := OpN.two fun g al s A z w R st ⟨t, e⟩ ⟨u, e2⟩ => by
  subst e; subst e2
  refine Flt.max_two_num R.handled (.int i t) (.int j u) fun h' tk kp => ?_
  refine ⟨g, al, Step.grow kp, st.put (st.hs.grow kp), ?_⟩
  have : Flt.ltV (.int i t) (.int j u) = decide (i < j) := rfl
  rw [this]
  by_cases h : i < j
  · rw [if_pos h, decide_eq_true h]; exact ⟨u, rfl⟩
  · rw [if_neg h, decide_eq_false h]; exact ⟨t, rfl⟩
/-! methods of texts -/
theorem noRefS {h : Heap} {x : PySem.Str} {t : Tok} : ∀ a, Value.str x t = .ref a → ∃ o, h.get? a = some o ∧ o.dict = Option.none := fun _ e => nomatch e
theorem refL {h : Heap} {d : Addr} {vs : List Value} {m : Nat} (hd : h.get? d = some (lstObj vs m)) : ∀ a, Value.ref d = .ref a → ∃ o, h.get? a = some o ∧ o.dict = Option.none := fun a e => by cases e; exact ⟨_, hd, rfl⟩
theorem Meth.str {name : PySem.Str} {id : String} (slot : Slot "str" name id) (hty : typeOf (.builtin id) = pure (.type "method_descriptor")) : Meth c n mu (.str x) name (.builtin id) :=
  ⟨fun g al s A z pl Q R st ⟨t, e⟩ h => by
    subst e
    with_reducible exact getMethod_builtin (typeIs_str _ _ _) F.plainAttrs_str slot hty noRefS h⟩
theorem Meth.cell {ps : List PV} {name : PySem.Str} {id : String} (hk : mu[k]? = some (.list ps)) (slot : Slot "list" name id) (hty : typeOf (.builtin id) = pure (.type "method_descriptor")) : Meth c n mu (.cell k) name (.builtin id) :=
  ⟨fun g al s A z pl Q R st r1 h => by
    obtain ⟨d, vs, m, e, _, hd, r⟩ := st.list r1 hk; subst e
    have hT : s.TypeIs (.ref d) "list" := ⟨_, hd, rfl⟩
    with_reducible exact getMethod_builtin hT F.plainAttrs_list slot hty (refL hd) h⟩
theorem strVals {g : GH} {al : List Addr} : ∀ (ps : List (List Nat)) (vs : List Value), RepL g al (ps.map PV.str) vs → ∃ l : List (PySem.Str × Tok), vs = strValues l ∧ l.map (·.1) = ps.map S
  | [], _, r => by cases r; exact ⟨[], rfl, rfl⟩
  | y :: ps, vs, r => by
    obtain ⟨z, zs, e, ⟨u, ez⟩, r⟩ := r
    subst ez
    obtain ⟨l, e1, e2⟩ := strVals ps zs r
    exact ⟨(S y, u) :: l, by rw [e, e1]; rfl, by simp [e2]⟩
theorem join1 {ps : List (List Nat)} (h : JoinOk (S x) (ps.map S) = true) : OpN c n mu (fun vs => call (.builtin "str.join") vs) [.str x, .lst (ps.map PV.str)] (.str (Txt.join (S x) (ps.map S)).cps.toList) mu := OpN.two fun g al s A z w R st ⟨t, e⟩ ⟨d, vs, m, e2, hd, r⟩ => by
  subst e; subst e2
  obtain ⟨l, e1, e2⟩ := strVals _ _ r
  subst e1
  exact SC.join ⟨_, st.hs.keep _ _ hd, rfl, m, rfl⟩ e2 h fun t' k => ⟨g, al, .refl .., st.toks, ⟨t', by simp⟩⟩
theorem find3 : OpN c n mu (fun vs => call (.builtin "str.find") vs) [.str x, .str y, .int i] (.int (Txt.find3 (S x) (S y) i)) mu := OpN.three fun g al s A z w u R st ⟨t, e⟩ ⟨t2, e2⟩ ⟨t3, e3⟩ => by
  subst e; subst e2; subst e3
  exact SC.find3 ⟨g, al, .refl .., st.toks, ⟨_, rfl⟩⟩
noncomputable def find4v (x y : List Nat) (i j : Nat) : Int := match Builtin.Str.occurrences (S x) (S y) (fromIndex x.length i) (min (fromIndex x.length j) x.length) 1 with | k :: _ => (k : Int) | [] => -1
theorem index1 {m : Nat} {l : List Nat} (h : Builtin.Str.occurrences (S x) (S y) 0 (S x).length 1 = m :: l) : OpN c n mu (fun vs => call (.builtin "str.index") vs) [.str x, .str y] (.int m) mu := OpN.two fun g al s A z w R st ⟨t, e⟩ ⟨t2, e2⟩ => by
  subst e; subst e2
  exact call_gives F.slot_str_index (typeIs_str _ _ _) F.entry_str_index (F.args_str_index_2 _ _) (gives_str_index (S x) (S y) t t2 m l h) ⟨g, al, .refl .., st.toks, ⟨_, rfl⟩⟩
end
end
-- text M15
section
section
variable {c : Cx} {F F' : FS} {n : Nat} {ρ ρ₁ ρ₂ ρ₃ : Loc} {mu mu₁ mu₂ mu₃ mu₄ : Mem} {pos : Pos} {e e₁ e₂ e₃ : Expr} {p q r v : PV} {a b i j : Int} {x y : List Nat} {out : Out} {k : Nat}
theorem appArr (vs us : List Value) : vs.toArray ++ us.toArray = (vs ++ us).toArray := by simp
theorem appendC {ps : List PV} (hk : mu[k]? = some (.list ps)) (hz : ps.length < 1000000) : OpN c n mu (fun vs => call (.builtin "list.append") vs) [.cell k, p] .none (mu.set k (.list (ps ++ [p]))) := OpN.two fun g al s A z w R st r1 rw => by
  obtain ⟨d, vs, m, e1, hd, ho, r⟩ := st.list r1 hk
  subst e1
  refine append_at (its := vs.toArray) ho (fun h' hs' hd' => ?_) (by rw [List.size_toArray, r.length, sizeLine_eq]; omega)
  refine Post.turn st hd (fun b o nb e => (hs'.2 b nb).trans e) ⟨vs ++ [w], m + 1, by rw [hd', List.push_toArray], r.append (RepL.one rw)⟩ rfl rfl rfl
theorem extendC {ps qs : List PV} (hk : mu[k]? = some (.list ps)) (hz : ps.length + qs.length < 1000000) : OpN c n mu (fun vs => call (.builtin "list.extend") vs) [.cell k, .lst qs] .none (mu.set k (.list (ps ++ qs))) := OpN.two fun g al s A z w R st r1 ⟨d2, vs2, m2, e2, ho2, r2⟩ => by
  obtain ⟨d, vs, m, e1, hd, ho, r⟩ := st.list r1 hk
  subst e1; subst e2
  have hsz' : vs.toArray.size + vs2.toArray.size ≤ sizeLine := by rw [List.size_toArray, List.size_toArray, r.length, r2.length, sizeLine_eq]; omega
  refine call_meets PySem.F.slot_list_extend ⟨_, ho, rfl⟩ PySem.F.entry_list_extend (PySem.F.args_list_extend_2 _ _) (AutoSeq1.list_extend_list_list_0 d vs.toArray m d2 vs2.toArray m2 (extend_door hsz') (Nat.le_trans (Nat.le_add_right _ _) hsz')) ⟨ho, st.hs.keep _ _ ho2, ?_⟩
  have z := IsL.update (h := s.heap) (l := d) (items := vs.toArray) (n := m) ho (fun x => x ++ vs2.toArray)
  rw [appArr] at z
  exact Post.turn (cl := .list (ps ++ qs)) st hd (fun b o nb e => ((Heap.SameBut.update ..).2 b nb).trans e) ⟨vs ++ vs2, _, z, r.append r2⟩ rfl rfl rfl
theorem popC {ps : List PV} (hk : mu[k]? = some (.list (ps ++ [p]))) (hz : ps.length < 1000000) : OpN c n mu (fun vs => call (.builtin "list.pop") vs) [.cell k] p (mu.set k (.list ps)) := OpN.one fun g al s A z R st r1 => by
  obtain ⟨d, vs, m, e1, hd, ho, r⟩ := st.list r1 hk
  subst e1
  obtain ⟨us, ws, rfl, ru, y, ys, rfl, ry, e⟩ := RepL.of_append r
  cases e
  have hz' : (us ++ [y]).toArray.size ≤ sizeLine := by rw [List.size_toArray, List.length_append, ru.length, sizeLine_eq]; simp; omega
  have hk' : (us ++ [y]).toArray.size - 1 = us.length := by rw [List.size_toArray, List.length_append]; rfl
  have hy : (us ++ [y]).toArray[(us ++ [y]).toArray.size - 1]? = some y := by rw [hk']; simp
  refine call_meets PySem.F.slot_list_pop ⟨_, ho, rfl⟩ PySem.F.entry_list_pop (PySem.F.args_list_pop_1 _) (PySem.MeetsSeq.list_pop_last d _ m y hy hz') ⟨ho, ?_⟩
  have z := IsL.update (h := s.heap) (l := d) (items := (us ++ [y]).toArray) (n := m) ho (fun xs => xs.eraseIdxIfInBounds ((us ++ [y]).toArray.size - 1))
  have e9 : (us ++ [y]).toArray.eraseIdxIfInBounds ((us ++ [y]).toArray.size - 1) = us.toArray := by rw [hk', kl_erase, List.append_nil]
  rw [e9] at z
  exact Post.turn (cl := .list ps) st hd (fun b o nb e => ((Heap.SameBut.update ..).2 b nb).trans e) ⟨us, _, z, ru⟩ rfl rfl ry
theorem Op2.addL {ps qs : List PV} (hz : ps.length + qs.length < 1000000) : Op2 c n mu (binaryOp .Add) (.lst ps) (.lst qs) (.lst (ps ++ qs)) mu := ⟨fun g al s A _ _ R st ⟨d, vs, m, e1, ho, r⟩ ⟨d2, vs2, m2, e2, ho2, r2⟩ => by
  subst e1; subst e2
  have h1 := st.hs.keep _ _ ho
  have h2 := st.hs.keep _ _ ho2
  refine concat_meets ⟨_, h1, rfl⟩ ⟨_, h2, rfl⟩ noFill_list_add seq_list_add PySem.F.slot_list_add PySem.F.entry_list_add (PySem.F.args_list_add_2 _ _) (list_addW d d2 vs.toArray vs2.toArray m m2 Option.none Option.none #[] #[] (by rw [List.size_toArray, List.size_toArray, r.length, r2.length, sizeLine_eq]; omega)) ⟨h1, h2, ?_⟩
  refine Post.made (o := lstObj (vs ++ vs2) 0) st (fun _ _ e => Heap.get?_push_of_some _ e) (size_none _) (by rw [appArr]; exact Heap.get?_push_size _ rfl) rfl rfl ⟨_, vs ++ vs2, 0, rfl, GH.upd_self .., ?_⟩
  exact RepL.ext (HS.ext_learn (st.hs.free (Nat.le_refl _)).1) _ _ (r.append r2)⟩
theorem Op2.addLC {ps qs : List PV} (hk : mu[k]? = some (.list ps)) (hz : ps.length + qs.length < 1000000) : Op2 c n mu (binaryOp .Add) (.cell k) (.lst qs) (.lst (ps ++ qs)) mu := ⟨fun g al s A _ _ R st r1 ⟨d2, vs2, m2, e2, ho2, r2⟩ => by
  obtain ⟨d, vs, m, e1, hd, h1, r⟩ := st.list r1 hk
  subst e1; subst e2
  have h2 := st.hs.keep _ _ ho2
  refine concat_meets ⟨_, h1, rfl⟩ ⟨_, h2, rfl⟩ noFill_list_add seq_list_add PySem.F.slot_list_add PySem.F.entry_list_add (PySem.F.args_list_add_2 _ _) (list_addW d d2 vs.toArray vs2.toArray m m2 Option.none Option.none #[] #[] (by rw [List.size_toArray, List.size_toArray, r.length, r2.length, sizeLine_eq]; omega)) ⟨h1, h2, ?_⟩
  refine Post.made (o := lstObj (vs ++ vs2) 0) st (fun _ _ e => Heap.get?_push_of_some _ e) (size_none _) (by rw [appArr]; exact Heap.get?_push_size _ rfl) rfl rfl ⟨_, vs ++ vs2, 0, rfl, GH.upd_self .., ?_⟩
  exact RepL.ext (HS.ext_learn (st.hs.free (Nat.le_refl _)).1) _ _ (r.append r2)⟩
theorem strRep {g : GH} {al : List Addr} : ∀ {l : List (PySem.Str × Tok)}, RepL g al (((l.map (·.1)).map (·.cps.toList)).map PV.str) (strValues l)
  | [] => rfl
  | (z, t) :: l => ⟨_, _, rfl, ⟨t, by simp⟩, strRep⟩
theorem split1 {ys : List (List Nat)} (hy : ((S y).length == 0) = false) (hx : x.length < 1000000) (h : (Txt.split (S x) (S y)).map (·.cps.toList) = ys) : OpN c n mu (fun vs => call (.builtin "str.split") vs) [.str x, .str y] (.lst (ys.map PV.str)) mu := OpN.two fun g al s A z w R st ⟨t, e1⟩ ⟨u, e2⟩ => by
  subst e1; subst e2; subst h
  have hsz : (S x).length + 2 ≤ sizeLine := by rw [S_len, sizeLine_eq]; omega
  have hn : (Builtin.Str.partsBetween (S x) (Builtin.Str.occurrences (S x) (S y) 0 (S x).length ((S x).length + 1)) (S y).length).length ≤ sizeLine := by
    have e1 := StrLaws.occ_length_le (S x) (S y) 0 (S x).length ((S x).length + 1)
    rw [length_partsBetween]; omega
  have fin : ∀ (l : List (PySem.Str × Tok)) (k : Nat), l.map (·.1) = Txt.split (S x) (S y) → Post c g al s.heap (.lst (((Txt.split (S x) (S y)).map (·.cps.toList)).map PV.str)) mu (.ref s.heap.objs.size) { s with heap := s.heap.push { cls := .type "list", data := .seq (strValues l).toArray }, toks := k } := by
    intro l k hl
    rw [← hl]
    refine Post.made (o := lstObj (strValues l) 0) st (fun _ _ e => Heap.get?_push_of_some _ e) (size_none _) (Heap.get?_push_size _ rfl) rfl rfl ⟨_, strValues l, 0, rfl, GH.upd_self .., strRep⟩
  cases h1 : (decide ((S x).length < (S y).length) || decide (Builtin.Str.strKind (S x) < Builtin.Str.strKind (S y)))
  · cases hf : (Builtin.Str.occurrences (S x) (S y) 0 (S x).length ((S x).length + 1)).isEmpty
    · refine call_meets F.slot_str_split (typeIs_str _ _ _) F.entry_str_split (F.args_str_split_2 _ _) (meets_str_split_sep (S x) (S y) t u h1 hy hf (by omega) hn) ?_
      show wants _ _ _ { s with toks := _, heap := s.heap.push { cls := .type "list", data := .seq (strsFrom s.toks (Builtin.Str.partsBetween (S x) (Builtin.Str.occurrences (S x) (S y) 0 (S x).length ((S x).length + 1)) (S y).length)).toArray } }
      rw [strsFrom_eq]
      exact fin (numbered s.toks _) _ ((numbered_texts _ _).trans ((if_neg (ne_true_of_eq_false h1)).trans (if_neg (ne_true_of_eq_false hf))).symm)
    · exact call_meets F.slot_str_split (typeIs_str _ _ _) F.entry_str_split (F.args_str_split_2 _ _) (meets_str_split_not_found (S x) (S y) t u h1 hy hf)
        (fin [(S x, t)] s.toks ((if_neg (ne_true_of_eq_false h1)).trans (if_pos hf)).symm)
  · exact call_meets F.slot_str_split (typeIs_str _ _ _) F.entry_str_split (F.args_str_split_2 _ _) (meets_str_split_cannot_occur (S x) (S y) t u h1)
      (fin [(S x, t)] s.toks (if_pos h1).symm)
theorem gives_find4 (x y : PySem.Str) (i j : Nat) (t u v w : Tok) : Gives (Builtin.«str.find» ⟨[.str x t, .str y u, .int i v, .int j w], []⟩) (.int (match Builtin.Str.occurrences x y (fromIndex x.length i) (min (fromIndex x.length j) x.length) 1 with | k :: _ => (k : Int) | [] => -1)) := by
  show Gives (match Builtin.Str.occurrences x y (fromIndex x.length i) (min (fromIndex x.length j) x.length) 1 with | k :: _ => retInt k | [] => (do rule "str.find.not-found"; retInt (-1))) _
  cases Builtin.Str.occurrences x y (fromIndex x.length i) (min (fromIndex x.length j) x.length) 1 with
  | nil => exact .rule (.of_eq rfl)
  | cons k _ => exact .of_eq rfl
theorem find4 {i j : Nat} : OpN c n mu (fun vs => call (.builtin "str.find") vs) [.str x, .str y, .int i, .int j] (.int (find4v x y i j)) mu := ⟨fun g al s A xs R st r => by
  obtain ⟨z, zs, e, ⟨t, e1⟩, w, ws, e2, ⟨u, e3⟩, z3, zs3, e4, ⟨t3, e5⟩, z4, zs4, e6, ⟨t4, e7⟩, e8⟩ := r
  cases e8; subst e6; subst e4; subst e2; subst e; subst e1; subst e3; subst e5; subst e7
  refine call_gives F.slot_str_find (typeIs_str _ _ _) F.entry_str_find (F.args_str_find_4 _ _ _ _) (gives_find4 (S x) (S y) i j t u t3 t4) ⟨g, al, .refl .., st.toks, ⟨s.toks, ?_⟩⟩
  unfold find4v
  rw [S_len]
  all_goals (cases Builtin.Str.occurrences (S x) (S y) (fromIndex x.length i) (min (fromIndex x.length j) x.length) 1 <;> rfl)⟩
end
end
-- text M16
section
/-! entries of a dict, by text -/
noncomputable def kvPut (name : PySem.Str) (v : PV) : List (PySem.Str × PV) → List (PySem.Str × PV)
  | [] => [(name, v)]
  | (k, u) :: r => if k == name then (k, v) :: r else (k, u) :: kvPut name v r
noncomputable def kvGet (name : PySem.Str) : List (PySem.Str × PV) → Option PV
  | [] => Option.none
  | (k, u) :: r => if k == name then some u else kvGet name r
theorem KV.get {g : GH} {al : List Addr} {P : Params} {name : PySem.Str} {v : PV} : ∀ {kv : List (PySem.Str × PV)} {es : List DictEntry}, KV g al P kv es → kvGet name kv = some v → ∃ z, getL name es = some (some z) ∧ Rep g al v z
  | [], _, _, h => by simp [kvGet] at h
  | (k, u) :: r, es, ⟨t, z, es', e, rz, h'⟩, h => by
    subst e
    unfold kvGet at h
    by_cases q : (k == name) = true
    · rw [if_pos q] at h
      cases h
      refine ⟨z, ?_, rz⟩
      unfold getL
      have : (Value.str k t).isStr name = true := q
      rw [List.find?_cons, this]
    · rw [if_neg q] at h
      obtain ⟨z', e1, r1⟩ := KV.get h' h
      refine ⟨z', ?_, r1⟩
      have q' : (k == name) = false := by simpa using q
      have : (Value.str k t).isStr name = false := q'
      unfold getL at e1 ⊢
      rw [List.find?_cons, this]
      have e2 : ((⟨PyData.keyHash P k, Value.str k t, z⟩ : DictEntry) :: es').any (·.refKey) = es'.any (·.refKey) := rfl
      rw [e2]
      exact e1
theorem KV.noRef {g : GH} {al : List Addr} {P : Params} : ∀ {kv : List (PySem.Str × PV)} {es : List DictEntry}, KV g al P kv es → es.any (·.refKey) = false
  | [], _, h => by cases h; rfl
  | (k, u) :: r, es, ⟨t, z, es', e, rz, h'⟩ => by subst e; rw [List.any_cons, KV.noRef h']; rfl
theorem KV.put {g : GH} {al : List Addr} {P : Params} {name : PySem.Str} {v : PV} {y : Value} {t : Tok} (ry : Rep g al v y) : ∀ {kv : List (PySem.Str × PV)} {es : List DictEntry}, KV g al P kv es → KV g al P (kvPut name v kv) (putL name (PyData.keyHash P name) (.str name t) y es)
  | [], _, h => by cases h; exact ⟨t, y, [], rfl, ry, rfl⟩
  | (k, u) :: r, es, ⟨t', z, es', e, rz, h'⟩ => by
    subst e
    unfold kvPut putL
    have : (Value.str k t').isStr name = (k == name) := rfl
    rw [this]
    by_cases q : (k == name) = true
    · rw [if_pos q, if_pos q]; exact ⟨t', y, es', rfl, ry, h'⟩
    · rw [if_neg q, if_neg q]; exact ⟨t', z, _, rfl, rz, KV.put ry h'⟩
theorem KV.length {g : GH} {al : List Addr} {P : Params} : ∀ {kv : List (PySem.Str × PV)} {es : List DictEntry}, KV g al P kv es → es.length = kv.length
  | [], _, h => by cases h; rfl
  | (k, u) :: r, es, ⟨t, z, es', e, rz, h'⟩ => by subst e; simp [KV.length h']
noncomputable def PV.handed : PV → Bool
  | .val _ => false
  | _ => true
theorem handed_of {g : GH} {al : List Addr} {v : PV} {z : Value} (h : v.handed = true) (r : Rep g al v z) : handedIn z = true := by
  cases v with
  | none => have : z = .none := r; subst this; rfl
  | bool b => have : z = .bool b := r; subst this; rfl
  | int i => obtain ⟨t, rfl⟩ := r; rfl
  | str i => obtain ⟨t, rfl⟩ := r; rfl
  | tup i => obtain ⟨t, _, _, rfl, _⟩ := r; rfl
  | lst i => obtain ⟨t, _, _, rfl, _⟩ := r; rfl
  | cell k => obtain ⟨t, rfl, _⟩ := r; rfl
  | inst C k => obtain ⟨t, _, rfl, _⟩ := r; rfl
  | val v => cases h
structure AttrOk (c : Cx) (C : Addr) (name : PySem.Str) : Prop where
  ga : findIn c.K (.ref C) "__getattribute__" = some (some (.builtin "object.__getattribute__"))
  sa : findIn c.K (.ref C) "__setattr__" = some (some (.builtin "object.__setattr__"))
  over : plainOver c.K C = true
  taker : takerIn c.K C name = some Option.none
  dict : hasDictIn c.K C = true
  find : findIn c.K (.ref C) name = some Option.none
section
variable {c : Cx} {F F' : FS} {n : Nat} {ρ ρ₁ ρ₂ ρ₃ : Loc} {mu mu₁ mu₂ mu₃ mu₄ : Mem} {pos : Pos} {e e₁ e₂ e₃ : Expr} {p q r v : PV} {a b i j : Int} {x y : List Nat} {out : Out} {k : Nat} {C : Addr} {name : PySem.Str}
theorem St.inst {g : GH} {al : List Addr} {s : Shared} {kv : List (PySem.Str × PV)} (st : St c g al mu s) {z : Value} (r : Rep g al (.inst C k) z) (h : mu[k]? = some (.dict kv)) :
    ∃ a d es m, z = .ref a ∧ al[k]? = some d ∧ s.heap.get? d = some (dictOf es m) ∧ KV g al c.w.params kv es ∧ InstAt s.heap a (instObj C d) C (some (dictOf es m)) ∧ g a = some (instObj C d) := by
  obtain ⟨a, d, e, hk, hg⟩ := r
  obtain ⟨es, m, hd, r⟩ := st.hs.cells k d _ hk h
  exact ⟨a, d, es, m, e, hk, hd, r, ⟨st.hs.keep _ _ hg, rfl, rfl, hd⟩, hg⟩
theorem Ev.attr (Cc : c.Ok) (O : AttrOk c C name) {kv : List (PySem.Str × PV)} (h : Ev c F n ρ mu e (.inst C k) mu₁) (hk : mu₁[k]? = some (.dict kv)) (hv : kvGet name kv = some v) (hh : v.handed = true := by rfl)
    (he : ∀ env, eval (.Attribute e name pos) env = (do
      let o ← eval e env
      standAt pos.atName
      let r ← holding [o] (getAttr o name true)
      letTemporaryGo e o r
      pure r) := by intro _; rfl) : Ev c F n ρ mu (.Attribute e name pos) v mu₁ := by
  refine ⟨fun env g al s A R X => Attribute_any_ (thn (h.run env g al s A R X) fun z s₁ g₁ al₁ S₁ st₁ r₁ => ?_) (he env)⟩
  obtain ⟨a, d, es, m, rfl, hd, ho, rk, I, hg⟩ := st₁.inst r₁ hk
  obtain ⟨y, hy, ry⟩ := rk.get hv
  exact get_value (st₁.KX Cc) I O.ga (findObj_own O.dict O.find rfl hy) (handed_of hh ry) ⟨g₁, al₁, S₁, st₁.toks, ry⟩
theorem osa_mine {prog : Program} {w : World} {A : Around} {K : Frag} {x dx : Addr} {s : Shared} {R : Result → Shared → Prop} {ox od od' : Obj} {tk : Tok} {v : Value} {es : List DictEntry} {n : Nat} (X : K.In s.heap)
    (I : InstAt s.heap x ox C (some od)) (hd : ox.dict = some dx) (hp : plainOver K C = true) (ht : takerIn K C name = some Option.none) (hh : (clsIn K C).any (·.hasDict) = true)
    (hl : (lookIn name od).isSome = true) (D : s.heap.get? dx = some od)
    (e : Obj.putName name (PyData.keyHash w.params name) (.str name s.toks) v od = od') (e' : od'.data = .dict es.toArray n) (hf : od'.isFreed = false) (hz : es.length ≤ 1000)
    (h : (∀ b, b ≠ dx → (s.heap.update dx (Obj.putName name (PyData.keyHash w.params name) (.str name s.toks) v)).get? b = s.heap.get? b) → (s.heap.update dx (Obj.putName name (PyData.keyHash w.params name) (.str name s.toks) v)).get? dx = some od' →
      R (.ok (.ret .none)) { s with heap := s.heap.update dx (Obj.putName name (PyData.keyHash w.params name) (.str name s.toks) v), toks := s.toks + 1 }) :
    codeAny (model prog w) A (.call (.builtin "object.__setattr__") ⟨[.ref x, .str name tk, v], []⟩) R s := by
  refine osa_open X I hp ht fun b => ?_
  obtain ⟨cd, hc, hd'⟩ := any_some hh
  have D' : (s.heap.update dx (Obj.putName name (PyData.keyHash w.params name) (.str name s.toks) v)).get? dx = some od' := by
    rw [Heap.get?_update_self _ D (by rw [e]; exact hf), e]
  obtain ⟨hx, hcl, hn, -⟩ := I
  obtain ⟨oc, odi, oda, osl⟩ := ox
  dsimp only at hcl hd
  subst hcl hd
  refine wpAny_bind (wpAny_pure (wpAny_bind (wpAny_bind (wpAny_loadPart hx (wpAny_bind ((looks_clsIn X hc).here ?_))))))
  rw [hd']
  refine wpAny_pure (a := some dx) (wpAny_bind (wpAny_pure (wpAny_bind ?_)))
  unfold nsSet
  refine wpAny_bind (wpAny_bind (wpAny_askSetting (wpAny_pure (wpAny_bind (wpAny_mkText (wpAny_bind (wpAny_loadPart D ?_)))))))
  unfold lookIn at hl
  split at hl
  · rename_i es₀ n₀ q
    rw [q]
    dsimp only
    have c : (!es₀.any (·.key.isStr name) && es₀.any (·.refKey)) = false := by
      rw [← Array.any_toList, ← Array.any_toList]
      split at hl
      · rename_i en he
        rw [List.any_eq_true.mpr ⟨en, List.mem_of_find?_eq_some he, List.find?_some he⟩]; rfl
      · split at hl
        · cases hl
        · rename_i z; rw [Bool.not_eq_true] at z; rw [z, Bool.and_false]
    rw [aRefKeyMayBeTheName_at, c]
    refine wpAny_updatePart D ?_
    refine wpAny_bind (wpAny_lookBehind D' (by rw [e']; exact pastItsLine_dict (by rw [List.size_toArray, sizeLine_eq]; omega)) ?_)
    exact wpAny_pure (h (fun b nb => (Heap.SameBut.update (a := dx) ..).2 b nb) D')
  · cases hl
theorem Ex.setattr (Cc : c.Ok) (O : AttrOk c C name) {kv : List (PySem.Str × PV)} {ap : Pos} (h : Ev c F n ρ mu e₁ v mu₁) (ho : Ev c F n ρ mu₁ e (.inst C k) mu₂) (hk : mu₂[k]? = some (.dict kv)) (hz : (kvPut name v kv).length ≤ 1000 := by decide)
    (hs : ∀ env, swapsWith e₁ (some (.Attribute e name ap)) pos.line env = pure false := by intro _; rfl) : Ex c F n ρ mu (.Assign [.Attribute e name ap] e₁ pos) (.next ρ (mu₂.set k (.dict (kvPut name v kv)))) := by
  refine ⟨fun env g al s A R X => plainObj_wpAny_Assign_Attribute (thn (h.run env g al s A R X) fun y s₁ g₁ al₁ S₁ st₁ r₁ => ?_) (hs env)⟩
  have X₁ := X.step S₁ st₁
  refine thn (ho.run env g₁ al₁ s₁ A R X₁) fun z s₂ g₂ al₂ S₂ st₂ r₂ => ?_
  obtain ⟨a, d, es, m, rfl, hd, hdo, rk, I, hg⟩ := st₂.inst r₂ hk
  refine set_plain (st₂.KX Cc) I O.sa ?_
  refine osa_mine (s := { s₂ with toks := s₂.toks + 1 }) (st₂.KX Cc) I rfl O.over O.taker O.dict ?_ hdo (putName_dict _ _ _ _ _ _) rfl rfl ?_ fun k1 k2 => ?_
  · show (getL name es).isSome = true
    unfold getL
    split
    · rfl
    · rw [rk.noRef]; rfl
  · rw [(rk.put (Rep.ext S₂.ext _ _ r₁)).length]; exact hz
  · have keep : ∀ b o, b ≠ d → s₂.heap.get? b = some o → (s₂.heap.update d (Obj.putName name (PyData.keyHash c.w.params name) (.str name (s₂.toks + 1)) y)).get? b = some o := fun b o nb e => (k1 b nb).trans e
    have hc : CellAt g₂ al₂ c.w.params (s₂.heap.update d (Obj.putName name (PyData.keyHash c.w.params name) (.str name (s₂.toks + 1)) y)) d (.dict (kvPut name v kv)) := ⟨_, _, k2, rk.put (Rep.ext S₂.ext _ _ r₁)⟩
    have S₃ : Step NX g₂ al₂ s₂.heap g₂ al₂ _ := Step.turn (List.mem_of_getElem? hd) keep k2
    refine ⟨g₂, al₂, ((S₁.trans S₂).trans S₃).toS, rfl, (X₁.step S₂ st₂).step S₃ ⟨st₂.hs.turn hd keep hc, st₂.gens, st₂.os⟩⟩
/-! a class that is called -/
theorem Fn.make {fI : Addr} {ps : List PV} (Cc : c.Ok) (hm : makesIn c.K C = true) (hi : findIn c.K (.ref C) "__init__" = some (some (.ref fI))) (hf : typeIn c.K (.ref fI) = some (.type "function"))
    (h : Fn c n (.ref fI) (.inst C mu.length :: ps) (mu ++ [.dict []]) .none mu₁) : Fn c (n + 1) (.ref C) ps mu (.inst C mu.length) mu₁ := by
  refine ⟨fun g al s A vs R st r => ?_⟩
  obtain ⟨hp, gens, dr, t, os⟩ := s
  have X := st.KX Cc
  refine make_core (makes_of X hm) (looks_findIn X hi) (fun self => bind_fn X self hf) (.inl rfl) ?_
  have kp : ∀ b o, hp.get? b = some o → ((hp.push emptyDict).push (instObj C hp.objs.size)).get? b = some o := fun b o e => Heap.get?_push_of_some _ (Heap.get?_push_of_some _ e)
  have hx : ((hp.push emptyDict).push (instObj C hp.objs.size)).get? (hp.objs.size + 1) = some (instObj C hp.objs.size) := by heap_get
  have hd : ((hp.push emptyDict).push (instObj C hp.objs.size)).get? hp.objs.size = some emptyDict := Heap.get?_push_of_some _ (Heap.get?_push_size _ rfl)
  have f1 := st.hs.free (a := hp.objs.size) (Nat.le_refl _)
  have f2 := st.hs.free (a := hp.objs.size + 1) (Nat.le_succ _)
  have H1 := (st.hs.grow kp).newCell (cl := .dict []) f1.1 f1.2 ⟨[], 0, hd, rfl⟩
  have ne : hp.objs.size + 1 ∉ al ++ [hp.objs.size] := fun m => by
    rcases List.mem_append.mp m with m | m
    · exact f2.2 m
    · simp at m
  have H2 := H1.learn hx f2.1 ne
  have S1 : Step NX g al hp g (al ++ [hp.objs.size]) ((hp.push emptyDict).push (instObj C hp.objs.size)) := Step.cell kp (size_none _)
  have hkk : (al ++ [hp.objs.size])[mu.length]? = some hp.objs.size := by rw [← st.hs.len]; simp
  have S2 : Step NX g al hp (g.upd (hp.objs.size + 1) (instObj C hp.objs.size)) (al ++ [hp.objs.size]) ((hp.push emptyDict).push (instObj C hp.objs.size)) :=
    ⟨⟨fun b o e => GH.upd_le g _ f2.1 b o e, List.prefix_append _ _⟩, S1.keep, S1.alive, fun b o m e q => by
      rw [GH.upd_ne g _ (by rintro rfl; rw [size_none' (Nat.le_succ _)] at e; cases e)]; exact q, S1.outA⟩
  have rI : Rep (g.upd (hp.objs.size + 1) (instObj C hp.objs.size)) (al ++ [hp.objs.size]) (.inst C mu.length) (.ref (hp.objs.size + 1)) := ⟨_, _, rfl, hkk, GH.upd_self ..⟩
  have hw : (Code.builtin "type.__call__" ⟨.ref C :: vs, []⟩).weight = 1 := by kernel_rfl
  have hu : (Code.builtin "type.__call__" ⟨.ref C :: vs, []⟩).cUnits = 1 := by kernel_rfl
  have R' : Room n (A.under (.builtin "type.__call__" ⟨.ref C :: vs, []⟩)) := ⟨R.handled, by have := R.depth; show A.depth + (Code.builtin "type.__call__" ⟨.ref C :: vs, []⟩).weight + 2 * n ≤ 600; rw [hw]; omega, by have := R.units; show A.units + (Code.builtin "type.__call__" ⟨.ref C :: vs, []⟩).cUnits + 20 * n + 400 ≤ cLine; rw [hu]; omega⟩
  have z := h.run _ _ ⟨_, gens, dr, t, os⟩ _ (.ref (hp.objs.size + 1) :: vs) R' ⟨H2, st.gens, st.os⟩ (RepL.cons rI (RepL.ext S2.ext _ _ r))
  refine codeAny_mono z fun r' s' hr => ?_
  obtain ⟨y, rfl, g', al', S', st', ry⟩ := hr
  exact ⟨ry, _, rfl, g', al', S2.trans S', st', Rep.ext S'.ext _ _ rI⟩
end
end
-- text M17
section
noncomputable def storedP (kv : List (PySem.Str × PV)) (k : PySem.Str) (v : PV) : List (PySem.Str × PV) :=
  if kv.any (fun x => x.1 = k) then kv.map (fun x => if x.1 = k then (x.1, v) else x) else kv ++ [(k, v)]
noncomputable def mergedP (kv more : List (PySem.Str × PV)) : List (PySem.Str × PV) := more.foldl (fun acc x => storedP acc x.1 x.2) kv
noncomputable def atP (kv : List (PySem.Str × PV)) (k : PySem.Str) : Option PV := (kv.find? fun x => x.1 = k).map (·.2)
theorem KW.any {g : GH} {al : List Addr} {k : PySem.Str} : ∀ {kv : List (PySem.Str × PV)} {es : List (PySem.Str × Value)}, KW g al kv es → es.any (fun x => x.1 = k) = kv.any (fun x => x.1 = k)
  | [], _, h => by cases h; rfl
  | (_, _) :: _, _, ⟨x, es', e, _, r⟩ => by subst e; rw [List.any_cons, List.any_cons, KW.any r]
theorem KW.map {g : GH} {al : List Addr} {k : PySem.Str} {v : PV} {y : Value} (ry : Rep g al v y) : ∀ {kv : List (PySem.Str × PV)} {es : List (PySem.Str × Value)}, KW g al kv es → KW g al (kv.map fun x => if x.1 = k then (x.1, v) else x) (es.map fun x => if x.1 = k then (x.1, y) else x)
  | [], _, h => by cases h; rfl
  | (k', u) :: _, _, ⟨x, es', e, rx, r⟩ => by
    subst e
    rw [List.map_cons, List.map_cons]
    by_cases q : k' = k
    · rw [if_pos q, if_pos q]; exact ⟨y, _, rfl, ry, KW.map ry r⟩
    · rw [if_neg q, if_neg q]; exact ⟨x, _, rfl, rx, KW.map ry r⟩
theorem KW.app {g : GH} {al : List Addr} {k : PySem.Str} {v : PV} {y : Value} (ry : Rep g al v y) : ∀ {kv : List (PySem.Str × PV)} {es : List (PySem.Str × Value)}, KW g al kv es → KW g al (kv ++ [(k, v)]) (es ++ [(k, y)])
  | [], _, h => by cases h; exact ⟨y, [], rfl, ry, rfl⟩
  | (k', u) :: _, _, ⟨x, es', e, rx, r⟩ => by subst e; exact ⟨x, _, rfl, rx, KW.app ry r⟩
theorem KW.stored {g : GH} {al : List Addr} {k : PySem.Str} {v : PV} {y : Value} (ry : Rep g al v y) {kv : List (PySem.Str × PV)} {es : List (PySem.Str × Value)} (h : KW g al kv es) : KW g al (storedP kv k v) (PySem.stored es k y) := by
  unfold storedP PySem.stored
  rw [h.any]
  split
  · exact h.map ry
  · exact h.app ry
theorem KW.merged {g : GH} {al : List Addr} : ∀ {more : List (PySem.Str × PV)} {ms : List (PySem.Str × Value)}, KW g al more ms → ∀ {kv : List (PySem.Str × PV)} {es : List (PySem.Str × Value)}, KW g al kv es → KW g al (mergedP kv more) (PySem.merged es ms)
  | [], _, h, _, _, h' => by cases h; exact h'
  | (k, u) :: _, _, ⟨x, es', e, rx, r⟩, _, _, h' => by subst e; exact KW.merged r (h'.stored rx)
theorem KW.at {g : GH} {al : List Addr} {k : PySem.Str} {v : PV} : ∀ {kv : List (PySem.Str × PV)} {es : List (PySem.Str × Value)}, KW g al kv es → atP kv k = some v → ∃ y, valueAt es k = some y ∧ Rep g al v y
  | [], _, _, h => by simp [atP] at h
  | (k', u) :: r, _, ⟨x, es', e, rx, h'⟩, h => by
    subst e
    unfold atP at h
    unfold valueAt
    rw [List.find?_cons] at h ⊢
    by_cases q : k' = k
    · simp only [q, decide_true] at h ⊢
      simp at h; subst h; exact ⟨x, rfl, rx⟩
    · simp only [q, decide_false] at h ⊢
      exact KW.at h' h
theorem KW.at_none {g : GH} {al : List Addr} {k : PySem.Str} : ∀ {kv : List (PySem.Str × PV)} {es : List (PySem.Str × Value)}, KW g al kv es → atP kv k = Option.none → valueAt es k = Option.none
  | [], _, h, _ => by cases h; rfl
  | (k', u) :: r, _, ⟨x, es', e, rx, h'⟩, h => by
    subst e
    unfold atP at h
    unfold valueAt
    rw [List.find?_cons] at h ⊢
    by_cases q : k' = k
    · simp only [q, decide_true] at h
      simp at h
    · simp only [q, decide_false] at h ⊢
      exact KW.at_none h' h
theorem KW.length {g : GH} {al : List Addr} : ∀ {kv : List (PySem.Str × PV)} {es : List (PySem.Str × Value)}, KW g al kv es → es.length = kv.length
  | [], _, h => by cases h; rfl
  | (_, _) :: _, _, ⟨x, es', e, _, r⟩ => by subst e; simp [KW.length r]
noncomputable abbrev dmap (c : Cx) (kv : List (PySem.Str × PV)) : Cell := .map (fun o es => o.IsDictOf (strKind c.prog c.w) es) kv
section
variable {c : Cx} {F F' : FS} {n : Nat} {ρ ρ₁ ρ₂ ρ₃ : Loc} {mu mu₁ mu₂ mu₃ mu₄ : Mem} {pos : Pos} {e e₁ e₂ e₃ : Expr} {p q r v : PV} {a b i j : Int} {x y : List Nat} {out : Out} {k : Nat} {C : Addr} {name : PySem.Str}
theorem St.map {g : GH} {al : List Addr} {s : Shared} {kv : List (PySem.Str × PV)} (st : St c g al mu s) {z : Value} (r : Rep g al (.cell k) z) (h : mu[k]? = some (dmap c kv)) :
    ∃ d es, z = .ref d ∧ al[k]? = some d ∧ (d == sysModules) = false ∧ s.heap.DictOf (strKind c.prog c.w) d es ∧ KW g al kv es := by
  obtain ⟨d, e, hk⟩ := r
  obtain ⟨m, o, es, ho, hd, r⟩ := st.hs.cells k d _ hk h
  exact ⟨d, es, e, hk, m, Heap.dictOf_iff.mpr ⟨o, ho, hd⟩, r⟩
theorem Op2.idxM {vl sl : Expr} {kv : List (PySem.Str × PV)} (hk : mu[k]? = some (dmap c kv)) (h : atP kv (S x) = some v) : Op2 c n mu (subscriptTail vl sl) (.cell k) (.str x) v mu := ⟨fun g al s A _ _ R st r1 ⟨t, e2⟩ => by
  obtain ⟨d, es, e1, hd, _, hD, rk⟩ := st.map r1 hk
  subst e1; subst e2
  obtain ⟨ops, hs⟩ := subs_any sl (.ref d) (.str (S x) t)
  obtain ⟨y, hy, ry⟩ := rk.at h
  exact tail_any hD.typeIs slot_dict_getitem.lookup (wpAny_getItem_of (strKind_is c.prog c.w (S x) t) hD.mapOf hy ⟨g, al, .refl .., st.toks, ry⟩) hs⟩
theorem Ex.setitem {kv : List (PySem.Str × PV)} {ap : Pos} (h : Ev c F n ρ mu e₁ v mu₁) (ho : Ev c F n ρ mu₁ e (.cell k) mu₂) (hi : Ev c F n ρ mu₂ e₂ (.str x) mu₃) (hk : mu₃[k]? = some (dmap c kv)) (hz : kv.length ≤ 1000 := by decide)
    (hs : ∀ env, swapsWith e₁ (some (.Subscript e e₂ ap)) pos.line env = pure false := by intro _; rfl) : Ex c F n ρ mu (.Assign [.Subscript e e₂ ap] e₁ pos) (.next ρ (mu₃.set k (dmap c (storedP kv (S x) v)))) := by
  refine ⟨fun env g al s A R X => wpAny_Assign_Subscript (thn (h.run env g al s A R X) fun y s₁ g₁ al₁ S₁ st₁ r₁ => ?_) (hs env)⟩
  have X₁ := X.step S₁ st₁
  refine thn (ho.run env g₁ al₁ s₁ A R X₁) fun z s₂ g₂ al₂ S₂ st₂ r₂ => ?_
  have X₂ := X₁.step S₂ st₂
  refine thn (hi.run env g₂ al₂ s₂ A R X₂) fun u s₃ g₃ al₃ S₃ st₃ r₃ => ?_
  obtain ⟨t, rfl⟩ := r₃
  obtain ⟨d, es, rfl, hd, hm, hD, rk⟩ := st₃.map (Rep.ext S₃.ext _ _ r₂) hk
  have ry := Rep.ext (S₂.ext.trans S₃.ext) _ _ r₁
  refine wpAny_setItem_pairs (strKind_is c.prog c.w (S x) t) hD (fun h' hD' hs' => ?_) (by rw [rk.length, sizeLine_eq]; omega)
  have keep : ∀ b o, b ≠ d → s₃.heap.get? b = some o → h'.get? b = some o := fun b o nb e => (hs'.2 b nb).trans e
  obtain ⟨o', ho', hd'⟩ := Heap.dictOf_iff.mp hD'
  have hc : CellAt g₃ al₃ c.w.params h' d (dmap c (storedP kv (S x) v)) := ⟨hm, o', _, ho', hd', rk.stored ry⟩
  have S₄ : Step NX g₃ al₃ s₃.heap g₃ al₃ h' := Step.turn (List.mem_of_getElem? hd) keep ho'
  exact ⟨g₃, al₃, (((S₁.trans S₂).trans S₃).trans S₄).toS, rfl, (X₂.step S₃ st₃).step S₄ ⟨st₃.hs.turn hd keep hc, st₃.gens, st₃.os⟩⟩
theorem Meth.map {kv : List (PySem.Str × PV)} {name : PySem.Str} {id : String} (hk : mu[k]? = some (dmap c kv)) (slot : Slot "dict" name id) (hty : typeOf (.builtin id) = pure (.type "method_descriptor")) : Meth c n mu (.cell k) name (.builtin id) :=
  ⟨fun g al s A z pl Q R st r1 h => by
    obtain ⟨d, es, e1, hd, _, hD, rk⟩ := st.map r1 hk
    subst e1
    obtain ⟨o, ho, _, _, hx, _⟩ := Heap.dictOf_iff.mp hD
    have hnd : ∀ a, Value.ref d = .ref a → ∃ o, s.heap.get? a = some o ∧ o.dict = Option.none := fun a e => by cases e; exact ⟨o, ho, hx.2.1⟩
    have hT := hD.typeIs
    with_reducible exact getMethod_builtin hT F.plainAttrs_dict slot hty hnd h⟩
theorem get2 {kv : List (PySem.Str × PV)} (hk : mu[k]? = some (dmap c kv)) (h : (atP kv (S x)).getD q = v) : OpN c n mu (fun vs => call (.builtin "dict.get") vs) [.cell k, .str x, q] v mu := OpN.three fun g al s A z w u R st r1 ⟨t, e⟩ r3 => by
  obtain ⟨d, es, e1, hd, lo, hD, rk⟩ := st.map r1 hk
  subst e1; subst e
  refine call_meetsIn F.slot_dict_get hD.typeIs F.entry_dict_get (F.args_dict_get_3 _ _ _) (meets_dict_get_default (strKind c.prog c.w) d (strKind_is c.prog c.w (S x) t) lo u) ⟨_, hD.mapOf, ?_⟩
  refine ⟨g, al, .refl .., st.toks, ?_⟩
  cases hv : atP kv (S x) with
  | none => rw [rk.at_none hv]; rw [hv] at h; cases h; exact r3
  | some w => obtain ⟨y, hy, ry⟩ := rk.at hv; rw [hy]; rw [hv] at h; cases h; exact ry
/-! displays of dicts -/
structure EvP (c : Cx) (F : FS) (n : Nat) (ρ : Loc) (mu : Mem) (ps : Env → List (Sem Value × Sem Value)) (kv : List (PySem.Str × PV)) (mu' : Mem) : Prop where
  run : ∀ env g al s A, Room n A → FSt c F env g al ρ mu s → wpAny (Md c) A (evalPairs (ps env)) (fun vs s' => ∃ g' al' es, Step NX g al s.heap g' al' s'.heap ∧ St c g' al' mu' s' ∧ Carries (strKind c.prog c.w) vs es ∧ KW g' al' kv es) NoE s
theorem EvP.nil : EvP c F n ρ mu (fun _ => []) [] mu := ⟨fun env g al s A R X => evalPairs_nil ⟨g, al, [], .refl .., X.st, trivial, rfl⟩⟩
theorem EvP.cons {ps : Env → List (Sem Value × Sem Value)} {kv : List (PySem.Str × PV)} {kx : PySem.Str} {j : Nat} {kp : Pos} (h : Ev c F n ρ mu e v mu₁) (t : EvP c F n ρ mu₁ ps kv mu₂) :
    EvP c F n ρ mu (fun env => (eval (.Constant (.str kx) j kp) env, do let z ← eval e env; standAt pos; pure z) :: ps env) ((kx, v) :: kv) mu₂ := by
  refine ⟨fun env g al s A R X => evalPairs_cons ?_⟩
  refine thn ((Ev.str (i := kx) (k := j) (pos := kp)).run env g al s A R X) fun z s₁ g₁ al₁ S₁ st₁ ⟨tk, e1⟩ => ?_
  have X₁ := X.step S₁ st₁
  refine wpAny_bind (thn (h.run env g₁ al₁ s₁ A R X₁) fun u s₂ g₂ al₂ S₂ st₂ r₂ => wpAny_bind (wpAny_standAt (wpAny_pure ?_)))
  refine wpAny_mono (t.run env g₂ al₂ s₂ A R (X₁.step S₂ st₂)) (fun vs s₃ h₃ => ?_) fun _ _ x => x
  obtain ⟨g₃, al₃, es, S₃, st₃, ca, kw⟩ := h₃
  refine ⟨g₃, al₃, (kx, u) :: es, (S₁.trans S₂).trans S₃, st₃, ⟨?_, rfl, ca⟩, u, es, rfl, Rep.ext S₃.ext _ _ r₂, kw⟩
  subst e1
  exact strKind_is c.prog c.w kx tk
theorem Ev.dict (Cc : c.Ok) {keys : List (Option Expr)} {values : List Expr} {ps : Env → List (Sem Value × Sem Value)} {kv : List (PySem.Str × PV)} (h : EvP c F n ρ (mu ++ [dmap c []]) ps kv mu₁) (hk : mu₁[mu.length]? = some (dmap c []))
    (hshape : ∀ env, (evalEachOpt keys env).zip ((evalEach values env).map fun v => do let x ← v; standAt pos; pure x) = (ps env).map fun p => (some p.1, p.2)) (h0 : ∀ env, ps env ≠ []) (hlen : ∀ env, (ps env).length ≤ 15) :
    Ev c F n ρ mu (.Dict keys values pos) (.cell mu.length) (mu₁.set mu.length (dmap c (mergedP [] kv))) := by
  refine ⟨fun env g al s A R X => wpAny_Dict_pairs (knd := strKind c.prog c.w) (hshape env) (h0 env) (hlen env) ?_⟩
  have kp : ∀ b o, s.heap.get? b = some o → (s.heap.push { cls := .type "dict", data := .dict #[] }).get? b = some o := fun b o e => Heap.get?_push_of_some _ e
  have fr := X.st.hs.free (Nat.le_refl s.heap.objs.size)
  have lo : (s.heap.objs.size == sysModules) = false := beq_eq_false_iff_ne.mpr (Nat.ne_of_gt (modules_low (Cc.nolimit.keeps X.st.hk)))
  obtain ⟨o, ho, hd⟩ := Heap.dictOf_iff.mp (Heap.DictOf.new (knd := strKind c.prog c.w) s.heap)
  have H1 := (X.st.hs.grow kp).newCell (cl := dmap c []) fr.1 fr.2 ⟨lo, o, [], ho, hd, rfl⟩
  have S₁ : Step NX g al s.heap g (al ++ [s.heap.objs.size]) (s.heap.push { cls := .type "dict", data := .dict #[] }) := Step.cell kp (size_none _)
  have st₁ : St c g (al ++ [s.heap.objs.size]) (mu ++ [dmap c []]) { s with heap := s.heap.push { cls := .type "dict", data := .dict #[] } } := ⟨H1, X.st.gens, X.st.os⟩
  refine wpAny_mono (h.run env g _ _ A R (X.step (s' := { s with heap := s.heap.push { cls := .type "dict", data := .dict #[] } }) S₁ st₁)) (fun vs s₂ h₂ => ?_) fun _ _ x => x
  obtain ⟨g₂, al₂, es, S₂, st₂, ca, kw⟩ := h₂
  have hal : (al ++ [s.heap.objs.size])[mu.length]? = some s.heap.objs.size := by rw [← X.st.hs.len]; simp
  have hal2 := S₂.ext.at hal
  obtain ⟨_, o₂, es₂, ho₂, hd₂, kw₂⟩ := st₂.hs.cells _ _ _ hal2 hk
  cases kw₂
  refine ⟨es, ca, Heap.dictOf_iff.mpr ⟨o₂, ho₂, hd₂⟩, fun h' hD' hs' => ?_⟩
  obtain ⟨o', ho', hd'⟩ := Heap.dictOf_iff.mp hD'
  have keep : ∀ b o, b ≠ s.heap.objs.size → s₂.heap.get? b = some o → h'.get? b = some o := fun b o nb e => (hs'.2 b nb).trans e
  exact Post.after (S₁.trans S₂) (Post.turn st₂ hal2 keep ⟨lo, o', _, ho', hd', kw.merged (kv := []) rfl⟩ rfl rfl ⟨_, rfl, hal2⟩)
end
end
-- text M18
section
section
variable {c : Cx} {F F' : FS} {n : Nat} {ρ ρ₁ ρ₂ ρ₃ : Loc} {mu mu₁ mu₂ mu₃ mu₄ : Mem} {pos : Pos} {e e₁ e₂ e₃ : Expr} {p q r v : PV} {a b i j : Int} {x y : List Nat} {out : Out} {k : Nat} {C : Addr} {name : PySem.Str}
theorem Ev.clo {x : PySem.Str} (h : (x, v) ∈ F.kp) : Ev c F n ρ mu (.Name x pos) v mu := by
  refine ⟨fun env g al s A _ X => ?_⟩
  obtain ⟨hk, hd, hc, a, y, o, e1, e2, e3, r⟩ := X.ok.clo x v h
  have hI : s.heap.IsCell a (some y) := ⟨o, X.st.hs.keep _ _ e2, e3⟩
  rcases hk with hk | hk
  · exact wpAny_Name (wpAny_loadName_cell X.ok.kind hk e1 hI ⟨g, al, .refl .., X.st, r⟩) hd
  · exact wpAny_Name (wpAny_loadName_free X.ok.kind hk e1 hI ⟨g, al, .refl .., X.st, r⟩ hc) hd
/-! the names of a comprehension -/
theorem relabel_glb {env : Env} {x : PySem.Str} {kd : NameKind} (hk : kd ≠ .free) : ∀ {names : List (PySem.Str × NameKind)}, names.lookup x = some kd →
    (names.map fun (n, k) => if (k == NameKind.free && env.scope.kind == .function && env.kindOf n == some .cell) then (n, NameKind.cell) else (n, k)).lookup x = some kd
  | [], h => by simp at h
  | (m, k) :: r, h => by
    have ih := relabel_glb (env := env) (x := x) hk (names := r)
    show List.lookup x ((if (k == NameKind.free && env.scope.kind == .function && env.kindOf m == some .cell) = true then (m, NameKind.cell) else (m, k)) :: _) = _
    cases hx : x == m with
    | true =>
      simp only [List.lookup_cons, hx] at h
      cases h
      have : (kd == NameKind.free) = false := by cases kd <;> first | rfl | exact absurd rfl hk
      simp [List.lookup_cons, hx, this]
    | false =>
      simp only [List.lookup_cons, hx] at h
      by_cases hc : (k == NameKind.free && env.scope.kind == .function && env.kindOf m == some .cell) = true
      · rw [if_pos hc]; simp only [List.lookup_cons, hx]; exact ih h
      · rw [if_neg hc]; simp only [List.lookup_cons, hx]; exact ih h
theorem relabel_free {env : Env} {x : PySem.Str} : ∀ {names : List (PySem.Str × NameKind)}, names.lookup x = some .free →
    (names.map fun (n, k) => if (k == NameKind.free && env.scope.kind == .function && env.kindOf n == some .cell) then (n, NameKind.cell) else (n, k)).lookup x = some .cell ∨
    (names.map fun (n, k) => if (k == NameKind.free && env.scope.kind == .function && env.kindOf n == some .cell) then (n, NameKind.cell) else (n, k)).lookup x = some .free
  | [], h => by simp at h
  | (m, k) :: r, h => by
    have ih := relabel_free (env := env) (x := x) (names := r)
    show List.lookup x ((if (k == NameKind.free && env.scope.kind == .function && env.kindOf m == some .cell) = true then (m, NameKind.cell) else (m, k)) :: _) = _ ∨ List.lookup x ((if (k == NameKind.free && env.scope.kind == .function && env.kindOf m == some .cell) = true then (m, NameKind.cell) else (m, k)) :: _) = _
    cases hx : x == m with
    | true =>
      simp only [List.lookup_cons, hx] at h
      cases h
      split <;> simp [List.lookup_cons, hx]
    | false =>
      simp only [List.lookup_cons, hx] at h
      by_cases hc : (k == NameKind.free && env.scope.kind == .function && env.kindOf m == some .cell) = true
      · rw [if_pos hc]; simp only [List.lookup_cons, hx]; exact ih h
      · rw [if_neg hc]; simp only [List.lookup_cons, hx]; exact ih h
noncomputable def scB (K : Frag) (scope : Scope) (x : PySem.Str) (gl : List (PySem.Str × Value)) : Bool :=
  scope.kind == .function && (scope.names.all fun y => !(y.2 == .cell)) && (scope.names.all fun y => !(y.2 == .local) || scope.names.lookup y.1 == some .local) && (scope.names.lookup x == some .local) && !(x == ("__debug__" : Str)) && gl.all (glbB K scope.names)
theorem glb_ok {K : Frag} {scope : Scope} {env : Env} {x : PySem.Str} {v : Value} {cl : List (PySem.Str × Addr)} {Ca : Addr} (C : c.Ok) (hK : c.K = K) (h : glbB K scope.names (x, v) = true) :
    Env.kindOf (compEnvC scope cl Ca env) x = some .globalImplicit ∧ (x == ("__debug__" : Str)) = false ∧ (c.mg x = some v ∨ (c.mg x = Option.none ∧ c.mb x = some v)) := by
  subst hK
  unfold glbB at h
  simp only [Bool.and_eq_true, Bool.or_eq_true] at h
  obtain ⟨⟨a1, a2⟩, a3⟩ := h
  refine ⟨relabel_glb (by decide) (by simpa using a1), by simpa using a2, ?_⟩
  rcases a3 with a3 | ⟨⟨b1, b2⟩, b3⟩
  · exact .inl (mg_of C.KX C.mgNs (by simpa using a3))
  · exact .inr ⟨mg_none_of C.KX C.mgNs (by simpa using b1), (C.builtins x (by simpa using b3)).trans (by simpa using b2)⟩
theorem Sc.of {scope : Scope} {x : PySem.Str} {gl : List (PySem.Str × Value)} (C : c.Ok) (h : scB c.K scope x gl = true) (hf : (scope.names.all fun y => !(y.2 == .free)) = true) : Sc c F ⟨[x], gl, []⟩ scope x := by
  unfold scB at h
  simp only [Bool.and_eq_true] at h
  obtain ⟨⟨⟨⟨⟨h1, h2⟩, h3⟩, h4⟩, h5⟩, h6⟩ := h
  refine ⟨by simpa using h1, fun y hy => ?_, fun y hy hl => ?_, rfl, fun env g al Ca X => ⟨[], closureFor_none fun y hy => ?_, ⟨?_, X.globals, X.builtins, fun y hy => ?_, by simp, fun y v m => ?_, fun y v m => by cases m⟩⟩⟩
  · have := List.all_eq_true.mp h2 y hy; simpa using this
  · have := List.all_eq_true.mp h3 y hy; simpa [hl] using this
  · have := List.all_eq_true.mp hf y hy; simpa using this
  · show scope.kind = .function
    simpa using h1
  · rw [List.mem_singleton.mp hy]
    exact ⟨lookup_relabel_local (by simpa using h4), by simpa using h5⟩
  · exact glb_ok C rfl (List.all_eq_true.mp h6 (y, v) m)
theorem Sc.of2 {scope : Scope} {x x1 x2 : PySem.Str} {v1 v2 : PV} {gl : List (PySem.Str × Value)} (C : c.Ok) (h : scB c.K scope x gl = true) (hf : ∀ env : Env, closureFor scope env = (do let a ← cellOf env x1; let b ← cellOf env x2; pure [(x2, b), (x1, a)]))
    (h1 : scope.names.lookup x1 = some .free) (h2 : scope.names.lookup x2 = some .free) (h12 : (x1 == x2) = false) (m1 : (x1, v1) ∈ F.kp) (m2 : (x2, v2) ∈ F.kp) : Sc c F ⟨[x], gl, [(x1, v1), (x2, v2)]⟩ scope x := by
  unfold scB at h
  simp only [Bool.and_eq_true] at h
  obtain ⟨⟨⟨⟨⟨k1, k2⟩, k3⟩, k4⟩, k5⟩, k6⟩ := h
  refine ⟨by simpa using k1, fun y hy => ?_, fun y hy hl => ?_, rfl, fun env g al Ca X => ?_⟩
  · have := List.all_eq_true.mp k2 y hy; simpa using this
  · have := List.all_eq_true.mp k3 y hy; simpa [hl] using this
  · obtain ⟨q1, d1, c1, a1, y1, o1, l1, e1, f1, r1⟩ := X.clo x1 v1 m1
    obtain ⟨q2, d2, c2, a2, y2, o2, l2, e2, f2, r2⟩ := X.clo x2 v2 m2
    refine ⟨[(x2, a2), (x1, a1)], ?_, ⟨?_, X.globals, X.builtins, fun y hy => ?_, by simp, fun y v m => ?_, fun y v m => ?_⟩⟩
    · rw [hf env]
      unfold cellOf
      rw [l1, l2]; rfl
    · show scope.kind = .function
      simpa using k1
    · rw [List.mem_singleton.mp hy]
      exact ⟨lookup_relabel_local (by simpa using k4), by simpa using k5⟩
    · exact glb_ok C rfl (List.all_eq_true.mp k6 (y, v) m)
    · rcases List.mem_cons.mp m with m | m
      · cases m
        refine ⟨relabel_free h1, d1, c1, a1, y1, o1, ?_, e1, f1, r1⟩
        show List.lookup x1 [(x2, a2), (x1, a1)] = some a1
        rw [List.lookup_cons, h12]; simp
      · cases List.mem_singleton.mp m
        refine ⟨relabel_free h2, d2, c2, a2, y2, o2, ?_, e2, f2, r2⟩
        show List.lookup x2 [(x2, a2), (x1, a1)] = some a2
        simp
end
structure FnAtC (c : Cx) (fa : Addr) (fd : FuncData) (x1 x2 : PySem.Str) (rest : List PySem.Str) (gl : List (PySem.Str × Value)) (body : List Stmt) : Prop where
  ex : ∃ oc od osl, c.K.lookup fa = some ⟨oc, od, .func fd, osl⟩
  code : codeIn c.K fd.code fd.qualname = true
  body : fd.body = .stmts body
  bind : ∀ v1 v2 : Value, bindArgs fd ⟨[v1, v2], []⟩ = pure [(x1, v1), (x2, v2)]
  cells : ∀ n, cellsFrom n fd.scope.names [] = [(x2, n + 1), (x1, n)]
  clo : fd.closure = []
  k1 : fd.scope.names.lookup x1 = some .cell
  k2 : fd.scope.names.lookup x2 = some .cell
  d1 : (x1 == ("__debug__" : Str)) = false ∧ (x1 == ("__classdict__" : Str)) = false
  d2 : (x2 == ("__debug__" : Str)) = false ∧ (x2 == ("__classdict__" : Str)) = false
  ne : (x1 == x2) = false
  kind : fd.scope.kind = .function
  co : fd.scope.isCoroutine = false
  gen : fd.scope.isGenerator = false
  globals : fd.globals = mainGlobals
  builtins : fd.builtins = builtinsNs
  loc : ∀ x ∈ rest, fd.scope.names.lookup x = some .local ∧ (x == ("__debug__" : Str)) = false
  nodup : rest.Nodup
  glb : ∀ x v, (x, v) ∈ gl → fd.scope.names.lookup x = some .globalImplicit ∧ (x == ("__debug__" : Str)) = false ∧
    (nsIn c.K mainGlobals x = some (some v) ∨ (nsIn c.K mainGlobals x = some Option.none ∧ bootBuiltins x = some v ∧ x ≠ "__name__"))
theorem Fn.ofC {c : Cx} {n : Nat} {fa : Addr} {fd : FuncData} {x1 x2 : PySem.Str} {rest : List PySem.Str} {gl : List (PySem.Str × Value)} {body : List Stmt} {p1 p2 : PV} {mu mu' muB : Mem} {v : PV} (C : c.Ok) (I : FnAtC c fa fd x1 x2 rest gl body)
    (hb : Exs c ⟨rest, gl, [(x1, p1), (x2, p2)]⟩ n (rest.map (·, Option.none)) mu body (.ret v muB)) (hmu : mu' = muB.take mu'.length) (hle : mu.length ≤ mu'.length) (hn : memNarrow mu'.length v muB = true) :
    Fn c (n + 1) (.ref fa) [p1, p2] mu v mu' := by
  refine ⟨fun g al s A vs R st r => ?_⟩
  obtain ⟨oc, od, osl, hlook⟩ := I.ex
  have X := st.KX C
  obtain ⟨v1, _, rfl, r1, v2, _, rfl, r2, rfl⟩ := r
  have hk1 : (callEnvC fd s.heap.objs.size fa).kindOf x1 = some .cell := I.k1
  have hk2 : (callEnvC fd s.heap.objs.size fa).kindOf x2 = some .cell := I.k2
  have hcs : (callEnvC fd s.heap.objs.size fa).cells = [(x2, s.heap.objs.size + 1 + 1), (x1, s.heap.objs.size + 1)] := I.cells _
  have l1 : (callEnvC fd s.heap.objs.size fa).cells.lookup x1 = some (s.heap.objs.size + 1) := by rw [hcs, List.lookup_cons, I.ne]; simp
  have l2 : (callEnvC fd s.heap.objs.size fa).cells.lookup x2 = some (s.heap.objs.size + 1 + 1) := by rw [hcs, List.lookup_cons]; simp
  refine codeAny_call_cells (fd := fd) (body := body) (binds := [(x1, v1), (x2, v2)]) R.lim (X _ _ hlook) rfl (C.nolimit.keeps st.hk) (codeRec_of X I.code) I.body (I.bind v1 v2) I.clo (fun x hx => ?_) (fun s₁ Y => ?_) I.co I.gen I.kind
  · rcases List.mem_cons.mp hx with rfl | hx
    · exact .inr ⟨I.k1, by rw [I.cells, List.lookup_cons, I.ne]; simp⟩
    · rw [List.mem_singleton.mp hx]; exact .inr ⟨I.k2, by rw [I.cells, List.lookup_cons]; simp⟩
  · obtain ⟨h₁, tk, rfl⟩ := Y.toInCall.same
    have hkp := Y.toInCall.keep
    have cm1 : bindC (callEnvC fd s.heap.objs.size fa).kindOf [(x1, v1), (x2, v2)] (fun _ => Option.none) x1 = some v1 := by
      have ne' : ¬ x1 = x2 := by have := I.ne; simpa using this
      simp [bindC, hk1, hk2, ne']
    have cm2 : bindC (callEnvC fd s.heap.objs.size fa).kindOf [(x1, v1), (x2, v2)] (fun _ => Option.none) x2 = some v2 := by simp [bindC, hk1, hk2]
    obtain ⟨o1, ho1, hd1⟩ := Y.cell x1 _ l1
    obtain ⟨o2, ho2, hd2⟩ := Y.cell x2 _ l2
    rw [cm1] at hd1
    rw [cm2] at hd2
    have fL := st.hs.free (Nat.le_refl s.heap.objs.size)
    have f1 := st.hs.free (a := s.heap.objs.size + 1) (Nat.le_succ _)
    have f2 := st.hs.free (a := s.heap.objs.size + 1 + 1) (Nat.le_trans (Nat.le_succ _) (Nat.le_succ _))
    have H1 := (st.hs.grow hkp).learn ho1 f1.1 f1.2
    have g2 : (g.upd (s.heap.objs.size + 1) o1) (s.heap.objs.size + 1 + 1) = Option.none := by rw [GH.upd_ne]; exact f2.1; exact Nat.succ_ne_self _
    have H2 := H1.learn ho2 g2 f2.2
    have S1 : Step (· = s.heap.objs.size) g al s.heap (g.upd (s.heap.objs.size + 1) o1) al h₁ := Step.learn hkp f1.1 (size_none' (Nat.le_succ _))
    have S2 : Step (· = s.heap.objs.size) g al s.heap ((g.upd (s.heap.objs.size + 1) o1).upd (s.heap.objs.size + 1 + 1) o2) al h₁ :=
      ⟨S1.ext.trans (HS.ext_learn g2), S1.keep, S1.alive, fun b o m e q => by
        have n1 : b ≠ s.heap.objs.size + 1 := by rintro rfl; rw [size_none' (Nat.le_succ _)] at e; cases e
        have n2 : b ≠ s.heap.objs.size + 1 + 1 := by rintro rfl; rw [size_none' (Nat.le_trans (Nat.le_succ _) (Nat.le_succ _))] at e; cases e
        rw [GH.upd_ne _ _ n2, GH.upd_ne _ _ n1]; exact q, S1.outA⟩
    have g1' : ((g.upd (s.heap.objs.size + 1) o1).upd (s.heap.objs.size + 1 + 1) o2) (s.heap.objs.size + 1) = some o1 := by rw [GH.upd_ne]; exact GH.upd_self ..; exact Nat.ne_of_lt (Nat.lt_succ_self _)
    have EO : EnvOk c ⟨rest, gl, [(x1, p1), (x2, p2)]⟩ ((g.upd (s.heap.objs.size + 1) o1).upd (s.heap.objs.size + 1 + 1) o2) al (callEnvC fd s.heap.objs.size fa) := by
      refine ⟨I.kind, I.globals, I.builtins, I.loc, I.nodup, fun x w m => ?_, fun x w m => ?_⟩
      · obtain ⟨k1, k2, k3⟩ := I.glb x w m
        refine ⟨k1, k2, ?_⟩
        rcases k3 with k3 | ⟨k3, k4, k5⟩
        · exact .inl (mg_of C.KX C.mgNs k3)
        · exact .inr ⟨mg_none_of C.KX C.mgNs k3, (C.builtins x k5).trans k4⟩
      · rcases List.mem_cons.mp m with m | m
        · cases m
          exact ⟨.inl hk1, I.d1.1, I.d1.2, _, v1, o1, l1, g1', hd1, Rep.ext S2.ext _ _ r1⟩
        · cases List.mem_singleton.mp m
          exact ⟨.inl hk2, I.d2.1, I.d2.2, _, v2, o2, l2, GH.upd_self .., hd2, Rep.ext S2.ext _ _ r2⟩
    have LS : Ls ⟨rest, gl, [(x1, p1), (x2, p2)]⟩ ((g.upd (s.heap.objs.size + 1) o1).upd (s.heap.objs.size + 1 + 1) o2) al (callEnvC fd s.heap.objs.size fa).locals (rest.map (·, Option.none)) h₁ := by
      refine ⟨?_, ⟨_, Y.toInCall.ns, fun x w m => ?_⟩, ?_, fL.2⟩
      · rw [List.map_map]; show rest.map (fun x => x) = rest; simp
      · obtain ⟨z, _, ez⟩ := List.mem_map.mp m; cases ez
      · show ((g.upd (s.heap.objs.size + 1) o1).upd (s.heap.objs.size + 1 + 1) o2) s.heap.objs.size = Option.none
        rw [GH.upd_ne, GH.upd_ne]
        · exact fL.1
        · exact Nat.ne_of_lt (Nat.lt_succ_self _)
        · exact Nat.ne_of_lt (Nat.lt_succ_of_lt (Nat.lt_succ_self _))
    have R' : Room n (A.deeper (callEnvC fd s.heap.objs.size fa)) := ⟨R.handled, by have := R.depth; show A.depth + 1 + 2 * n ≤ 600; omega, by have := R.units; show A.units + 3 + 20 * n + 400 ≤ cLine; omega⟩
    have z := hb.run (callEnvC fd s.heap.objs.size fa) _ al { s with heap := h₁, toks := tk } _ R' ⟨EO, LS, ⟨H2, st.gens, st.os⟩⟩
    refine wpAny_mono z (fun fl s' h' => ?_) fun _ _ x => x.elim
    obtain ⟨g', al', S', y, ρ', rfl, X', ry⟩ := h'
    refine ⟨y, rfl, ?_⟩
    have hsz := size_none s.heap
    have S : Step NX g al s.heap g' al' s'.heap := by
      have S3 := S2.trans S'
      exact ⟨S3.ext, fun b o m _ e => S3.keep b o m (by rintro rfl; rw [hsz] at e; cases e) e, S3.alive, S3.out, S3.outA⟩
    unfold memNarrow at hn
    have hn' := Bool.and_eq_true_iff.mp hn
    have hle1 : mu'.length ≤ muB.length := by
      have := congrArg List.length hmu
      rw [List.length_take] at this; omega
    refine ⟨g', al'.take mu'.length, ⟨⟨S.ext.le, ?_⟩, S.keep, S.alive, S.out, fun b o m e q => S.outA b o m e (List.mem_of_mem_take q)⟩, ⟨by rw [hmu, List.length_take, Nat.min_eq_left hle1]; exact X'.st.hs.narrow hn'.2, X'.st.gens, X'.st.os⟩, Rep.narrow v y hn'.1 ry⟩
    have hal : al.length ≤ mu'.length := by rw [st.hs.len]; exact hle
    obtain ⟨t, ht⟩ := S.ext.pre
    rw [← ht, List.take_append, List.take_of_length_le hal]
    exact ⟨_, rfl⟩
end
-- text H1
section
set_option maxRecDepth 100000
set_option maxHeartbeats 0
noncomputable def nthS : List Stmt → Nat → Stmt
  | [], _ => .Pass default
  | s :: _, 0 => s
  | _ :: r, n + 1 => nthS r n
noncomputable def stm (i : Nat) : Stmt := nthS PySem.Challenge.pw_pf0011_01.main.body i
noncomputable def inn (s : Stmt) (n : PySem.Str) : Stmt := match s with
  | .ClassDef _ _ _ b .. => (b.find? fun t => match t with | .FunctionDef m .. => m == n | _ => false).getD (.Pass default)
  | _ => s
noncomputable abbrev T0 (s : String) : PySem.Str := PySem.Str.ofString s
noncomputable abbrev sv (s : String) (t : Nat) : Value := .str (T0 s) t
noncomputable def sof (s : Stmt) (t : Nat) : Value := match s with
  | .Assign _ (.Constant (.str x) _ _) _ => .str x t
  | _ => .none
noncomputable def ent (P : Params) (k : String) (t : Nat) (v : Value) : DictEntry := { hash := PyData.keyHash P (T0 k), key := sv k t, val := v }
noncomputable def fnO (s : Stmt) (q : String) (pm : String) (pt cd : Nat) : Obj := match s with
  | .FunctionDef n a b _ _ _ sc _ _ _ => { cls := .type "function", data := .func { name := n, qualname := T0 q, params := a, body := .stmts b, scope := sc, globals := 3, closure := [], defaults := .none, kwdefaults := .none, pyModule := sv pm pt, code := .ref cd } }
  | _ => { cls := .none, data := .plain }
noncomputable def cod (a : String) (ta : Nat) (b : String) (tb tc : Nat) (l na n1 n2 n3 : Int) (r1 : Nat) (n4 : Int) (r2 r3 r4 r5 : Nat) (n5 l2 : Int) (td : Nat) : Obj :=
  { cls := .type "code", data := .fields #[sv a ta, sv b tb, sv "/claim/cut.py" tc, .int l 0, .int na 0, .int n1 0, .int n2 0, .int n3 0, .ref r1, .bool true, .int n4 0, .ref r2, .none, .ref r3, .ref r4, .ref r5, .int n5 0, .int l2 0, sv "/claim/cut.py" td] }
noncomputable def cod2 (a : String) (ta : Nat) (b : String) (tb tc : Nat) (l na n1 n2 n3 : Int) (r1 : Nat) (n4 : Int) (r2 r5 : Nat) (n5 l2 : Int) (td : Nat) : Obj :=
  { cls := .type "code", data := .fields #[sv a ta, sv b tb, sv "/claim/cut.py" tc, .int l 0, .int na 0, .int n1 0, .int n2 0, .int n3 0, .ref r1, .bool true, .int n4 0, .ref r2, .none, .none, .none, .ref r5, .int n5 0, .int l2 0, sv "/claim/cut.py" td] }
noncomputable def KFrag (P : Params) : Frag := [
(2, { cls := .none, data := .dict #[ent P "type.__subclasses__.Exception.0" 221 (.int 34 0),
  ent P "type.__subclasses__.Exception.n" 222 (.int 1 0)] 2 }),
(3, { cls := .type "dict", data := .dict #[ent P "__name__" 165 (sv "law_pf0011_01" 713),
  ent P "__doc__" 166 (.none),
  ent P "__package__" 167 (.none),
  ent P "__loader__" 168 (.builtin "__main__.__loader__#opaque"),
  ent P "__spec__" 169 (.none),
  ent P "__annotations__" 170 (.ref 6),
  ent P "__builtins__" 171 (.ref 4),
  ent P "__file__" 173 (sv "/claim/cut.py" 172),
  ent P "__cached__" 174 (.none),
  ent P "MOST_EXPONENT" 190 (.int 99 189),
  ent P "BasicError" 224 (.ref 34),
  ent P "figures_of" 233 (.ref 44),
  ent P "MOST_SIGNS" 237 (.int 255 236),
  ent P "MOST_FIGURES_tokens" 239 (.int 40 238),
  ent P "SIGNS" 241 (sv "+-*/\\^(),;:#&@" 240),
  ent P "ORDERS" 243 (sv "<=>" 242),
  ent P "PAIRS" 262 (.ref 45),
  ent P "WORDS" 264 (sof (stm 10) 263),
  ent P "FUNCTION_WORDS" 266 (sof (stm 11) 265),
  ent P "functions" 272 (.ref 52),
  ent P "is_word" 279 (.ref 59),
  ent P "is_letter" 286 (.ref 66),
  ent P "is_figure" 293 (.ref 73),
  ent P "capital" 299 (.ref 78),
  ent P "figures_end" 307 (.ref 85),
  ent P "skipped" 315 (.ref 92),
  ent P "power_end" 325 (.ref 99),
  ent P "number_at" 337 (.ref 106),
  ent P "name_end" 345 (.ref 113),
  ent P "text_at" 354 (.ref 120),
  ent P "order_at" 364 (.ref 127),
  ent P "data_end" 373 (.ref 134),
  ent P "remark_of" 380 (.ref 141),
  ent P "word_at" 391 (.ref 148),
  ent P "tokens_at" 402 (.ref 155),
  ent P "tokens_of" 412 (.ref 162),
  ent P "STRENGTH" 469 (.ref 163),
  ent P "NOT_STRENGTH" 471 (.int 6 470),
  ent P "MINUS_STRENGTH" 473 (.int 12 472),
  ent P "MOST_OPEN" 475 (.int 60 474),
  ent P "NO_ARGS" 482 (.ref 165),
  ent P "NO_TOKEN" 485 (.ref 166),
  ent P "MOST_FIGURES_exprread" 487 (.int 60 486),
  ent P "MOST_POWER" 489 (.int 999 488),
  ent P "token_at" 497 (.ref 173),
  ent P "is_sign" 506 (.ref 180),
  ent P "expect" 515 (.ref 187),
  ent P "figures_at" 525 (.ref 194),
  ent P "power_at" 537 (.ref 201),
  ent P "told_exactly" 546 (.ref 208),
  ent P "number_tree" 559 (.ref 215),
  ent P "Level" 593 (.ref 232),
  ent P "join_up" 603 (.ref 243),
  ent P "finished" 611 (.ref 250),
  ent P "opened" 620 (.ref 257),
  ent P "plain_operand" 630 (.ref 264),
  ent P "take_operand" 643 (.ref 271),
  ent P "take_operator" 655 (.ref 278),
  ent P "expression" 667 (.ref 285),
  ent P "quoted" 674 (.ref 292),
  ent P "decimal_text" 683 (.ref 299),
  ent P "leaf_text" 690 (.ref 306),
  ent P "parts_of_tree" 697 (.ref 313),
  ent P "shown_part" 706 (.ref 320),
  ent P "shown_tree" 712 (.ref 325),
  ent P "_law_dealt" 722 (.ref 332),
  ent P "_law_leaf" 730 (.ref 339),
  ent P "_law_grown" 736 (.ref 344),
  ent P "_law_is_back" 747 (.ref 351),
  ent P "_law_number_right" 762 (.ref 358),
  ent P "law" 768 (.ref 363)] 71 }),
(33, { cls := .type "dict", data := .dict #[ent P "__module__" 198 (sv "basicplus.values" 187),
  ent P "__firstlineno__" 202 (.int 3 201),
  ent P "__init__" 213 (.ref 31),
  ent P "__static_attributes__" 216 (.ref 32),
  ent P "__weakref__" 219 (.ref 35),
  ent P "__doc__" 220 (.none)] 4 }),
(34, { cls := .type "type", data := .cls { name := T0 "BasicError", bases := [.type "Exception"], mro := [.ref 34, .type "Exception", .type "BaseException", .type "object"], ns := 33, qualname := T0 "BasicError" }, slots := #[some (.ref 15), none, some (sv "BasicError" 191), some (sv "BasicError" 199), some (.builtin "Exception.__new__"), some (.bool true)] }),
(43, cod "figures_of" 225 "figures_of" 226 227 9 1 0 0 3 38 181 39 40 41 42 231 9 232),
(44, fnO (stm 3) "figures_of" "basicplus.values" 187 43),
(45, { cls := .type "dict", data := .dict #[ent P "<=" 244 (sv "<=" 245),
  ent P "=<" 246 (sv "<=" 247),
  ent P ">=" 248 (sv ">=" 249),
  ent P "=>" 250 (sv ">=" 251),
  ent P "<>" 252 (sv "<>" 253),
  ent P "><" 254 (sv "<>" 255)] 6 }),
(51, cod "functions" 267 "functions" 268 269 23 0 0 0 3 46 181 47 48 49 50 270 23 271),
(52, fnO (stm 12) "functions" "basicplus.tokens" 234 51),
(58, cod "is_word" 273 "is_word" 274 275 25 1 0 0 3 53 181 54 55 56 57 277 25 278),
(59, fnO (stm 13) "is_word" "basicplus.tokens" 234 58),
(65, cod "is_letter" 280 "is_letter" 281 282 27 1 0 0 3 60 181 61 62 63 64 284 27 285),
(66, fnO (stm 14) "is_letter" "basicplus.tokens" 234 65),
(72, cod "is_figure" 287 "is_figure" 288 289 29 1 0 0 3 67 181 68 69 70 71 291 29 292),
(73, fnO (stm 15) "is_figure" "basicplus.tokens" 234 72),
(77, cod2 "capital" 294 "capital" 295 296 31 1 0 0 3 74 181 75 76 297 31 298),
(78, fnO (stm 16) "capital" "basicplus.tokens" 234 77),
(84, cod "figures_end" 300 "figures_end" 301 302 33 2 0 0 3 79 181 80 81 82 83 305 33 306),
(85, fnO (stm 17) "figures_end" "basicplus.tokens" 234 84),
(91, cod "skipped" 308 "skipped" 309 310 37 2 0 0 3 86 181 87 88 89 90 313 37 314),
(92, fnO (stm 18) "skipped" "basicplus.tokens" 234 91),
(98, cod "power_end" 316 "power_end" 317 318 41 2 0 0 3 93 181 94 95 96 97 323 41 324),
(99, fnO (stm 19) "power_end" "basicplus.tokens" 234 98),
(105, cod "number_at" 326 "number_at" 327 328 49 2 0 0 3 100 181 101 102 103 104 335 49 336),
(106, fnO (stm 20) "number_at" "basicplus.tokens" 234 105),
(112, cod "name_end" 338 "name_end" 339 340 61 2 0 0 3 107 181 108 109 110 111 343 61 344),
(113, fnO (stm 21) "name_end" "basicplus.tokens" 234 112),
(119, cod "text_at" 346 "text_at" 347 348 65 2 0 0 3 114 181 115 116 117 118 352 65 353),
(120, fnO (stm 22) "text_at" "basicplus.tokens" 234 119),
(126, cod "order_at" 355 "order_at" 356 357 70 2 0 0 3 121 181 122 123 124 125 362 70 363),
(127, fnO (stm 23) "order_at" "basicplus.tokens" 234 126),
(133, cod "data_end" 365 "data_end" 366 367 76 2 0 0 3 128 181 129 130 131 132 371 76 372),
(134, fnO (stm 24) "data_end" "basicplus.tokens" 234 133),
(140, cod "remark_of" 374 "remark_of" 375 376 83 1 0 0 3 135 181 136 137 138 139 378 83 379),
(141, fnO (stm 25) "remark_of" "basicplus.tokens" 234 140),
(147, cod "word_at" 381 "word_at" 382 383 85 2 0 0 3 142 181 143 144 145 146 389 85 390),
(148, fnO (stm 26) "word_at" "basicplus.tokens" 234 147),
(154, cod "tokens_at" 392 "tokens_at" 393 394 94 2 0 0 3 149 181 150 151 152 153 400 94 401),
(155, fnO (stm 27) "tokens_at" "basicplus.tokens" 234 154),
(161, cod "tokens_of" 403 "tokens_of" 404 405 114 1 0 0 3 156 181 157 158 159 160 410 114 411),
(162, fnO (stm 28) "tokens_of" "basicplus.tokens" 234 161),
(163, { cls := .type "dict", data := .dict #[ent P "IMP" 415 (.int 1 416),
  ent P "EQV" 418 (.int 2 419),
  ent P "XOR" 421 (.int 3 422),
  ent P "OR" 424 (.int 4 425),
  ent P "AND" 427 (.int 5 428),
  ent P "=" 430 (.int 7 431),
  ent P "<>" 433 (.int 7 434),
  ent P "<" 436 (.int 7 437),
  ent P ">" 439 (.int 7 440),
  ent P "<=" 442 (.int 7 443),
  ent P ">=" 445 (.int 7 446),
  ent P "+" 448 (.int 8 449),
  ent P "-" 451 (.int 8 452),
  ent P "MOD" 454 (.int 9 455),
  ent P "\\" 457 (.int 10 458),
  ent P "*" 460 (.int 11 461),
  ent P "/" 463 (.int 11 464),
  ent P "^" 466 (.int 13 467)] 18 }),
(165, { cls := .type "tuple", data := .seq #[sv "ERL" 476, sv "ERR" 477, sv "FRE" 478, sv "PI" 479, sv "POS" 480, sv "RND" 481] }),
(166, { cls := .type "tuple", data := .seq #[sv "end" 483, sv "" 484] }),
(172, cod "token_at" 490 "token_at" 491 492 132 2 0 0 3 167 181 168 169 170 171 495 132 496),
(173, fnO (stm 38) "token_at" "basicplus.exprread" 413 172),
(179, cod "is_sign" 498 "is_sign" 499 500 134 3 0 0 3 174 181 175 176 177 178 504 134 505),
(180, fnO (stm 39) "is_sign" "basicplus.exprread" 413 179),
(186, cod "expect" 507 "expect" 508 509 136 3 0 0 3 181 181 182 183 184 185 513 136 514),
(187, fnO (stm 40) "expect" "basicplus.exprread" 413 186),
(193, cod "figures_at" 516 "figures_at" 517 518 140 2 0 0 3 188 181 189 190 191 192 523 140 524),
(194, fnO (stm 41) "figures_at" "basicplus.exprread" 413 193),
(200, cod "power_at" 526 "power_at" 527 528 148 2 0 0 3 195 181 196 197 198 199 535 148 536),
(201, fnO (stm 42) "power_at" "basicplus.exprread" 413 200),
(207, cod "told_exactly" 538 "told_exactly" 539 540 156 2 0 0 3 202 181 203 204 205 206 544 156 545),
(208, fnO (stm 43) "told_exactly" "basicplus.exprread" 413 207),
(214, cod "number_tree" 547 "number_tree" 548 549 165 1 0 0 3 209 181 210 211 212 213 557 165 558),
(215, fnO (stm 44) "number_tree" "basicplus.exprread" 413 214),
(228, cod "__init__" 572 "Level.__init__" 573 574 176 3 0 0 3 223 181 224 225 226 227 578 176 579),
(229, fnO (inn (stm 45) "__init__") "Level.__init__" "basicplus.exprread" 413 228),
(231, { cls := .type "dict", data := .dict #[ent P "__module__" 567 (sv "basicplus.exprread" 413),
  ent P "__firstlineno__" 571 (.int 174 570),
  ent P "__init__" 580 (.ref 229),
  ent P "__static_attributes__" 586 (.ref 230),
  ent P "__dict__" 588 (.ref 233),
  ent P "__weakref__" 590 (.ref 234),
  ent P "__doc__" 591 (.none)] 4 }),
(232, { cls := .type "type", data := .cls { name := T0 "Level", bases := [.type "object"], mro := [.ref 232, .type "object"], ns := 231, qualname := T0 "Level" }, slots := #[none, none, some (sv "Level" 560), some (sv "Level" 568), some (.builtin "object.__new__"), some (.bool true)] }),
(242, cod "join_up" 594 "join_up" 595 596 182 2 0 0 3 237 181 238 239 240 241 601 182 602),
(243, fnO (stm 46) "join_up" "basicplus.exprread" 413 242),
(249, cod "finished" 604 "finished" 605 606 190 1 0 0 3 244 181 245 246 247 248 609 190 610),
(250, fnO (stm 47) "finished" "basicplus.exprread" 413 249),
(256, cod "opened" 612 "opened" 613 614 196 3 0 0 3 251 181 252 253 254 255 618 196 619),
(257, fnO (stm 48) "opened" "basicplus.exprread" 413 256),
(263, cod "plain_operand" 621 "plain_operand" 622 623 200 2 0 0 3 258 181 259 260 261 262 628 200 629),
(264, fnO (stm 49) "plain_operand" "basicplus.exprread" 413 263),
(270, cod "take_operand" 631 "take_operand" 632 633 211 4 0 0 3 265 181 266 267 268 269 641 211 642),
(271, fnO (stm 50) "take_operand" "basicplus.exprread" 413 270),
(277, cod "take_operator" 644 "take_operator" 645 646 229 3 0 0 3 272 181 273 274 275 276 653 229 654),
(278, fnO (stm 51) "take_operator" "basicplus.exprread" 413 277),
(284, cod "expression" 656 "expression" 657 658 246 2 0 0 3 279 181 280 281 282 283 665 246 666),
(285, fnO (stm 52) "expression" "basicplus.exprread" 413 284),
(291, cod "quoted" 668 "quoted" 669 670 255 1 0 0 3 286 181 287 288 289 290 672 255 673),
(292, fnO (stm 53) "quoted" "basicplus.exprread" 413 291),
(298, cod "decimal_text" 675 "decimal_text" 676 677 257 1 0 0 3 293 181 294 295 296 297 681 257 682),
(299, fnO (stm 54) "decimal_text" "basicplus.exprread" 413 298),
(305, cod "leaf_text" 684 "leaf_text" 685 686 260 1 0 0 3 300 181 301 302 303 304 688 260 689),
(306, fnO (stm 55) "leaf_text" "basicplus.exprread" 413 305),
(312, cod "parts_of_tree" 691 "parts_of_tree" 692 693 266 1 0 0 3 307 181 308 309 310 311 695 266 696),
(313, fnO (stm 56) "parts_of_tree" "basicplus.exprread" 413 312),
(319, cod "shown_part" 698 "shown_part" 699 700 272 2 0 0 3 314 181 315 316 317 318 704 272 705),
(320, fnO (stm 57) "shown_part" "basicplus.exprread" 413 319),
(324, cod2 "shown_tree" 707 "shown_tree" 708 709 281 1 0 0 3 321 181 322 323 710 281 711),
(325, fnO (stm 58) "shown_tree" "basicplus.exprread" 413 324),
(331, cod "_law_dealt" 715 "_law_dealt" 716 717 294 2 0 0 3 326 181 327 328 329 330 720 294 721),
(332, fnO (stm 60) "_law_dealt" "law_pf0011_01" 713 331),
(338, cod "_law_leaf" 723 "_law_leaf" 724 725 299 1 0 0 3 333 181 334 335 336 337 728 299 729),
(339, fnO (stm 61) "_law_leaf" "law_pf0011_01" 713 338),
(343, cod2 "_law_grown" 731 "_law_grown" 732 733 310 2 0 0 3 340 181 341 342 734 310 735),
(344, fnO (stm 62) "_law_grown" "law_pf0011_01" 713 343),
(350, cod "_law_is_back" 737 "_law_is_back" 738 739 322 1 0 0 3 345 181 346 347 348 349 745 322 746),
(351, fnO (stm 63) "_law_is_back" "law_pf0011_01" 713 350),
(357, cod "_law_number_right" 748 "_law_number_right" 749 750 327 1 0 0 3 352 181 353 354 355 356 760 327 761),
(358, fnO (stm 64) "_law_number_right" "law_pf0011_01" 713 357),
(362, cod2 "law" 763 "law" 764 765 343 1 0 0 3 359 181 360 361 766 343 767),
(363, fnO (stm 65) "law" "law_pf0011_01" 713 362)]
noncomputable def asFrag : List Addr := [2, 3, 33, 34, 43, 44, 45, 51, 52, 58, 59, 65, 66, 72, 73, 77, 78, 84, 85, 91, 92, 98, 99, 105, 106, 112, 113, 119, 120, 126, 127, 133, 134, 140, 141, 147, 148, 154, 155, 161, 162, 163, 165, 166, 172, 173, 179, 180, 186, 187, 193, 194, 200, 201, 207, 208, 214, 215, 228, 229, 231, 232, 242, 243, 249, 250, 256, 257, 263, 264, 270, 271, 277, 278, 284, 285, 291, 292, 298, 299, 305, 306, 312, 313, 319, 320, 324, 325, 331, 332, 338, 339, 343, 344, 350, 351, 357, 358, 362, 363]
noncomputable def lastOnly : Program := view PySem.Challenge.pw_pf0011_01 [65]
noncomputable def looseAll : List PySem.Str := PySem.Challenge.pw_pf0011_01.main.scope.names.map (·.1)
noncomputable def endsSo (b : Bool) (w : World) (os : OsState) : Prop := (topFrom treeTable PySem.Challenge.pw_pf0011_01 (w.withFollow "special-get-raises" b) 4922 ⟨boot_heap w.params, Array.mk [], boot_drawn, boot_toks, os⟩).map (fun s => (openSeen lastOnly looseAll (importedModules PySem.Challenge.pw_pf0011_01.main.body) (fun s => xlAt lastOnly [] s && recOk [] s) true s, asFrag.map s.heap.get?)) = some (openGood lastOnly looseAll, (KFrag w.params).map fun p => some p.2)
theorem topfin_false (w : World) (os : OsState) : endsSo false w os := by
  unfold endsSo topFrom
  rw [PySem.W.Fast.te14082659384304107361, PySem.W.Fast.te14364793385576792824, PySem.W.Fast.te4187177175401517315, PySem.W.Fast.te5923862056798008813]
  kernel_rfl
theorem topfin_true (w : World) (os : OsState) : endsSo true w os := by
  unfold endsSo topFrom
  rw [PySem.W.Fast.te14082659384304107361, PySem.W.Fast.te14364793385576792824, PySem.W.Fast.te4187177175401517315, PySem.W.Fast.te5923862056798008813]
  kernel_rfl
theorem topfin : ∀ (b : Bool) (w : World) (os : OsState), endsSo b w os
  | false, w, os => topfin_false w os
  | true, w, os => topfin_true w os
end
-- text H2
section
set_option maxRecDepth 100000
set_option maxHeartbeats 0
noncomputable abbrev theLaw : OpenLaw := PySem.Challenge.rw_pf0011_01
theorem left : LeftO PySem.Challenge.pw_pf0011_01 lastOnly looseAll (fun s => xlAt lastOnly [] s && recOk theLaw.row.records s) (kHook KFrag asFrag (fun _ => by kernel_rfl)).obs (kHook KFrag asFrag (fun _ => by kernel_rfl)).val 4922 := by
  refine LeftO.of_split "special-get-raises" fun w => ?_
  obtain ⟨⟨h, gs, d, k, os⟩, e, e'⟩ := Option.map_eq_some_iff.mp (boot_open (p := PySem.Challenge.pw_pf0011_01) (N := 4922) (by rfl) (by decide) (fun s => by rfl) w)
  obtain ⟨rfl, rfl, rfl, rfl⟩ : h = boot_heap w.params ∧ gs = Array.mk [] ∧ d = boot_drawn ∧ k = boot_toks := by simpa using e'
  rw [e]
  have z := fun b => topfin b w os
  rw [Option.map_some]
  exact congrArg some (Prod.ext (z false) (z true))
end
-- text H3
section
set_option maxRecDepth 100000
set_option maxHeartbeats 0
noncomputable def lawRec : DefRec := match stm 65 with
  | .FunctionDef n a b _ _ _ sc _ _ pos => ⟨n, a, b, sc, pos⟩
  | _ => ⟨T0 "", default, [], default, default⟩
noncomputable abbrev pp : Program := theLaw.row.prog
theorem said_bare : (["vars", "dir", "locals"] : List PySem.Str).filter (readsOut pp pp.main.body) = [] := by
  rw [PySem.W.Fast.te13343964577679436407]; kernel_rfl
theorem said_roads : noRoadLSs { strict := !(importedModules pp.main.body).all cThrough.contains, foot := none, bare := (["vars", "dir", "locals"] : List PySem.Str).filter (readsOut pp pp.main.body) } pp.main.body = true := by
  rw [said_bare, PySem.W.Fast.te8326940854005059898]; kernel_rfl
theorem said_names : (namesMeet pp pp.main.body fun _ n => attrL n) = true := by
  rw [PySem.W.Fast.te17868728402115742887, PySem.W.Fast.te17119622794617984870]; kernel_rfl
theorem said_resolve : namesResolve pp = true := by
  rw [PySem.W.Fast.te8377067652309620493]; kernel_rfl
theorem said_looks : looksOpen pp = true := by
  unfold looksOpen
  refine look_both (look_both (look_both (look_both ?_ said_resolve) ?_) said_roads) said_names
  · decide +kernel
  · decide +kernel
theorem said_part : theLaw.row.partSaid = true := by
  unfold OpenRow.partSaid
  iterate 13 refine look_both ?_ (by decide +kernel)
  exact said_looks
theorem said_row : theLaw.row.wellSaid = true := by
  unfold OpenRow.wellSaid
  iterate 2 refine look_both ?_ (by decide +kernel)
  exact said_part
theorem saidWell : theLaw.wellSaid = true := by
  unfold OpenLaw.wellSaid
  iterate 18 refine look_both ?_ (by decide +kernel)
  exact said_row
theorem hd (walk : WalkO lastOnly looseAll (XL lastOnly []) (kHook KFrag asFrag (fun _ => by kernel_rfl)).says theLaw.row.toRowW lawRec [] fun f vs => PySem.call f vs) : theLaw.Holds :=
  holds_law saidWell fun said => holds_open (r := theLaw.row) (q := lastOnly) (loose := looseAll) (Xt := fun s => xlAt lastOnly [] s && recOk theLaw.row.records s) (XP := XL lastOnly [])
    (YP := (kHook KFrag asFrag (fun _ => by kernel_rfl)).says) (d := lawRec) (kwd := []) (N := 4922) left (Hook.of _) (Hook.keeps _) (fun s e => xl_of s (Bool.and_eq_true_iff.mp e).1) XL.keeps
    (by kernel_rfl) (by kernel_rfl) (by kernel_rfl) (fun s e => recFacts_of (Bool.and_eq_true_iff.mp e).2) (by kernel_rfl) said (by decide +kernel) ⟨rfl, rfl, rfl, rfl, rfl, by decide +kernel⟩ ⟨[WData.list []], by kernel_rfl, by kernel_rfl⟩ walk
end
-- text P2
section
noncomputable abbrev KK (P : Params) : Frag := Mine.KFrag P
structure Pg (c : Cx) : Prop where
  ok : c.Ok
  K : c.K = KK c.w.params
theorem FnAt.pg {c : Cx} (G : Pg c) {fa : Addr} {ps rest : List PySem.Str} {gl : Params → List (PySem.Str × Value)} (h : ∀ P, fnB (KK P) fa ps rest (gl P) = true) (bind : ∀ P, ∀ vs : List Value, vs.length = ps.length → bindArgs (fdAt (KK P) fa) ⟨vs, []⟩ = pure (ps.zip vs)) :
    FnAt c fa (fdAt (KK c.w.params) fa) ps rest (gl c.w.params) (bodyAt (KK c.w.params) fa) := by
  have := FnAt.of (c := c) (fa := fa) (ps := ps) (rest := rest) (gl := gl c.w.params) (by rw [G.K]; exact h _) (by rw [G.K]; exact bind _)
  rw [G.K] at this
  exact this
noncomputable def glbAt (P : Params) (x : PySem.Str) : Value := ((nsIn (KK P) mainGlobals x).join).getD .none
theorem get_join {o : Option (Option Value)} (h : o.join.isSome = true) : o = some (some (o.join.getD .none)) := by
  match o, h with
  | some (some _), _ => rfl
noncomputable def fetchB (K : Frag) (a : Addr) (x : PySem.Str) : Bool :=
  (fdAt K a).scope.names.lookup x == some .globalImplicit && !(x == ("__debug__" : Str)) && (nsIn K mainGlobals x).join.isSome
theorem FnAt.fetch {c : Cx} (G : Pg c) {fa : Addr} {ps rest : List PySem.Str} {gl : List (PySem.Str × Value)} {body : List Stmt} {x : PySem.Str} (h : ∀ P, fetchB (KK P) fa x = true) (I : FnAt c fa (fdAt (KK c.w.params) fa) ps rest gl body) :
    FnAt c fa (fdAt (KK c.w.params) fa) ps rest ((x, glbAt c.w.params x) :: gl) body := by
  refine ⟨I.ex, I.code, I.body, I.bind, I.cell, I.kind, I.co, I.gen, I.globals, I.builtins, I.loc, I.nodup, fun y v m => ?_⟩
  rcases List.mem_cons.mp m with e | m
  · cases e
    have h := h c.w.params
    unfold fetchB at h
    rw [Bool.and_eq_true, Bool.and_eq_true] at h
    refine ⟨by simpa using h.1.1, by simpa using h.1.2, .inl ?_⟩
    rw [G.K]
    exact get_join h.2
  · exact I.glb y v m
variable {c : Cx}
noncomputable abbrev gl_figures_of (P : Params) : List (PySem.Str × Value) := []
noncomputable abbrev fs_figures_of (c : Cx) : FS := FSof ["number"] ["many", "bound"] (gl_figures_of c.w.params)
theorem at_figures_of (G : Pg c) : FnAt c 44 (fdAt (KK c.w.params) 44) ["number"] ["many", "bound"] (gl_figures_of c.w.params) (bodyAt (KK c.w.params) 44) :=
  FnAt.pg G (gl := gl_figures_of) (fun P => by kernel_rfl) (fun P vs h => match vs, h with | [_], _ => by kernel_rfl)
noncomputable abbrev gl_functions (P : Params) : List (PySem.Str × Value) := [("FUNCTION_WORDS", glbAt P "FUNCTION_WORDS")]
noncomputable abbrev fs_functions (c : Cx) : FS := FSof [] [] (gl_functions c.w.params)
theorem at_functions (G : Pg c) : FnAt c 52 (fdAt (KK c.w.params) 52) [] [] (gl_functions c.w.params) (bodyAt (KK c.w.params) 52) :=
  FnAt.fetch G (fun P => by kernel_rfl) (FnAt.pg G (gl := fun _ => []) (fun P => by kernel_rfl) (fun P vs h => match vs, h with | [], _ => by kernel_rfl))
noncomputable abbrev gl_is_word (P : Params) : List (PySem.Str × Value) := [("WORDS", glbAt P "WORDS"), ("functions", .ref 52)]
noncomputable abbrev fs_is_word (c : Cx) : FS := FSof ["told"] [] (gl_is_word c.w.params)
theorem at_is_word (G : Pg c) : FnAt c 59 (fdAt (KK c.w.params) 59) ["told"] [] (gl_is_word c.w.params) (bodyAt (KK c.w.params) 59) :=
  FnAt.fetch G (fun P => by kernel_rfl) (FnAt.pg G (gl := fun _ => [("functions", .ref 52)]) (fun P => by kernel_rfl) (fun P vs h => match vs, h with | [_], _ => by kernel_rfl))
noncomputable abbrev gl_is_letter (P : Params) : List (PySem.Str × Value) := []
noncomputable abbrev fs_is_letter (c : Cx) : FS := FSof ["sign"] [] (gl_is_letter c.w.params)
theorem at_is_letter (G : Pg c) : FnAt c 66 (fdAt (KK c.w.params) 66) ["sign"] [] (gl_is_letter c.w.params) (bodyAt (KK c.w.params) 66) :=
  FnAt.pg G (gl := gl_is_letter) (fun P => by kernel_rfl) (fun P vs h => match vs, h with | [_], _ => by kernel_rfl)
noncomputable abbrev gl_is_figure (P : Params) : List (PySem.Str × Value) := []
noncomputable abbrev fs_is_figure (c : Cx) : FS := FSof ["sign"] [] (gl_is_figure c.w.params)
theorem at_is_figure (G : Pg c) : FnAt c 73 (fdAt (KK c.w.params) 73) ["sign"] [] (gl_is_figure c.w.params) (bodyAt (KK c.w.params) 73) :=
  FnAt.pg G (gl := gl_is_figure) (fun P => by kernel_rfl) (fun P vs h => match vs, h with | [_], _ => by kernel_rfl)
noncomputable abbrev gl_capital (P : Params) : List (PySem.Str × Value) := []
noncomputable abbrev fs_capital (c : Cx) : FS := FSof ["text"] [] (gl_capital c.w.params)
theorem at_capital (G : Pg c) : FnAt c 78 (fdAt (KK c.w.params) 78) ["text"] [] (gl_capital c.w.params) (bodyAt (KK c.w.params) 78) :=
  FnAt.pg G (gl := gl_capital) (fun P => by kernel_rfl) (fun P vs h => match vs, h with | [_], _ => by kernel_rfl)
noncomputable abbrev gl_figures_end (P : Params) : List (PySem.Str × Value) := [("len", .builtin "len"), ("is_figure", .ref 73)]
noncomputable abbrev fs_figures_end (c : Cx) : FS := FSof ["row", "at"] [] (gl_figures_end c.w.params)
theorem at_figures_end (G : Pg c) : FnAt c 85 (fdAt (KK c.w.params) 85) ["row", "at"] [] (gl_figures_end c.w.params) (bodyAt (KK c.w.params) 85) :=
  FnAt.pg G (gl := gl_figures_end) (fun P => by kernel_rfl) (fun P vs h => match vs, h with | [_, _], _ => by kernel_rfl)
noncomputable abbrev gl_skipped (P : Params) : List (PySem.Str × Value) := [("len", .builtin "len")]
noncomputable abbrev fs_skipped (c : Cx) : FS := FSof ["row", "at"] [] (gl_skipped c.w.params)
theorem at_skipped (G : Pg c) : FnAt c 92 (fdAt (KK c.w.params) 92) ["row", "at"] [] (gl_skipped c.w.params) (bodyAt (KK c.w.params) 92) :=
  FnAt.pg G (gl := gl_skipped) (fun P => by kernel_rfl) (fun P vs h => match vs, h with | [_, _], _ => by kernel_rfl)
noncomputable abbrev gl_power_end (P : Params) : List (PySem.Str × Value) := [("figures_end", .ref 85), ("BasicError", .ref 34)]
noncomputable abbrev fs_power_end (c : Cx) : FS := FSof ["row", "at"] ["begin", "end"] (gl_power_end c.w.params)
theorem at_power_end (G : Pg c) : FnAt c 99 (fdAt (KK c.w.params) 99) ["row", "at"] ["begin", "end"] (gl_power_end c.w.params) (bodyAt (KK c.w.params) 99) :=
  FnAt.pg G (gl := gl_power_end) (fun P => by kernel_rfl) (fun P vs h => match vs, h with | [_, _], _ => by kernel_rfl)
noncomputable abbrev gl_number_at (P : Params) : List (PySem.Str × Value) := [("figures_end", .ref 85), ("MOST_FIGURES_tokens", .int 40 238), ("BasicError", .ref 34), ("power_end", .ref 99), ("capital", .ref 78)]
noncomputable abbrev fs_number_at (c : Cx) : FS := FSof ["row", "at"] ["end", "is_plain", "behind", "last"] (gl_number_at c.w.params)
theorem at_number_at (G : Pg c) : FnAt c 106 (fdAt (KK c.w.params) 106) ["row", "at"] ["end", "is_plain", "behind", "last"] (gl_number_at c.w.params) (bodyAt (KK c.w.params) 106) :=
  FnAt.pg G (gl := gl_number_at) (fun P => by kernel_rfl) (fun P vs h => match vs, h with | [_, _], _ => by kernel_rfl)
noncomputable abbrev gl_name_end (P : Params) : List (PySem.Str × Value) := [("len", .builtin "len"), ("is_letter", .ref 66), ("is_figure", .ref 73)]
noncomputable abbrev fs_name_end (c : Cx) : FS := FSof ["row", "at"] [] (gl_name_end c.w.params)
theorem at_name_end (G : Pg c) : FnAt c 113 (fdAt (KK c.w.params) 113) ["row", "at"] [] (gl_name_end c.w.params) (bodyAt (KK c.w.params) 113) :=
  FnAt.pg G (gl := gl_name_end) (fun P => by kernel_rfl) (fun P vs h => match vs, h with | [_, _], _ => by kernel_rfl)
noncomputable abbrev gl_text_at (P : Params) : List (PySem.Str × Value) := [("len", .builtin "len")]
noncomputable abbrev fs_text_at (c : Cx) : FS := FSof ["row", "at"] ["end"] (gl_text_at c.w.params)
theorem at_text_at (G : Pg c) : FnAt c 120 (fdAt (KK c.w.params) 120) ["row", "at"] ["end"] (gl_text_at c.w.params) (bodyAt (KK c.w.params) 120) :=
  FnAt.pg G (gl := gl_text_at) (fun P => by kernel_rfl) (fun P vs h => match vs, h with | [_, _], _ => by kernel_rfl)
noncomputable abbrev gl_order_at (P : Params) : List (PySem.Str × Value) := [("skipped", .ref 92), ("PAIRS", .ref 45)]
noncomputable abbrev fs_order_at (c : Cx) : FS := FSof ["row", "at"] ["later", "both"] (gl_order_at c.w.params)
theorem at_order_at (G : Pg c) : FnAt c 127 (fdAt (KK c.w.params) 127) ["row", "at"] ["later", "both"] (gl_order_at c.w.params) (bodyAt (KK c.w.params) 127) :=
  FnAt.pg G (gl := gl_order_at) (fun P => by kernel_rfl) (fun P vs h => match vs, h with | [_, _], _ => by kernel_rfl)
noncomputable abbrev gl_word_at (P : Params) : List (PySem.Str × Value) := [("name_end", .ref 113), ("capital", .ref 78), ("remark_of", .ref 141), ("len", .builtin "len"), ("data_end", .ref 134), ("is_word", .ref 59)]
noncomputable abbrev fs_word_at (c : Cx) : FS := FSof ["row", "at"] ["end", "told", "last"] (gl_word_at c.w.params)
theorem at_word_at (G : Pg c) : FnAt c 148 (fdAt (KK c.w.params) 148) ["row", "at"] ["end", "told", "last"] (gl_word_at c.w.params) (bodyAt (KK c.w.params) 148) :=
  FnAt.pg G (gl := gl_word_at) (fun P => by kernel_rfl) (fun P vs h => match vs, h with | [_, _], _ => by kernel_rfl)
noncomputable abbrev gl_tokens_at (P : Params) : List (PySem.Str × Value) := [("is_figure", .ref 73), ("number_at", .ref 106), ("is_letter", .ref 66), ("word_at", .ref 148), ("text_at", .ref 120), ("ORDERS", glbAt P "ORDERS"), ("order_at", .ref 127), ("remark_of", .ref 141), ("len", .builtin "len"), ("SIGNS", glbAt P "SIGNS"), ("BasicError", .ref 34)]
noncomputable abbrev fs_tokens_at (c : Cx) : FS := FSof ["row", "at"] ["sign", "told", "end"] (gl_tokens_at c.w.params)
theorem at_tokens_at (G : Pg c) : FnAt c 155 (fdAt (KK c.w.params) 155) ["row", "at"] ["sign", "told", "end"] (gl_tokens_at c.w.params) (bodyAt (KK c.w.params) 155) :=
  FnAt.pg G (gl := gl_tokens_at) (fun P => by kernel_rfl) (fun P vs h => match vs, h with | [_, _], _ => by kernel_rfl)
noncomputable abbrev gl_tokens_of (P : Params) : List (PySem.Str × Value) := [("len", .builtin "len"), ("MOST_SIGNS", .int 255 236), ("BasicError", .ref 34), ("skipped", .ref 92), ("tokens_at", .ref 155)]
noncomputable abbrev fs_tokens_of (c : Cx) : FS := FSof ["row"] ["found", "at", "told"] (gl_tokens_of c.w.params)
theorem at_tokens_of (G : Pg c) : FnAt c 162 (fdAt (KK c.w.params) 162) ["row"] ["found", "at", "told"] (gl_tokens_of c.w.params) (bodyAt (KK c.w.params) 162) :=
  FnAt.pg G (gl := gl_tokens_of) (fun P => by kernel_rfl) (fun P vs h => match vs, h with | [_], _ => by kernel_rfl)
noncomputable abbrev gl_token_at (P : Params) : List (PySem.Str × Value) := [("len", .builtin "len"), ("NO_TOKEN", .ref 166)]
noncomputable abbrev fs_token_at (c : Cx) : FS := FSof ["tokens", "at"] [] (gl_token_at c.w.params)
theorem at_token_at (G : Pg c) : FnAt c 173 (fdAt (KK c.w.params) 173) ["tokens", "at"] [] (gl_token_at c.w.params) (bodyAt (KK c.w.params) 173) :=
  FnAt.pg G (gl := gl_token_at) (fun P => by kernel_rfl) (fun P vs h => match vs, h with | [_, _], _ => by kernel_rfl)
noncomputable abbrev gl_is_sign (P : Params) : List (PySem.Str × Value) := [("token_at", .ref 173)]
noncomputable abbrev fs_is_sign (c : Cx) : FS := FSof ["tokens", "at", "sign"] [] (gl_is_sign c.w.params)
theorem at_is_sign (G : Pg c) : FnAt c 180 (fdAt (KK c.w.params) 180) ["tokens", "at", "sign"] [] (gl_is_sign c.w.params) (bodyAt (KK c.w.params) 180) :=
  FnAt.pg G (gl := gl_is_sign) (fun P => by kernel_rfl) (fun P vs h => match vs, h with | [_, _, _], _ => by kernel_rfl)
noncomputable abbrev gl_expect (P : Params) : List (PySem.Str × Value) := [("is_sign", .ref 180), ("BasicError", .ref 34)]
noncomputable abbrev fs_expect (c : Cx) : FS := FSof ["tokens", "at", "sign"] [] (gl_expect c.w.params)
theorem at_expect (G : Pg c) : FnAt c 187 (fdAt (KK c.w.params) 187) ["tokens", "at", "sign"] [] (gl_expect c.w.params) (bodyAt (KK c.w.params) 187) :=
  FnAt.pg G (gl := gl_expect) (fun P => by kernel_rfl) (fun P vs h => match vs, h with | [_, _, _], _ => by kernel_rfl)
noncomputable abbrev gl_figures_at (P : Params) : List (PySem.Str × Value) := [("len", .builtin "len"), ("ord", .builtin "ord"), ("MOST_FIGURES_exprread", .int 60 486), ("BasicError", .ref 34)]
noncomputable abbrev fs_figures_at (c : Cx) : FS := FSof ["text", "at"] ["found", "begin"] (gl_figures_at c.w.params)
theorem at_figures_at (G : Pg c) : FnAt c 194 (fdAt (KK c.w.params) 194) ["text", "at"] ["found", "begin"] (gl_figures_at c.w.params) (bodyAt (KK c.w.params) 194) :=
  FnAt.pg G (gl := gl_figures_at) (fun P => by kernel_rfl) (fun P vs h => match vs, h with | [_, _], _ => by kernel_rfl)
noncomputable abbrev gl_power_at (P : Params) : List (PySem.Str × Value) := [("figures_at", .ref 194), ("MOST_POWER", .int 999 488), ("BasicError", .ref 34)]
noncomputable abbrev fs_power_at (c : Cx) : FS := FSof ["text", "at"] ["sign", "found", "many", "end"] (gl_power_at c.w.params)
theorem at_power_at (G : Pg c) : FnAt c 201 (fdAt (KK c.w.params) 201) ["text", "at"] ["sign", "found", "many", "end"] (gl_power_at c.w.params) (bodyAt (KK c.w.params) 201) :=
  FnAt.pg G (gl := gl_power_at) (fun P => by kernel_rfl) (fun P vs h => match vs, h with | [_, _], _ => by kernel_rfl)
noncomputable abbrev gl_told_exactly (P : Params) : List (PySem.Str × Value) := [("figures_of", .ref 44), ("MOST_EXPONENT", .int 99 189)]
noncomputable abbrev fs_told_exactly (c : Cx) : FS := FSof ["coefficient", "exponent"] ["first"] (gl_told_exactly c.w.params)
theorem at_told_exactly (G : Pg c) : FnAt c 208 (fdAt (KK c.w.params) 208) ["coefficient", "exponent"] ["first"] (gl_told_exactly c.w.params) (bodyAt (KK c.w.params) 208) :=
  FnAt.pg G (gl := gl_told_exactly) (fun P => by kernel_rfl) (fun P vs h => match vs, h with | [_, _], _ => by kernel_rfl)
noncomputable abbrev gl_number_tree (P : Params) : List (PySem.Str × Value) := [("figures_at", .ref 194), ("power_at", .ref 201), ("told_exactly", .ref 208)]
noncomputable abbrev fs_number_tree (c : Cx) : FS := FSof ["text"] ["front", "many", "at", "behind", "places", "power"] (gl_number_tree c.w.params)
theorem at_number_tree (G : Pg c) : FnAt c 215 (fdAt (KK c.w.params) 215) ["text"] ["front", "many", "at", "behind", "places", "power"] (gl_number_tree c.w.params) (bodyAt (KK c.w.params) 215) :=
  FnAt.pg G (gl := gl_number_tree) (fun P => by kernel_rfl) (fun P vs h => match vs, h with | [_], _ => by kernel_rfl)
noncomputable abbrev gl_Level_init (P : Params) : List (PySem.Str × Value) := []
noncomputable abbrev fs_Level_init (c : Cx) : FS := FSof ["self", "kind", "word"] [] (gl_Level_init c.w.params)
theorem at_Level_init (G : Pg c) : FnAt c 229 (fdAt (KK c.w.params) 229) ["self", "kind", "word"] [] (gl_Level_init c.w.params) (bodyAt (KK c.w.params) 229) :=
  FnAt.pg G (gl := gl_Level_init) (fun P => by kernel_rfl) (fun P vs h => match vs, h with | [_, _, _], _ => by kernel_rfl)
noncomputable abbrev gl_join_up (P : Params) : List (PySem.Str × Value) := [("len", .builtin "len")]
noncomputable abbrev fs_join_up (c : Cx) : FS := FSof ["level", "strength"] ["op", "last"] (gl_join_up c.w.params)
theorem at_join_up (G : Pg c) : FnAt c 243 (fdAt (KK c.w.params) 243) ["level", "strength"] ["op", "last"] (gl_join_up c.w.params) (bodyAt (KK c.w.params) 243) :=
  FnAt.pg G (gl := gl_join_up) (fun P => by kernel_rfl) (fun P vs h => match vs, h with | [_, _], _ => by kernel_rfl)
noncomputable abbrev gl_finished (P : Params) : List (PySem.Str × Value) := [("join_up", .ref 243)]
noncomputable abbrev fs_finished (c : Cx) : FS := FSof ["level"] ["last"] (gl_finished c.w.params)
theorem at_finished (G : Pg c) : FnAt c 250 (fdAt (KK c.w.params) 250) ["level"] ["last"] (gl_finished c.w.params) (bodyAt (KK c.w.params) 250) :=
  FnAt.pg G (gl := gl_finished) (fun P => by kernel_rfl) (fun P vs h => match vs, h with | [_], _ => by kernel_rfl)
noncomputable abbrev gl_opened (P : Params) : List (PySem.Str × Value) := [("len", .builtin "len"), ("MOST_OPEN", .int 60 474), ("BasicError", .ref 34), ("Level", .ref 232)]
noncomputable abbrev fs_opened (c : Cx) : FS := FSof ["levels", "kind", "word"] [] (gl_opened c.w.params)
theorem at_opened (G : Pg c) : FnAt c 257 (fdAt (KK c.w.params) 257) ["levels", "kind", "word"] [] (gl_opened c.w.params) (bodyAt (KK c.w.params) 257) :=
  FnAt.pg G (gl := gl_opened) (fun P => by kernel_rfl) (fun P vs h => match vs, h with | [_, _, _], _ => by kernel_rfl)
noncomputable abbrev gl_plain_operand (P : Params) : List (PySem.Str × Value) := [("token_at", .ref 173), ("number_tree", .ref 215), ("is_sign", .ref 180), ("NO_ARGS", .ref 165)]
noncomputable abbrev fs_plain_operand (c : Cx) : FS := FSof ["tokens", "at"] ["kind", "told"] (gl_plain_operand c.w.params)
theorem at_plain_operand (G : Pg c) : FnAt c 264 (fdAt (KK c.w.params) 264) ["tokens", "at"] ["kind", "told"] (gl_plain_operand c.w.params) (bodyAt (KK c.w.params) 264) :=
  FnAt.pg G (gl := gl_plain_operand) (fun P => by kernel_rfl) (fun P vs h => match vs, h with | [_, _], _ => by kernel_rfl)
noncomputable abbrev gl_take_operand (P : Params) : List (PySem.Str × Value) := [("token_at", .ref 173), ("plain_operand", .ref 264), ("MINUS_STRENGTH", .int 12 472), ("NOT_STRENGTH", .int 6 470), ("opened", .ref 257), ("expect", .ref 187), ("BasicError", .ref 34)]
noncomputable abbrev fs_take_operand (c : Cx) : FS := FSof ["levels", "tokens", "at", "known"] ["kind", "told", "found"] (gl_take_operand c.w.params)
theorem at_take_operand (G : Pg c) : FnAt c 271 (fdAt (KK c.w.params) 271) ["levels", "tokens", "at", "known"] ["kind", "told", "found"] (gl_take_operand c.w.params) (bodyAt (KK c.w.params) 271) :=
  FnAt.pg G (gl := gl_take_operand) (fun P => by kernel_rfl) (fun P vs h => match vs, h with | [_, _, _, _], _ => by kernel_rfl)
noncomputable abbrev gl_take_operator (P : Params) : List (PySem.Str × Value) := [("token_at", .ref 173), ("STRENGTH", .ref 163), ("join_up", .ref 243), ("expect", .ref 187), ("finished", .ref 250)]
noncomputable abbrev fs_take_operator (c : Cx) : FS := FSof ["levels", "tokens", "at"] ["kind", "told", "here"] (gl_take_operator c.w.params)
theorem at_take_operator (G : Pg c) : FnAt c 278 (fdAt (KK c.w.params) 278) ["levels", "tokens", "at"] ["kind", "told", "here"] (gl_take_operator c.w.params) (bodyAt (KK c.w.params) 278) :=
  FnAt.pg G (gl := gl_take_operator) (fun P => by kernel_rfl) (fun P vs h => match vs, h with | [_, _, _], _ => by kernel_rfl)
noncomputable abbrev gl_expression (P : Params) : List (PySem.Str × Value) := [("Level", .ref 232), ("functions", .ref 52), ("take_operand", .ref 271), ("take_operator", .ref 278), ("finished", .ref 250)]
noncomputable abbrev fs_expression (c : Cx) : FS := FSof ["tokens", "at"] ["levels", "due", "known", "is_whole"] (gl_expression c.w.params)
theorem at_expression (G : Pg c) : FnAt c 285 (fdAt (KK c.w.params) 285) ["tokens", "at"] ["levels", "due", "known", "is_whole"] (gl_expression c.w.params) (bodyAt (KK c.w.params) 285) :=
  FnAt.pg G (gl := gl_expression) (fun P => by kernel_rfl) (fun P vs h => match vs, h with | [_, _], _ => by kernel_rfl)
noncomputable abbrev gl_quoted (P : Params) : List (PySem.Str × Value) := []
noncomputable abbrev fs_quoted (c : Cx) : FS := FSof ["text"] [] (gl_quoted c.w.params)
theorem at_quoted (G : Pg c) : FnAt c 292 (fdAt (KK c.w.params) 292) ["text"] [] (gl_quoted c.w.params) (bodyAt (KK c.w.params) 292) :=
  FnAt.pg G (gl := gl_quoted) (fun P => by kernel_rfl) (fun P vs h => match vs, h with | [_], _ => by kernel_rfl)
noncomputable abbrev gl_decimal_text (P : Params) : List (PySem.Str × Value) := [("str", .type "str")]
noncomputable abbrev fs_decimal_text (c : Cx) : FS := FSof ["value"] ["coefficient", "exponent"] (gl_decimal_text c.w.params)
theorem at_decimal_text (G : Pg c) : FnAt c 299 (fdAt (KK c.w.params) 299) ["value"] ["coefficient", "exponent"] (gl_decimal_text c.w.params) (bodyAt (KK c.w.params) 299) :=
  FnAt.pg G (gl := gl_decimal_text) (fun P => by kernel_rfl) (fun P vs h => match vs, h with | [_], _ => by kernel_rfl)
noncomputable abbrev gl_leaf_text (P : Params) : List (PySem.Str × Value) := [("quoted", .ref 292), ("decimal_text", .ref 299), ("str", .type "str")]
noncomputable abbrev fs_leaf_text (c : Cx) : FS := FSof ["tree"] [] (gl_leaf_text c.w.params)
theorem at_leaf_text (G : Pg c) : FnAt c 306 (fdAt (KK c.w.params) 306) ["tree"] [] (gl_leaf_text c.w.params) (bodyAt (KK c.w.params) 306) :=
  FnAt.pg G (gl := gl_leaf_text) (fun P => by kernel_rfl) (fun P vs h => match vs, h with | [_], _ => by kernel_rfl)
noncomputable abbrev gl_parts_of_tree (P : Params) : List (PySem.Str × Value) := []
noncomputable abbrev fs_parts_of_tree (c : Cx) : FS := FSof ["tree"] [] (gl_parts_of_tree c.w.params)
theorem at_parts_of_tree (G : Pg c) : FnAt c 313 (fdAt (KK c.w.params) 313) ["tree"] [] (gl_parts_of_tree c.w.params) (bodyAt (KK c.w.params) 313) :=
  FnAt.pg G (gl := gl_parts_of_tree) (fun P => by kernel_rfl) (fun P vs h => match vs, h with | [_], _ => by kernel_rfl)
noncomputable abbrev gl_shown_part (P : Params) : List (PySem.Str × Value) := [("len", .builtin "len"), ("leaf_text", .ref 306)]
noncomputable abbrev fs_shown_part (c : Cx) : FS := FSof ["tree", "texts"] ["kind"] (gl_shown_part c.w.params)
theorem at_shown_part (G : Pg c) : FnAt c 320 (fdAt (KK c.w.params) 320) ["tree", "texts"] ["kind"] (gl_shown_part c.w.params) (bodyAt (KK c.w.params) 320) :=
  FnAt.pg G (gl := gl_shown_part) (fun P => by kernel_rfl) (fun P vs h => match vs, h with | [_, _], _ => by kernel_rfl)
noncomputable abbrev gl_shown_tree (P : Params) : List (PySem.Str × Value) := [("len", .builtin "len"), ("parts_of_tree", .ref 313), ("shown_part", .ref 320), ("reversed", .type "reversed")]
noncomputable abbrev fs_shown_tree (c : Cx) : FS := FSof ["tree"] ["waiting", "texts", "here", "is_ready", "parts", "begin"] (gl_shown_tree c.w.params)
theorem at_shown_tree (G : Pg c) : FnAt c 325 (fdAt (KK c.w.params) 325) ["tree"] ["waiting", "texts", "here", "is_ready", "parts", "begin"] (gl_shown_tree c.w.params) (bodyAt (KK c.w.params) 325) :=
  FnAt.pg G (gl := gl_shown_tree) (fun P => by kernel_rfl) (fun P vs h => match vs, h with | [_], _ => by kernel_rfl)
noncomputable abbrev gl__law_dealt (P : Params) : List (PySem.Str × Value) := [("len", .builtin "len")]
noncomputable abbrev fs__law_dealt (c : Cx) : FS := FSof ["hand", "many"] [] (gl__law_dealt c.w.params)
theorem at__law_dealt (G : Pg c) : FnAt c 332 (fdAt (KK c.w.params) 332) ["hand", "many"] [] (gl__law_dealt c.w.params) (bodyAt (KK c.w.params) 332) :=
  FnAt.pg G (gl := gl__law_dealt) (fun P => by kernel_rfl) (fun P vs h => match vs, h with | [_, _], _ => by kernel_rfl)
noncomputable abbrev gl__law_leaf (P : Params) : List (PySem.Str × Value) := [("_law_dealt", .ref 332)]
noncomputable abbrev fs__law_leaf (c : Cx) : FS := FSof ["hand"] ["form"] (gl__law_leaf c.w.params)
theorem at__law_leaf (G : Pg c) : FnAt c 339 (fdAt (KK c.w.params) 339) ["hand"] ["form"] (gl__law_leaf c.w.params) (bodyAt (KK c.w.params) 339) :=
  FnAt.pg G (gl := gl__law_leaf) (fun P => by kernel_rfl) (fun P vs h => match vs, h with | [_], _ => by kernel_rfl)
noncomputable abbrev gl__law_grown (P : Params) : List (PySem.Str × Value) := [("_law_dealt", .ref 332), ("_law_leaf", .ref 339), ("_law_grown", .ref 344), ("range", .type "range")]
noncomputable abbrev gl__law_is_back (P : Params) : List (PySem.Str × Value) := [("shown_tree", .ref 325), ("tokens_of", .ref 162), ("expression", .ref 285), ("len", .builtin "len")]
noncomputable abbrev fs__law_is_back (c : Cx) : FS := FSof ["tree"] ["text", "tokens", "found", "end"] (gl__law_is_back c.w.params)
theorem at__law_is_back (G : Pg c) : FnAt c 351 (fdAt (KK c.w.params) 351) ["tree"] ["text", "tokens", "found", "end"] (gl__law_is_back c.w.params) (bodyAt (KK c.w.params) 351) :=
  FnAt.pg G (gl := gl__law_is_back) (fun P => by kernel_rfl) (fun P vs h => match vs, h with | [_], _ => by kernel_rfl)
noncomputable abbrev gl__law_number_right (P : Params) : List (PySem.Str × Value) := [("_law_dealt", .ref 332), ("len", .builtin "len"), ("expression", .ref 285), ("tokens_of", .ref 162), ("max", .builtin "max")]
noncomputable abbrev fs__law_number_right (c : Cx) : FS := FSof ["hand"] ["front", "behind", "power", "found", "end", "size", "figure", "places"] (gl__law_number_right c.w.params)
theorem at__law_number_right (G : Pg c) : FnAt c 358 (fdAt (KK c.w.params) 358) ["hand"] ["front", "behind", "power", "found", "end", "size", "figure", "places"] (gl__law_number_right c.w.params) (bodyAt (KK c.w.params) 358) :=
  FnAt.pg G (gl := gl__law_number_right) (fun P => by kernel_rfl) (fun P vs h => match vs, h with | [_], _ => by kernel_rfl)
noncomputable abbrev gl_law (P : Params) : List (PySem.Str × Value) := [("_law_is_back", .ref 351), ("_law_grown", .ref 344), ("range", .type "range"), ("_law_dealt", .ref 332), ("_law_number_right", .ref 358)]
noncomputable abbrev fs_law (c : Cx) : FS := FSof ["script"] ["hand", "row", "turn"] (gl_law c.w.params)
theorem at_law (G : Pg c) : FnAt c 363 (fdAt (KK c.w.params) 363) ["script"] ["hand", "row", "turn"] (gl_law c.w.params) (bodyAt (KK c.w.params) 363) :=
  FnAt.pg G (gl := gl_law) (fun P => by kernel_rfl) (fun P vs h => match vs, h with | [_], _ => by kernel_rfl)
end
-- text P3
section
variable {c : Cx}
theorem Callee.pg (G : Pg c) {a : Addr} (h : ∀ P, keepIn (KK P) (.ref a) = true) : Callee c (.ref a) := Callee.fn (by rw [G.K]; exact h _)
theorem mem0 {α : Type} {a : α} {l : List α} : a ∈ a :: l := List.Mem.head _
theorem mem1 {α : Type} {a b : α} {l : List α} (h : a ∈ l) : a ∈ b :: l := List.Mem.tail _ h
theorem Upd.hereE {x : PySem.Str} {o : Option PV} {r : Loc} {v v' : PV} (h : v = v') : Upd ((x, o) :: r) x v ((x, some v') :: r) := h ▸ Upd.here
theorem GVal.int {i : Int} {t : Tok} : GVal c (.int i t) (.int i) := ⟨fun _ _ _ => ⟨t, rfl⟩⟩
theorem GVal.nat {i : Int} {t : Tok} {m : Nat} (h : i = (m : Int)) : GVal c (.int i t) (.int m) := h ▸ GVal.int
section
variable {F : FS} {n : Nat} {ρ : Loc} {mu mu₁ mu₂ mu₃ : Mem} {pos : Pos} {e : Expr} {v : PV} {a b k : Nat} {x : List Nat} {ps : List PV}
theorem Ev.intN {i : Int} {j m : Nat} (h : i = (m : Int)) : Ev c F n ρ mu (.Constant (.int i) j pos) (.int m) mu := h ▸ Ev.int
theorem Op2.addN : Op2 c n mu (binaryOp .Add) (.int a) (.int b) (.int (a + b : Nat)) mu := Op2.addI
theorem Op2.iaddN : Op2 c n mu (inplaceOp .Add) (.int a) (.int b) (.int (a + b : Nat)) mu := Op2.iaddI
theorem Op2.mulN (h : IntMulOk a b) : Op2 c n mu (binaryOp .Mult) (.int a) (.int b) (.int (a * b : Nat)) mu := Op2.mulI h
theorem Op2.ltN : Op2 c n mu (compareOp .Lt) (.int a) (.int b) (.bool (decide (a < b))) mu := by
  have := Op2.ltI (c := c) (n := n) (mu := mu) (a := a) (b := b)
  rwa [show decide ((a : Int) < (b : Int)) = decide (a < b) from by simp] at this
theorem Op2.leN : Op2 c n mu (compareOp .LtE) (.int a) (.int b) (.bool (decide (a ≤ b))) mu := by
  have := Op2.leI (c := c) (n := n) (mu := mu) (a := a) (b := b)
  rwa [show decide ((a : Int) ≤ (b : Int)) = decide (a ≤ b) from by simp] at this
theorem Op2.gtN : Op2 c n mu (compareOp .Gt) (.int a) (.int b) (.bool (decide (b < a))) mu := by
  have := Op2.gtI (c := c) (n := n) (mu := mu) (a := a) (b := b)
  rwa [show decide ((b : Int) < (a : Int)) = decide (b < a) from by simp] at this
theorem Op2.geN : Op2 c n mu (compareOp .GtE) (.int a) (.int b) (.bool (decide (b ≤ a))) mu := by
  have := Op2.geI (c := c) (n := n) (mu := mu) (a := a) (b := b)
  rwa [show decide ((b : Int) ≤ (a : Int)) = decide (b ≤ a) from by simp] at this
theorem Op2.eqN : Op2 c n mu (compareOp .Eq) (.int a) (.int b) (.bool (decide (a = b))) mu := by
  have := Op2.eqI (c := c) (n := n) (mu := mu) (a := a) (b := b)
  rwa [show decide ((a : Int) = (b : Int)) = decide (a = b) from by rw [decide_eq_decide]; omega] at this
theorem Op2.idxSN {vl sl : Expr} (h : x[a]? = some k) (hz : x.length ≤ sizeLine) : Op2 c n mu (subscriptTail vl sl) (.str x) (.int a) (.str [k]) mu := Op2.idxS (Int.natCast_nonneg a) h hz
theorem Op2.idxTN {vl sl : Expr} (h : ps[a]? = some v) (hz : a < 2 ^ 40) : Op2 c n mu (subscriptTail vl sl) (.tup ps) (.int a) v mu := Op2.idxT (Int.natCast_nonneg a) h (by omega)
theorem Op2.idxLN {vl sl : Expr} (h : ps[a]? = some v) (hz : a < 2 ^ 40) : Op2 c n mu (subscriptTail vl sl) (.lst ps) (.int a) v mu := Op2.idxL (Int.natCast_nonneg a) h (by omega)
theorem Op2.idxCN {vl sl : Expr} (hk : mu[k]? = some (.list ps)) (h : ps[a]? = some v) (hz : a < 2 ^ 40) : Op2 c n mu (subscriptTail vl sl) (.cell k) (.int a) v mu := Op2.idxC hk (Int.natCast_nonneg a) h (by omega)
theorem Ev.slNN {ea eb : Expr} {sp : Pos} (hv : Ev c F n ρ mu e (.str x) mu₁) (ha : Ev c F n ρ mu₁ ea (.int a) mu₂) (hb : Ev c F n ρ mu₂ eb (.int b) mu₃) (h1 : a ≤ b) (hz : x.length ≤ sizeLine)
    (ht : ∀ o r, letTemporaryGo e o r = pure () := by intro _ _; rfl) : Ev c F n ρ mu (.Subscript e (.Slice (some ea) (some eb) Option.none sp) pos) (.str ((x.drop a).take (b - a))) mu₃ :=
  Ev.slSS hv ha hb (Int.natCast_nonneg a) (by omega) hz ht
theorem Ev.slN_ {ea : Expr} {sp : Pos} (hv : Ev c F n ρ mu e (.str x) mu₁) (ha : Ev c F n ρ mu₁ ea (.int a) mu₂) (hz : x.length ≤ sizeLine)
    (ht : ∀ o r, letTemporaryGo e o r = pure () := by intro _ _; rfl) : Ev c F n ρ mu (.Subscript e (.Slice (some ea) Option.none Option.none sp) pos) (.str (x.drop a)) mu₂ :=
  Ev.slS_ hv ha (Int.natCast_nonneg a) hz ht
theorem Ev.sl_N {eb : Expr} {sp : Pos} (hv : Ev c F n ρ mu e (.str x) mu₁) (hb : Ev c F n ρ mu₁ eb (.int b) mu₂) (hz : x.length ≤ sizeLine)
    (ht : ∀ o r, letTemporaryGo e o r = pure () := by intro _ _; rfl) : Ev c F n ρ mu (.Subscript e (.Slice Option.none (some eb) Option.none sp) pos) (.str (x.take b)) mu₂ :=
  Ev.sl_S hv hb (Int.natCast_nonneg b) hz ht
end
end
local macro_rules | `(tactic| walk_at "mem") => `(tactic| (with_reducible first | exact mem0 | ((show _ ∈ _ :: _); exact mem1 (by walk_at "mem"))))
section
variable {c : Cx}
end
local macro_rules | `(tactic| walk_at "upd") => `(tactic| (with_reducible first | exact Upd.here | exact Upd.hereE (by with_unfolding_all rfl) | ((show Upd (_ :: _) _ _ _); exact Upd.there (by walk_at "upd"))))
section
variable {c : Cx}
end
local macro_rules | `(tactic| walk_at "side") => `(tactic| first | omega | (with_reducible assumption) | (rw [PySem.sizeLine_eq]; omega) | decide | (with_unfolding_all rfl))
section
variable {c : Cx}
end
local macro_rules | `(tactic| walk_at "gval") => `(tactic| ((with_reducible show GVal _ (.int _ _) _); first | exact GVal.nat (m := 6) rfl | exact GVal.nat (m := 12) rfl | exact GVal.nat (m := 40) rfl | exact GVal.nat (m := 60) rfl | exact GVal.nat (m := 99) rfl | exact GVal.nat (m := 255) rfl | exact GVal.nat (m := 999) rfl))
section
variable {c : Cx}
end
local macro_rules | `(tactic| walk_at "op") => `(tactic| first
  | ((with_reducible show Op2 _ _ _ (binaryOp .Add) (.int (Nat.cast _)) (.int (Nat.cast _)) _ _); exact Op2.addN)
  | ((with_reducible show Op2 _ _ _ (inplaceOp .Add) (.int (Nat.cast _)) (.int (Nat.cast _)) _ _); exact Op2.iaddN)
  | ((with_reducible show Op2 _ _ _ (binaryOp .Mult) (.int (Nat.cast _)) (.int (Nat.cast _)) _ _); exact Op2.mulN (IntMulOk.of_right (by decide)))
  | ((with_reducible show Op2 _ _ _ (compareOp .LtE) (.int (Nat.cast _)) (.int (Nat.cast _)) _ _); exact Op2.leN)
  | ((with_reducible show Op2 _ _ _ (compareOp .Lt) (.int (Nat.cast _)) (.int (Nat.cast _)) _ _); exact Op2.ltN)
  | ((with_reducible show Op2 _ _ _ (compareOp .GtE) (.int (Nat.cast _)) (.int (Nat.cast _)) _ _); exact Op2.geN)
  | ((with_reducible show Op2 _ _ _ (compareOp .Gt) (.int (Nat.cast _)) (.int (Nat.cast _)) _ _); exact Op2.gtN)
  | ((with_reducible show Op2 _ _ _ (compareOp .Eq) (.int (Nat.cast _)) (.int (Nat.cast _)) _ _); exact Op2.eqN)
  | ((with_reducible show Op2 _ _ _ (binaryOp .Add) (.int _) (.int _) _ _); exact Op2.addI)
  | ((with_reducible show Op2 _ _ _ (binaryOp .Sub) (.int _) (.int _) _ _); exact Op2.subI)
  | ((with_reducible show Op2 _ _ _ (inplaceOp .Add) (.int _) (.int _) _ _); exact Op2.iaddI)
  | ((with_reducible show Op2 _ _ _ (compareOp .LtE) (.int _) (.int _) _ _); exact Op2.leI)
  | ((with_reducible show Op2 _ _ _ (compareOp .Lt) (.int _) (.int _) _ _); exact Op2.ltI)
  | ((with_reducible show Op2 _ _ _ (compareOp .GtE) (.int _) (.int _) _ _); exact Op2.geI)
  | ((with_reducible show Op2 _ _ _ (compareOp .Gt) (.int _) (.int _) _ _); exact Op2.gtI)
  | ((with_reducible show Op2 _ _ _ (compareOp .Eq) (.int _) (.int _) _ _); exact Op2.eqI)
  | ((with_reducible show Op2 _ _ _ (compareOp .NotEq) (.int _) (.int _) _ _); exact Op2.neI)
  | ((with_reducible show Op2 _ _ _ (compareOp .Eq) (.str _) (.str _) _ _); exact Op2.eqS)
  | ((with_reducible show Op2 _ _ _ (compareOp .NotEq) (.str _) (.str _) _ _); exact Op2.neS)
  | ((with_reducible show Op2 _ _ _ (compareOp .LtE) (.str _) (.str _) _ _); exact Op2.leS)
  | ((with_reducible show Op2 _ _ _ (inplaceOp .Mult) (.int _) (.int _) _ _); exact Op2.imulI (IntMulOk.of_right (by decide)))
  | ((with_reducible show Op2 _ _ _ (binaryOp .Mult) (.int _) (.int _) _ _); exact Op2.mulI (IntMulOk.of_right (by decide)))
  | ((with_reducible show Op2 _ _ _ (binaryOp .Add) (.str _) (.str _) _ _); exact Op2.addS (by walk_at "side"))
  | ((with_reducible show Op2 _ _ _ (compareOp .In) (.str [_]) (.str _) _ _); exact Op2.inS)
  | ((with_reducible show Op2 _ _ _ (compareOp .In) (.str _) (.tup _) _ _); exact Op2.inT)
  | ((with_reducible show Op2 _ _ _ (compareOp .NotIn) (.str _) (.tup _) _ _); exact Op2.notInT))
section
variable {c : Cx}
end
local macro_rules | `(tactic| walk_at "get") => `(tactic| ((with_reducible show getElem? _ _ = some _); first | assumption | rfl))
section
variable {c : Cx}
end
local macro_rules | `(tactic| walk_at "idx") => `(tactic| first
  | ((with_reducible show Op2 _ _ _ _ (.str _) (.int (Nat.cast _)) _ _); exact Op2.idxSN (by walk_at "get") (by walk_at "side"))
  | ((with_reducible show Op2 _ _ _ _ (.tup _) (.int (Nat.cast _)) _ _); exact Op2.idxTN (by walk_at "get") (by walk_at "side"))
  | ((with_reducible show Op2 _ _ _ _ (.lst _) (.int (Nat.cast _)) _ _); exact Op2.idxLN (by walk_at "get") (by walk_at "side"))
  | ((with_reducible show Op2 _ _ _ _ (.cell _) (.int (Nat.cast _)) _ _); exact Op2.idxCN (by walk_at "get") (by walk_at "get") (by walk_at "side"))
  | ((with_reducible show Op2 _ _ _ _ (.str _) _ _ _); exact Op2.idxS (by walk_at "side") (by walk_at "get") (by walk_at "side"))
  | ((with_reducible show Op2 _ _ _ _ (.tup _) _ _ _); exact Op2.idxT (by walk_at "side") (by walk_at "get") (by walk_at "side"))
  | ((with_reducible show Op2 _ _ _ _ (.lst _) _ _ _); exact Op2.idxL (by walk_at "side") (by walk_at "get") (by walk_at "side"))
  | ((with_reducible show Op2 _ _ _ _ (.cell _) _ _ _); exact Op2.idxC (by walk_at "get") (by walk_at "side") (by walk_at "get") (by walk_at "side")))
section
variable {c : Cx}
end
local macro_rules | `(tactic| walk_at "evl") => `(tactic| first
  | ((with_reducible show EvL _ _ _ _ _ [] _ _); exact EvL.nil) | ((with_reducible show EvL _ _ _ _ _ (_ :: _) _ _); exact EvL.cons (by walk_at "ev") (by walk_at "evl")))
section
variable {c : Cx}
end
local macro_rules | `(tactic| walk_at "opn") => `(tactic| ((with_reducible show OpN _ _ _ (fun vs => call (.builtin "len") vs) [.str _] _ _); exact lenS (by walk_at "side")))
section
variable {c : Cx}
end
local macro_rules | `(tactic| walk_at "callee") => `(tactic| first | with_reducible exact Callee.builtin | with_reducible exact Callee.type | ((with_reducible show Callee _ (.ref _)); exact Callee.pg (by assumption) (fun P => by kernel_rfl)))
section
variable {c : Cx}
end
local macro_rules | `(tactic| walk_at "name") => `(tactic| first
  | exact Ev.loc (by walk_at "mem")
  | exact Ev.glbV (Pg.ok (by assumption)) (by walk_at "mem") (by walk_at "gval")
  | exact Ev.glb (Pg.ok (by assumption)) (by walk_at "mem"))
section
variable {c : Cx}
end
local macro_rules | `(tactic| walk_at "num") => `(tactic| ((with_reducible show Ev _ _ _ _ _ (.Constant (.int _) _ _) _ _); first | exact Ev.intN (m := 0) rfl | exact Ev.intN (m := 1) rfl | exact Ev.intN (m := 2) rfl | exact Ev.intN (m := 3) rfl | exact Ev.intN (m := 4) rfl | exact Ev.intN (m := 5) rfl | exact Ev.intN (m := 6) rfl | exact Ev.intN (m := 7) rfl | exact Ev.intN (m := 10) rfl | exact Ev.intN (m := 12) rfl | exact Ev.intN (m := 18) rfl | exact Ev.intN (m := 21) rfl | exact Ev.intN (m := 25) rfl | exact Ev.intN (m := 30) rfl | exact Ev.intN (m := 32) rfl | exact Ev.intN (m := 40) rfl | exact Ev.intN (m := 48) rfl | exact Ev.intN (m := 60) rfl | exact Ev.intN (m := 99) rfl | exact Ev.intN (m := 999) rfl | exact Ev.intN (m := 32767) rfl | exact Ev.intN (m := 40000) rfl))
section
variable {c : Cx}
end
local macro_rules | `(tactic| walk_at "ev") => `(tactic| first
  | ((with_reducible show Ev _ _ _ _ _ (.Name _ _) _ _); walk_at "name")
  | ((with_reducible show Ev _ _ _ _ _ (.Constant _ _ _) _ _); first | walk_at "num" | exact Ev.int | exact Ev.str | exact Ev.bool | exact Ev.none)
  | ((with_reducible show Ev _ _ _ _ _ (.BinOp _ _ _ _) _ _); exact Ev.bin (by walk_at "ev") (by walk_at "ev") (by walk_at "op"))
  | ((with_reducible show Ev _ _ _ _ _ (.Compare _ [_] _ _) _ _); exact Ev.cmp (by walk_at "ev") (by walk_at "ev") (by walk_at "op"))
  | ((with_reducible show Ev _ _ _ _ _ (.Compare _ [_, _] _ _) _ _); exact Ev.chain (by walk_at "ev") (by walk_at "ev") (by walk_at "op") (by walk_at "ev") (by walk_at "op"))
  | ((with_reducible show Ev _ _ _ _ _ (.Subscript _ (.Name _ _) _) _ _); exact Ev.sub (by walk_at "ev") (by walk_at "ev") (by walk_at "idx"))
  | ((with_reducible show Ev _ _ _ _ _ (.Subscript _ (.Constant _ _ _) _) _ _); exact Ev.sub (by walk_at "ev") (by walk_at "ev") (by walk_at "idx"))
  | ((with_reducible show Ev _ _ _ _ _ (.Subscript _ (.BinOp _ _ _ _) _) _ _); exact Ev.sub (by walk_at "ev") (by walk_at "ev") (by walk_at "idx"))
  | ((with_reducible show Ev _ _ _ _ _ (.Subscript _ (.Slice (some _) (some _) Option.none _) _) _ _); exact Ev.slNN (by walk_at "ev") (by walk_at "ev") (by walk_at "ev") (by walk_at "side") (by walk_at "side"))
  | ((with_reducible show Ev _ _ _ _ _ (.Tuple _ _ _) _ _); exact Ev.tup (by walk_at "evl"))
  | ((with_reducible show Ev _ _ _ _ _ (.Call (.Name _ _) _ _ _) _ _); exact Ev.fcall (Pg.ok (by assumption)) (Ev.glb (Pg.ok (by assumption)) (by walk_at "mem")) (by walk_at "callee") (by walk_at "evl") (by walk_at "opn")))
section
variable {c : Cx}
end
local macro_rules | `(tactic| walk_at "ts") => `(tactic| first
  | ((with_reducible show Ts _ _ _ _ _ (.Compare _ [_] _ _) _ _); exact Ts.cmp (by walk_at "ev") (by walk_at "ev") (by walk_at "op"))
  | ((with_reducible show Ts _ _ _ _ _ (.Call _ _ _ _) _ _); exact Ts.of (by walk_at "ev") OpB.bool))
section
variable {c : Cx}
end
local macro_rules | `(tactic| walk_at "st") => `(tactic| first
  | ((with_reducible show Ex _ _ _ _ _ (.Assign [.Name _ _] _ _) _); exact Ex.asg (by walk_at "ev") (by walk_at "upd"))
  | ((with_reducible show Ex _ _ _ _ _ (.AugAssign _ _ _ _) _); exact Ex.aug (by walk_at "mem") (by walk_at "ev") (by walk_at "op") (by walk_at "upd"))
  | ((with_reducible show Ex _ _ _ _ _ (.Return (some _) _) _); exact Ex.ret (by walk_at "ev")))
section
variable {c : Cx}
end
-- text P5
section
variable {c : Cx}
theorem drop_get {row : List Nat} {i k : Nat} (h : row[i]? = some k) : row.drop i = k :: row.drop (i + 1) := by
  have hi : i < row.length := by
    by_cases q : i < row.length
    · exact q
    · rw [List.getElem?_eq_none (by omega)] at h; cases h
  rw [List.drop_eq_getElem_cons hi]
  rw [List.getElem?_eq_getElem hi] at h
  cases h; rfl
theorem get_lt {row : List Nat} {i : Nat} (h : i < row.length) : ∃ k, row[i]? = some k := ⟨_, List.getElem?_eq_getElem h⟩
structure Wf (mu : Mem) : Prop where
  ok : memBelow mu.length mu = true
theorem memBelow_take {k : Nat} : ∀ {mu nu : Mem}, memBelow k (mu ++ nu) = (memBelow k mu && memBelow k nu)
  | [], _ => rfl
  | x :: mu, nu => by show (x.under k && memBelow k (mu ++ nu)) = _; rw [memBelow_take, ← Bool.and_assoc]; rfl
theorem Fn.junk {n : Nat} {fa : Addr} {fd : FuncData} {ps rest : List PySem.Str} {gl : List (PySem.Str × Value)} {body : List Stmt} {args : List PV} {mu nu : Mem} {v : PV} (ρ : Loc) (C : c.Ok) (I : FnAt c fa fd ps rest gl body) (W : Wf mu)
    (hb : Exs c (FSof ps rest gl) n ρ mu body (.ret v (mu ++ nu))) (hv : v.under mu.length = true := by rfl) (hl : args.length = ps.length := by rfl) (hρ : start ps rest args = ρ := by rfl) : Fn c (n + 1) (.ref fa) args mu v mu :=
  Fn.of C I (muB := mu ++ nu) (hρ ▸ hb) hl (by simp) (Nat.le_refl _) (by unfold memNarrow; rw [hv, List.take_left, W.ok]; rfl)
theorem Fn.pure {n : Nat} {fa : Addr} {fd : FuncData} {ps rest : List PySem.Str} {gl : List (PySem.Str × Value)} {body : List Stmt} {args : List PV} {mu : Mem} {v : PV} (ρ : Loc) (C : c.Ok) (I : FnAt c fa fd ps rest gl body) (W : Wf mu)
    (hb : Exs c (FSof ps rest gl) n ρ mu body (.ret v mu)) (hv : v.under mu.length = true := by rfl) (hl : args.length = ps.length := by rfl) (hρ : start ps rest args = ρ := by rfl) : Fn c (n + 1) (.ref fa) args mu v mu :=
  Fn.junk (nu := []) ρ C I W (by rw [List.append_nil]; exact hb) hv hl hρ
noncomputable def figB (x : List Nat) : Bool := !decide (x < T "0") && !decide (T "9" < x)
noncomputable def letB (x : List Nat) : Bool := (!decide (x < T "A") && !decide (T "Z" < x)) || (!decide (x < T "a") && !decide (T "z" < x))
theorem is_figure_ok (G : Pg c) {x : List Nat} {mu : Mem} (W : Wf mu) : Fn c 1 (.ref 73) [.str x] mu (.bool (figB x)) mu :=
  Fn.pure [("sign", some (.str x))] G.ok (at_is_figure G) W (Exs.ret (Ex.ret (Ev.chain (by walk_at "ev") (by walk_at "ev") (by walk_at "op") (by walk_at "ev") (by walk_at "op"))))
theorem is_letter_ok (G : Pg c) {x : List Nat} {mu : Mem} (W : Wf mu) : Fn c 1 (.ref 66) [.str x] mu (.bool (letB x)) mu :=
  Fn.pure [("sign", some (.str x))] G.ok (at_is_letter G) W (Exs.ret (Ex.ret (Ev.boolop (EvB.or (Ev.chain (by walk_at "ev") (by walk_at "ev") (by walk_at "op") (by walk_at "ev") (by walk_at "op"))
    (fun _ => EvB.one (Ev.chain (by walk_at "ev") (by walk_at "ev") (by walk_at "op") (by walk_at "ev") (by walk_at "op")))))))
end
local macro_rules | `(tactic| walk_at "opn") => `(tactic| first
  | ((with_reducible show OpN _ _ _ (fun vs => call (.ref 73) vs) _ _ _); exact Fn.op (is_figure_ok (by assumption) (by assumption)))
  | ((with_reducible show OpN _ _ _ (fun vs => call (.ref 66) vs) _ _ _); exact Fn.op (is_letter_ok (by assumption) (by assumption))))
section
variable {c : Cx}
noncomputable def nfig : List Nat → Nat
  | [] => 0
  | k :: r => if figB [k] then nfig r + 1 else 0
theorem figures_end_ok (G : Pg c) {row : List Nat} {at_ : Nat} {mu : Mem} (W : Wf mu) (hz : row.length < 10000) : Fn c 3 (.ref 85) [.str row, .int at_] mu (.int ((at_ + nfig (row.drop at_) : Nat))) mu := by
  refine Fn.pure [("row", some (.str row)), ("at", some (.int at_))] G.ok (at_figures_end G) W ?_
  refine Exs.cons (ρ₁ := [("row", some (.str row)), ("at", some (.int ((at_ + nfig (row.drop at_) : Nat))))]) (mu₁ := mu) (Ex.whl ?_) (Exs.ret (Ex.ret (by walk_at "ev")))
  induction hm : row.length - at_ generalizing at_ with
  | zero =>
    have hd : row.drop at_ = [] := List.drop_eq_nil_of_le (by omega)
    rw [hd]
    refine Wh.stop (Ts.boolop (TsAll.andF ?_))
    have e : decide (at_ < row.length) = false := decide_eq_false (by omega)
    rw [← e]
    walk_at "ts"
  | succ m ih =>
    have hlt : at_ < row.length := by omega
    obtain ⟨k, hk⟩ := get_lt hlt
    rw [drop_get hk]
    have e : decide (at_ < row.length) = true := decide_eq_true (by omega)
    cases hf : figB [k] with
    | false =>
      have hn : nfig (k :: row.drop (at_ + 1)) = 0 := by unfold nfig; rw [hf]; rfl
      rw [hn]
      refine Wh.stop (Ts.boolop ?_)
      rw [show false = (decide (at_ < row.length) && figB [k]) by rw [hf, Bool.and_false]]
      exact TsAll.and (by walk_at "ts") (fun _ => by rw [← Bool.and_true (figB [k])]; exact TsAll.and (by walk_at "ts") (fun _ => TsAll.andNil))
    | true =>
      have hn : at_ + nfig (k :: row.drop (at_ + 1)) = (at_ + 1) + nfig (row.drop (at_ + 1)) := by rw [nfig, hf]; simp; omega
      rw [hn]
      refine Wh.turn (mu₁ := mu) (Ts.boolop ?_) (Exs.cons (by walk_at "st") Exs.nil) (ih (at_ := at_ + 1) (by omega))
      rw [show true = (decide (at_ < row.length) && figB [k]) by rw [hf, e]; rfl]
      exact TsAll.and (by walk_at "ts") (fun _ => by rw [← Bool.and_true (figB [k])]; exact TsAll.and (by walk_at "ts") (fun _ => TsAll.andNil))
end
-- text P6
section
variable {c : Cx} {F : FS} {n : Nat} {ρ ρ₁ ρ₂ : Loc} {mu mu₁ mu₂ mu₃ : Mem} {pos : Pos} {e e₁ e₂ e₃ : Expr} {v w : PV} {out : Out}
theorem Ts.eq {t u : Bool} (h : Ts c F n ρ mu e t mu₁) (q : t = u) : Ts c F n ρ mu e u mu₁ := q ▸ h
theorem Ev.eq (h : Ev c F n ρ mu e v mu₁) (q : v = w) : Ev c F n ρ mu e w mu₁ := q ▸ h
theorem Exs.ifT {b els sts : List Stmt} (h : Ts c F n ρ mu e true mu₁) (k : Exs c F n ρ mu₁ b (.ret v mu₂)) : Exs c F n ρ mu (.If e b els pos :: sts) (.ret v mu₂) := Exs.ret (Ex.ite h (fun _ => k) (fun q => by cases q))
theorem Exs.ifF {b sts : List Stmt} (h : Ts c F n ρ mu e false mu₁) (k : Exs c F n ρ mu₁ sts out) : Exs c F n ρ mu (.If e b [] pos :: sts) out := Exs.cons (Ex.ite h (fun q => by cases q) (fun _ => Exs.nil)) k
theorem Exs.ifN {b els sts : List Stmt} (h : Ts c F n ρ mu e true mu₁) (k : Exs c F n ρ mu₁ b (.next ρ₁ mu₂)) (r : Exs c F n ρ₁ mu₂ sts out) : Exs c F n ρ mu (.If e b els pos :: sts) out := Exs.cons (Ex.ite h (fun _ => k) (fun q => by cases q)) r
theorem Exs.ifM {b els sts : List Stmt} (h : Ts c F n ρ mu e false mu₁) (k : Exs c F n ρ mu₁ els (.next ρ₁ mu₂)) (r : Exs c F n ρ₁ mu₂ sts out) : Exs c F n ρ mu (.If e b els pos :: sts) out := Exs.cons (Ex.ite h (fun q => by cases q) (fun _ => k)) r
theorem Ts.and2 {t u : Bool} (h : Ts c F n ρ mu e₁ t mu) (k : t = true → Ts c F n ρ mu e₂ u mu) : Ts c F n ρ mu (.BoolOp .And [e₁, e₂] pos) (t && u) mu :=
  Ts.boolop (TsAll.and h fun q => by have := TsAll.and (k q) (fun _ => TsAll.andNil); rwa [Bool.and_true] at this)
theorem Ts.or2 {t u : Bool} (h : Ts c F n ρ mu e₁ t mu) (k : t = false → Ts c F n ρ mu e₂ u mu) : Ts c F n ρ mu (.BoolOp .Or [e₁, e₂] pos) (t || u) mu :=
  Ts.boolop (TsAll.or h fun q => by have := TsAll.or (k q) (fun _ => TsAll.orNil); rwa [Bool.or_false] at this)
theorem Ts.and3 {t u v : Bool} (h : Ts c F n ρ mu e₁ t mu) (k : t = true → Ts c F n ρ mu e₂ u mu) (l : t = true → u = true → Ts c F n ρ mu e₃ v mu) : Ts c F n ρ mu (.BoolOp .And [e₁, e₂, e₃] pos) (t && (u && v)) mu :=
  Ts.boolop (TsAll.and h fun q => TsAll.and (k q) fun q' => by have := TsAll.and (l q q') (fun _ => TsAll.andNil); rwa [Bool.and_true] at this)
theorem Ts.or3 {t u v : Bool} (h : Ts c F n ρ mu e₁ t mu) (k : t = false → Ts c F n ρ mu e₂ u mu) (l : t = false → u = false → Ts c F n ρ mu e₃ v mu) : Ts c F n ρ mu (.BoolOp .Or [e₁, e₂, e₃] pos) (t || (u || v)) mu :=
  Ts.boolop (TsAll.or h fun q => TsAll.or (k q) fun q' => by have := TsAll.or (l q q') (fun _ => TsAll.orNil); rwa [Bool.or_false] at this)
theorem Ev.ifT {a b : Expr} (h : Ts c F n ρ mu e true mu₁) (k : Ev c F n ρ mu₁ a v mu₂) : Ev c F n ρ mu (.IfExp e a b pos) v mu₂ := Ev.ife h (fun _ => k) (fun q => by cases q)
theorem Ev.ifF {a b : Expr} (h : Ts c F n ρ mu e false mu₁) (k : Ev c F n ρ mu₁ b v mu₂) : Ev c F n ρ mu (.IfExp e a b pos) v mu₂ := Ev.ife h (fun q => by cases q) (fun _ => k)
end
local macro_rules | `(tactic| walk_at "ts") => `(tactic| first
  | ((with_reducible show Ts _ _ _ _ _ (.BoolOp .And [_, _] _) _ _); exact Ts.and2 (by walk_at "ts") (fun h => by (try have h := of_decide_eq_true h); walk_at "ts"))
  | ((with_reducible show Ts _ _ _ _ _ (.BoolOp .Or [_, _] _) _ _); exact Ts.or2 (by walk_at "ts") (fun h => by walk_at "ts")))
section
variable {c : Cx} {F : FS} {n : Nat} {ρ ρ₁ ρ₂ : Loc} {mu mu₁ mu₂ mu₃ : Mem} {pos : Pos} {e e₁ e₂ e₃ : Expr} {v w : PV} {out : Out}
noncomputable def nblank : List Nat → Nat
  | [] => 0
  | k :: r => if decide (k ∈ T " \t") then nblank r + 1 else 0
theorem skipped_ok (G : Pg c) {row : List Nat} {at_ : Nat} {mu : Mem} (W : Wf mu) (hz : row.length < 10000) : Fn c 3 (.ref 92) [.str row, .int at_] mu (.int ((at_ + nblank (row.drop at_) : Nat))) mu := by
  refine Fn.pure [("row", some (.str row)), ("at", some (.int at_))] G.ok (at_skipped G) W ?_
  refine Exs.cons (ρ₁ := [("row", some (.str row)), ("at", some (.int ((at_ + nblank (row.drop at_) : Nat))))]) (mu₁ := mu) (Ex.whl ?_) (Exs.ret (Ex.ret (by walk_at "ev")))
  induction hm : row.length - at_ generalizing at_ with
  | zero =>
    have hd : row.drop at_ = [] := List.drop_eq_nil_of_le (by omega)
    rw [hd]
    refine Wh.stop (Ts.boolop (TsAll.andF ?_))
    have e : decide (at_ < row.length) = false := decide_eq_false (by omega)
    rw [← e]
    walk_at "ts"
  | succ m ih =>
    have hlt : at_ < row.length := by omega
    obtain ⟨k, hk⟩ := get_lt hlt
    rw [drop_get hk]
    have e : decide (at_ < row.length) = true := decide_eq_true (by omega)
    cases hf : decide (k ∈ T " \t") with
    | false =>
      have hn : nblank (k :: row.drop (at_ + 1)) = 0 := by unfold nblank; rw [hf]; rfl
      rw [hn]
      exact Wh.stop (Ts.eq (t := decide (at_ < row.length) && decide (k ∈ T " \t")) (by walk_at "ts") (by rw [hf, Bool.and_false]))
    | true =>
      have hn : at_ + nblank (k :: row.drop (at_ + 1)) = (at_ + 1) + nblank (row.drop (at_ + 1)) := by rw [nblank, hf]; simp; omega
      rw [hn]
      exact Wh.turn (mu₁ := mu) (Ts.eq (t := decide (at_ < row.length) && decide (k ∈ T " \t")) (by walk_at "ts") (by rw [hf, e]; rfl)) (Exs.cons (by walk_at "st") Exs.nil) (ih (at_ := at_ + 1) (by omega))
end
-- text P7
section
variable {c : Cx}
theorem Sc.pg (G : Pg c) {F : FS} {scope : Scope} {x : PySem.Str} {gl : Params → List (PySem.Str × Value)} (h : ∀ P, scB (KK P) scope x (gl P) = true) (hf : (scope.names.all fun y => !(y.2 == .free)) = true) : Sc c F ⟨[x], gl c.w.params, []⟩ scope x :=
  Sc.of G.ok (by rw [G.K]; exact h _) hf
/-! joined texts -/
noncomputable def joinL (sep : List Nat) : List (List Nat) → List Nat
  | [] => []
  | [x] => x
  | x :: y :: r => x ++ sep ++ joinL sep (y :: r)
theorem glue_fold (sep : List Nat) : ∀ (ps : List (List Nat)) (acc : Array Nat), ((ps.map S).foldl (fun acc p => acc ++ (S sep).cps ++ p.cps) acc).toList = acc.toList ++ (ps.map (sep ++ ·)).flatten
  | [], acc => by simp
  | p :: ps, acc => by
    rw [List.map_cons, List.foldl_cons, glue_fold sep ps]
    simp
theorem joinL_cons (sep : List Nat) : ∀ (x : List Nat) (ps : List (List Nat)), joinL sep (x :: ps) = x ++ (ps.map (sep ++ ·)).flatten
  | x, [] => by simp [joinL]
  | x, y :: r => by rw [joinL, joinL_cons sep y r]; simp
theorem join_eq (sep : List Nat) (ps : List (List Nat)) : (Txt.join (S sep) (ps.map S)).cps.toList = joinL sep ps := by
  unfold Txt.join Builtin.Str.glued
  cases ps with
  | nil => rfl
  | cons p ps =>
    rw [joinL_cons]
    show ((ps.map S).foldl _ (S p).cps).toList = _
    rw [glue_fold]
theorem join_ok {sep : List Nat} {ps : List (List Nat)} (h : (ps.map fun p => p.length + sep.length).sum < 1000000) : JoinOk (S sep) (ps.map S) = true := by
  unfold JoinOk Builtin.Str.tooLong
  have key : ∀ (ps : List (List Nat)) (a : Nat), (ps.map S).toArray.foldl (fun x y => x + y.length + (S sep).length) a = a + (ps.map fun p => p.length + sep.length).sum := by
    intro ps
    induction ps with
    | nil => intro a; simp
    | cons p ps ih =>
      intro a
      have ih' := ih (a + p.length + sep.length)
      simp only [List.foldl_toArray, List.map_cons, List.foldl_cons, S_len, List.sum_cons] at ih' ⊢
      rw [ih']; omega
  rw [key, Nat.zero_add]
  have : ¬ ((ps.map fun p => p.length + sep.length).sum > sizeLine) := by rw [sizeLine_eq]; omega
  simp [this]
theorem joined {n : Nat} {mu : Mem} {x : List Nat} {ps : List (List Nat)} (h : (ps.map fun p => p.length + x.length).sum < 1000000) : OpN c n mu (fun vs => call (.builtin "str.join") vs) [.str x, .lst (ps.map PV.str)] (.str (joinL x ps)) mu := by
  have := join1 (c := c) (n := n) (mu := mu) (join_ok h)
  rwa [join_eq] at this
theorem set_app0 (mu : Mem) (a b : Cell) (r : Mem) : (mu ++ a :: r).set mu.length b = mu ++ b :: r := by
  induction mu with
  | nil => rfl
  | cons x mu ih => simp [ih]
theorem set_app1 (mu : Mem) (a b b' : Cell) (r : Mem) : (mu ++ a :: b :: r).set (mu.length + 1) b' = mu ++ a :: b' :: r := by
  induction mu with
  | nil => rfl
  | cons x mu ih => simp [ih]
theorem get_app0 (mu : Mem) (a : Cell) (r : Mem) : (mu ++ a :: r)[mu.length]? = some a := by rw [List.getElem?_append_right (Nat.le_refl _)]; simp
theorem get_app1 (mu : Mem) (a b : Cell) (r : Mem) : (mu ++ a :: b :: r)[mu.length + 1]? = some b := by rw [List.getElem?_append_right (Nat.le_succ _)]; simp
noncomputable def lowB (x : List Nat) : Bool := !decide (x < T "a") && !decide (T "z" < x)
noncomputable def cap1 (k : Nat) : Nat := if lowB [k] then k - 32 else k
theorem low_bounds {k : Nat} (h : lowB [k] = true) : 97 ≤ k ∧ k ≤ 122 := by
  unfold lowB at h
  have e1 : T "a" = [97] := rfl
  have e2 : T "z" = [122] := rfl
  rw [e1, e2, Bool.and_eq_true] at h
  obtain ⟨h1, h2⟩ := h
  simp at h1 h2
  constructor
  · by_cases q : 97 ≤ k
    · exact q
    · exfalso
      have : [k] < [97] := List.Lex.rel (by omega)
      first | exact h1 this | exact absurd this (by simpa using h1)
  · by_cases q : k ≤ 122
    · exact q
    · exfalso
      have : [122] < [k] := List.Lex.rel (by omega)
      first | exact h2 this | exact absurd this (by simpa using h2)
end
local macro_rules | `(tactic| walk_at "opn") => `(tactic| first
  | ((with_reducible show OpN _ _ _ (fun vs => call (.builtin "ord") vs) _ _ _); exact ord1)
  | ((with_reducible show OpN _ _ _ (fun vs => call (.builtin "chr") vs) _ _ _); exact chr1 (by walk_at "side") (by walk_at "side")))
section
variable {c : Cx}
theorem Co.text {F' : FS} {n : Nat} {mu : Mem} {xn : PySem.Str} {elt : Expr} {x : List Nat} (f : Nat → PV) (W : Wf mu) (hz : x.length < 10000) (hu : ∀ k, (f k).under mu.length = true) (h : ∀ k mu', Ev c F' n [(xn, some (.str [k]))] mu' elt (f k) mu') :
    ∀ (r d : List Nat) (w : Option PV), x = d ++ r → Co c F' n mu.length xn elt w (mu ++ [.sit x d.length, .list (d.map f)]) (x.map f) mu := by
  intro r
  induction r with
  | nil =>
    intro d w hx
    have : d = x := by rw [hx, List.append_nil]
    subst this
    exact Co.stop (Lst.sit (get_app0 ..) (Nat.le_refl _)) W.ok (by
      have : ∀ l : List Nat, PV.underL mu.length (l.map f) = true := by
        intro l; induction l with
        | nil => rfl
        | cons a l ih => show ((f a).under mu.length && PV.underL mu.length (l.map f)) = true; rw [hu, ih]; rfl
      exact this _)
  | cons k r ih =>
    intro d w hx
    have hk : x[d.length]? = some k := by rw [hx]; simp
    have ih := ih (d ++ [k]) (some (.str [k])) (by rw [hx]; simp)
    refine Co.turn (v := .str [k]) (w := f k) (acc := d.map f) (mu₁ := mu ++ [.sit x (d.length + 1), .list (d.map f)]) (mu₂ := mu ++ [.sit x (d.length + 1), .list (d.map f)]) ?_ (h k _) (get_app1 ..) ?_ ?_
    · have := Nxt.sit (c := c) (n := n) (mu := mu ++ [.sit x d.length, .list (d.map f)]) (k := mu.length) (get_app0 ..) hk
      rwa [set_app0] at this
    · rw [List.length_map, sizeLine_eq]
      have := congrArg List.length hx
      rw [List.length_append] at this; omega
    · rw [set_app1]
      have e1 : (d ++ [k]).length = d.length + 1 := by simp
      have e2 : (d ++ [k]).map f = d.map f ++ [f k] := by simp
      rw [e1, e2] at ih
      exact ih
theorem capital_ok (G : Pg c) {x : List Nat} {mu : Mem} (W : Wf mu) (hz : x.length < 10000) : Fn c 2 (.ref 78) [.str x] mu (.str (x.map cap1)) mu := by
  refine Fn.pure [("text", some (.str x))] G.ok (at_capital G) W ?_
  refine Exs.ret (Ex.ret ?_)
  have hj : joinL [] ((x.map fun k => [cap1 k])) = x.map cap1 := by
    induction x with
    | nil => rfl
    | cons k r ih =>
      rw [List.map_cons, joinL_cons]
      have : ∀ r : List Nat, (List.map (fun y => [] ++ y) (r.map fun k => [cap1 k])).flatten = r.map cap1 := by
        intro r; induction r with
        | nil => rfl
        | cons a r ih => simpa using ih
      rw [this]; rfl
  refine Ev.eq (v := .str (joinL (T "") (x.map fun k => [cap1 k]))) ?_ (by rw [← hj]; rfl)
  refine Ev.meth G.ok (p := .str (T "")) (f := .builtin "str.join") (ps := [.lst ((x.map fun k => [cap1 k]).map PV.str)]) (mu₁ := mu) (mu₂ := mu) (by walk_at "ev") (Meth.str F.slot_str_join F.type_str_join) Callee.builtin (EvL.cons ?_ EvL.nil) (joined ?_)
  · refine Ev.comp (mu₁ := mu ++ [.sit x 0]) (k := mu.length) (F' := ⟨["sign"], [("chr", .builtin "chr"), ("ord", .builtin "ord")], []⟩) (Src.new (by walk_at "ev") iterS) (Sc.pg G (gl := fun _ => [("chr", .builtin "chr"), ("ord", .builtin "ord")]) (fun P => by kernel_rfl) (by kernel_rfl)) ?_ (Slf.sit (j := 0) (x := x) (by rw [List.append_assoc]; exact get_app0 ..)) (by simp)
    rw [List.append_assoc, List.map_map]
    refine Co.text (fun k => .str [cap1 k]) W hz (fun _ => rfl) (fun k mu' => ?_) x [] Option.none rfl
    cases hl : lowB [k] with
    | true =>
      have hb := low_bounds hl
      have hc : cap1 k = k - 32 := by unfold cap1; rw [if_pos hl]
      rw [hc]
      refine Ev.ifT (mu₁ := _) (Ts.eq (t := lowB [k]) (Ts.chain (by walk_at "ev") (by walk_at "ev") (by walk_at "op") (by walk_at "ev") (by walk_at "op")) hl) (Ev.eq (by walk_at "ev") ?_)
      congr 2
      omega
    | false =>
      have hc : cap1 k = k := by unfold cap1; rw [if_neg (by rw [hl]; decide)]
      rw [hc]
      exact Ev.ifF (mu₁ := _) (Ts.eq (t := lowB [k]) (Ts.chain (by walk_at "ev") (by walk_at "ev") (by walk_at "op") (by walk_at "ev") (by walk_at "op")) hl) (by walk_at "ev")
  · have : ∀ x : List Nat, ((x.map fun k => [cap1 k]).map fun p => p.length + (T "").length).sum = x.length := by
      have e : (T "").length = 0 := rfl
      rw [e]
      intro x
      induction x with
      | nil => rfl
      | cons a l ih => rw [List.map_cons, List.map_cons, List.sum_cons, ih]; simp; omega
    rw [this]; omega
end
-- text P8
section
variable {c : Cx}
section
variable {n : Nat} {mu : Mem} {x a b d : List Nat}
theorem Op2.inT2 : Op2 c n mu (compareOp .In) (.str x) (.tup [.str a, .str b]) (.bool ([a, b].contains x)) mu := Op2.inT (ys := [a, b])
theorem Op2.inT3 : Op2 c n mu (compareOp .In) (.str x) (.tup [.str a, .str b, .str d]) (.bool ([a, b, d].contains x)) mu := Op2.inT (ys := [a, b, d])
theorem Op2.notInT2 : Op2 c n mu (compareOp .NotIn) (.str x) (.tup [.str a, .str b]) (.bool (!([a, b].contains x))) mu := Op2.notInT (ys := [a, b])
end
end
local macro_rules | `(tactic| walk_at "op") => `(tactic| first
  | ((with_reducible show Op2 _ _ _ (compareOp .In) (.str _) (.tup [_, _]) _ _); exact Op2.inT2)
  | ((with_reducible show Op2 _ _ _ (compareOp .In) (.str _) (.tup [_, _, _]) _ _); exact Op2.inT3)
  | ((with_reducible show Op2 _ _ _ (compareOp .NotIn) (.str _) (.tup [_, _]) _ _); exact Op2.notInT2))
section
variable {c : Cx}
end
local macro_rules | `(tactic| walk_at "opn") => `(tactic| first
  | ((with_reducible show OpN _ _ _ (fun vs => call (.ref 85) vs) _ _ _); exact Fn.op (figures_end_ok (by assumption) (by assumption) (by assumption)))
  | ((with_reducible show OpN _ _ _ (fun vs => call (.ref 92) vs) _ _ _); exact Fn.op (skipped_ok (by assumption) (by assumption) (by assumption)))
  | ((with_reducible show OpN _ _ _ (fun vs => call (.ref 78) vs) _ _ _); exact Fn.op (capital_ok (by assumption) (by assumption) (by walk_at "side"))))
section
variable {c : Cx}
theorem sl0 {row d : List Nat} {i : Nat} (hd : row.drop i = d) (b : Nat) : (row.drop i).take (i + b - i) = d.take b := by rw [hd, Nat.add_sub_cancel_left]
theorem slA {row d : List Nat} {i : Nat} (hd : row.drop i = d) (a b : Nat) : (row.drop (i + a)).take (i + b - (i + a)) = (d.drop a).take (b - a) := by
  rw [← List.drop_drop, hd, show i + b - (i + a) = b - a by omega]
theorem drA {row d : List Nat} {i : Nat} (hd : row.drop i = d) (a : Nat) : row.drop (i + a) = d.drop a := by rw [← List.drop_drop, hd]
noncomputable def powB (d : List Nat) : Nat := if [T "+", T "-"].contains ((d.drop 1).take (2 - 1)) then 2 else 1
noncomputable def powM (d : List Nat) : Option Nat :=
  if [T "E", T "e"].contains (d.take 1) then
    if 3 < nfig (d.drop (powB d)) then Option.none
    else if 0 < nfig (d.drop (powB d)) then some (powB d + nfig (d.drop (powB d))) else some 0
  else some 0
theorem power_end_ok (G : Pg c) {row d : List Nat} {at_ m : Nat} {mu : Mem} (W : Wf mu) (hz : row.length < 10000) (hd : row.drop at_ = d) (h : powM d = some m) : Fn c 4 (.ref 99) [.str row, .int at_] mu (.int ((at_ + m : Nat))) mu := by
  refine Fn.pure [("row", some (.str row)), ("at", some (.int at_)), ("begin", Option.none), ("end", Option.none)] G.ok (at_power_end G) W ?_
  unfold powM at h
  split at h
  · rename_i q1
    refine Exs.ifF (mu₁ := mu) (Ts.eq (by walk_at "ts") (by rw [sl0 hd, q1]; rfl)) ?_
    refine Exs.cons (ρ₁ := [("row", some (.str row)), ("at", some (.int at_)), ("begin", some (.int ((at_ + powB d : Nat)))), ("end", Option.none)]) (mu₁ := mu) (Ex.asg (v := .int ((at_ + powB d : Nat))) ?_ (by walk_at "upd")) ?_
    · unfold powB
      split
      · rename_i q2
        exact Ev.ifT (mu₁ := mu) (Ts.eq (by walk_at "ts") (by rw [slA hd]; exact q2)) (by walk_at "ev")
      · rename_i q2
        exact Ev.ifF (mu₁ := mu) (Ts.eq (by walk_at "ts") (by rw [slA hd]; simpa using q2)) (by walk_at "ev")
    refine Exs.cons (ρ₁ := [("row", some (.str row)), ("at", some (.int at_)), ("begin", some (.int ((at_ + powB d : Nat)))), ("end", some (.int ((at_ + powB d + nfig (d.drop (powB d)) : Nat))))]) (mu₁ := mu) (Ex.asg (v := .int ((at_ + powB d + nfig (d.drop (powB d)) : Nat))) (Ev.eq (by walk_at "ev") (by rw [drA hd])) (by walk_at "upd")) ?_
    split at h
    · cases h
    · rename_i q3
      refine Exs.ifF (mu₁ := mu) (Ts.eq (by walk_at "ts") (by rw [decide_eq_false_iff_not]; omega)) ?_
      split at h
      · rename_i q4
        cases h
        exact Exs.ret (Ex.ret (Ev.ifT (mu₁ := mu) (Ts.eq (by walk_at "ts") (by rw [decide_eq_true_eq]; omega)) (Ev.eq (by walk_at "ev") (by rw [Nat.add_assoc]))))
      · rename_i q4
        cases h
        exact Exs.ret (Ex.ret (Ev.ifF (mu₁ := mu) (Ts.eq (by walk_at "ts") (by rw [decide_eq_false_iff_not]; omega)) (Ev.eq (by walk_at "ev") (by rfl))))
  · rename_i q1
    cases h
    exact Exs.ifT (mu₁ := mu) (Ts.eq (by walk_at "ts") (by rw [sl0 hd]; simpa using q1)) (Exs.ret (Ex.ret (Ev.eq (by walk_at "ev") (by rfl))))
end
-- text P9
section
variable {c : Cx}
end
local macro_rules | `(tactic| walk_at "ts") => `(tactic| first
  | ((with_reducible show Ts _ _ _ _ _ (.Name _ _) _ _); exact Ts.of (by walk_at "ev") OpB.bool)
  | ((with_reducible show Ts _ _ _ _ _ (.BoolOp .And [_, _, _] _) _ _); exact Ts.and3 (by walk_at "ts") (fun h => by walk_at "ts") (fun h h' => by walk_at "ts"))
  | ((with_reducible show Ts _ _ _ _ _ (.BoolOp .Or [_, _, _] _) _ _); exact Ts.or3 (by walk_at "ts") (fun h => by walk_at "ts") (fun h h' => by walk_at "ts")))
section
variable {c : Cx}
noncomputable def endM (d : List Nat) : Nat := if (d.drop (nfig d)).take 1 = T "." then nfig d + 1 + nfig (d.drop (nfig d + 1)) else nfig d
noncomputable def numL (pl : Bool) (d : List Nat) (p : Nat) : Nat :=
  if decide ((d.drop (endM d + p)).take 1 = T "!") || (decide ((d.drop (endM d + p)).take 1 = T "%") && (pl && decide (p = 0))) then endM d + p + 1 else endM d + p
noncomputable def numM (pl : Bool) (d : List Nat) : Option (List Nat × Nat) :=
  if 40 < endM d then Option.none else match powM (d.drop (endM d)) with
    | Option.none => Option.none
    | some p => some ((d.take (numL pl d p)).map cap1, numL pl d p)
end
local macro_rules | `(tactic| walk_at "side") => `(tactic| first | (rw [List.length_take, List.length_drop]; omega) | ((with_reducible show _ ≤ sizeLine); simp only [List.length_take, List.length_drop, List.length_cons, List.length_nil, List.length_append]; rw [PySem.sizeLine_eq]; omega))
section
variable {c : Cx}
theorem number_at_ok (G : Pg c) {row d x : List Nat} {at_ m : Nat} {pl : Bool} {mu : Mem} (W : Wf mu) (hz : row.length < 10000) (hd : row.drop at_ = d) (hp : decide (find4v row (T ".") at_ (at_ + endM d) < 0) = pl) (h : numM pl d = some (x, m)) :
    Fn c 5 (.ref 106) [.str row, .int at_] mu (.tup [.tup [.str (T "number"), .str x], .int ((at_ + m : Nat))]) mu := by
  refine Fn.pure [("row", some (.str row)), ("at", some (.int at_)), ("end", Option.none), ("is_plain", Option.none), ("behind", Option.none), ("last", Option.none)] G.ok (at_number_at G) W ?_
  unfold numM at h
  split at h
  · cases h
  rename_i q1
  split at h
  · cases h
  rename_i p q2
  cases h
  refine Exs.cons (mu₁ := mu) (ρ₁ := [("row", some (.str row)), ("at", some (.int at_)), ("end", some (.int ((at_ + nfig d : Nat)))), ("is_plain", Option.none), ("behind", Option.none), ("last", Option.none)]) (Ex.asg (v := .int ((at_ + nfig d : Nat))) (Ev.eq (by walk_at "ev") (by rw [hd])) (by walk_at "upd")) ?_
  refine Exs.cons (mu₁ := mu) (ρ₁ := [("row", some (.str row)), ("at", some (.int at_)), ("end", some (.int ((at_ + endM d : Nat)))), ("is_plain", Option.none), ("behind", Option.none), ("last", Option.none)]) ?_ ?_
  · unfold endM
    split
    · rename_i q3
      refine Ex.ite (mu₁ := mu) (t := true) (Ts.eq (by walk_at "ts") (by rw [show at_ + nfig d + 1 = at_ + (nfig d + 1) by omega, slA hd, Nat.add_sub_cancel_left]; exact decide_eq_true q3)) (fun _ => Exs.cons (Ex.asg (v := .int ((at_ + (nfig d + 1 + nfig (d.drop (nfig d + 1))) : Nat))) (Ev.eq (by walk_at "ev") (by rw [show at_ + nfig d + 1 = at_ + (nfig d + 1) by omega, drA hd, Nat.add_assoc])) (by walk_at "upd")) Exs.nil) (fun q => by cases q)
    · rename_i q3
      exact Ex.ite (mu₁ := mu) (t := false) (Ts.eq (by walk_at "ts") (by rw [show at_ + nfig d + 1 = at_ + (nfig d + 1) by omega, slA hd, Nat.add_sub_cancel_left]; exact decide_eq_false q3)) (fun q => by cases q) (fun _ => Exs.nil)
  refine Exs.ifF (mu₁ := mu) (Ts.eq (by walk_at "ts") (by rw [decide_eq_false_iff_not]; omega)) ?_
  refine Exs.cons (mu₁ := mu) (ρ₁ := [("row", some (.str row)), ("at", some (.int at_)), ("end", some (.int ((at_ + endM d : Nat)))), ("is_plain", some (.bool pl)), ("behind", Option.none), ("last", Option.none)]) (Ex.asg (v := .bool pl) (Ev.eq (Ev.cmp (Ev.meth G.ok (by walk_at "ev") (Meth.str F.slot_str_find F.type_str_find) Callee.builtin (by walk_at "evl") find4) (by walk_at "ev") (by walk_at "op")) (by rw [← hp]; rfl)) (by walk_at "upd")) ?_
  refine Exs.cons (mu₁ := mu) (ρ₁ := [("row", some (.str row)), ("at", some (.int at_)), ("end", some (.int ((at_ + endM d : Nat)))), ("is_plain", some (.bool pl)), ("behind", some (.int ((at_ + (endM d + p) : Nat)))), ("last", Option.none)]) (Ex.asg (v := .int ((at_ + (endM d + p) : Nat))) ?_ (by walk_at "upd")) ?_
  · exact Ev.fcall G.ok (Ev.glb G.ok (by walk_at "mem")) (by walk_at "callee") (by walk_at "evl") (Nat.add_assoc _ _ _ ▸ Fn.op (power_end_ok G W hz (drA hd (endM d)) q2))
  refine Exs.cons (mu₁ := mu) (ρ₁ := [("row", some (.str row)), ("at", some (.int at_)), ("end", some (.int ((at_ + endM d : Nat)))), ("is_plain", some (.bool pl)), ("behind", some (.int ((at_ + (endM d + p) : Nat)))), ("last", some (.str ((d.drop (endM d + p)).take 1)))]) (Ex.asg (v := .str ((d.drop (endM d + p)).take 1)) (Ev.eq (by walk_at "ev") (by rw [show at_ + (endM d + p) + 1 = at_ + (endM d + p + 1) by omega, slA hd, Nat.add_sub_cancel_left])) (by walk_at "upd")) ?_
  refine Exs.cons (mu₁ := mu) (ρ₁ := [("row", some (.str row)), ("at", some (.int at_)), ("end", some (.int ((at_ + endM d : Nat)))), ("is_plain", some (.bool pl)), ("behind", some (.int ((at_ + numL pl d p : Nat)))), ("last", some (.str ((d.drop (endM d + p)).take 1)))]) ?_ ?_
  · unfold numL
    have ep : decide (at_ + (endM d + p) = at_ + endM d) = decide (p = 0) := by rw [decide_eq_decide]; omega
    split
    · rename_i q3
      rw [← ep] at q3
      exact Ex.ite (mu₁ := mu) (t := true) (Ts.eq (by walk_at "ts") q3) (fun _ => Exs.cons (by walk_at "st") Exs.nil) (fun q => by cases q)
    · rename_i q3
      rw [← ep] at q3
      exact Ex.ite (mu₁ := mu) (t := false) (Ts.eq (by walk_at "ts") (by simpa using q3)) (fun q => by cases q) (fun _ => Exs.nil)
  have hl : at_ ≤ at_ + numL pl d p := Nat.le_add_right _ _
  exact Exs.ret (Ex.ret (Ev.eq (by walk_at "ev") (by rw [sl0 hd])))
end
-- text P10
section
variable {c : Cx}
section
variable {F : FS} {n : Nat} {ρ ρ₁ ρ₂ ρ₃ ρ₄ : Loc} {mu mu₁ mu₂ mu₃ : Mem} {pos p1 p2 p3 : Pos} {e e₁ e₂ e₃ : Expr} {v w u : PV} {x y z : PySem.Str} {k k' : Nat} {tp vp : Pos}
theorem Ex.asgT2 (h : Ev c F n ρ mu e (.tup [v, w]) mu₁) (U1 : Upd ρ x v ρ₁) (U2 : Upd ρ₁ y w ρ₂)
    (hs : ∀ env, swapsWithSole [.Tuple [.Name x p1, .Name y p2] k tp] e pos.line env = pure false := by intro _; rfl) (hw : ∀ env, swappedStores [.Tuple [.Name x p1, .Name y p2] k tp] e env = pure Option.none := by intro _; rfl) :
    Ex c F n ρ mu (.Assign [.Tuple [.Name x p1, .Name y p2] k tp] e pos) (.next ρ₂ mu₁) := Ex.asgT (ns := [(x, p1), (y, p2)]) h (.cons U1 (.cons U2 .nil)) rfl hs hw
theorem Ex.asgT3 (h : Ev c F n ρ mu e (.tup [v, w, u]) mu₁) (U1 : Upd ρ x v ρ₁) (U2 : Upd ρ₁ y w ρ₂) (U3 : Upd ρ₂ z u ρ₃)
    (hs : ∀ env, swapsWithSole [.Tuple [.Name x p1, .Name y p2, .Name z p3] k tp] e pos.line env = pure false := by intro _; rfl) (hw : ∀ env, swappedStores [.Tuple [.Name x p1, .Name y p2, .Name z p3] k tp] e env = pure Option.none := by intro _; rfl) :
    Ex c F n ρ mu (.Assign [.Tuple [.Name x p1, .Name y p2, .Name z p3] k tp] e pos) (.next ρ₃ mu₁) := Ex.asgT (ns := [(x, p1), (y, p2), (z, p3)]) h (.cons U1 (.cons U2 (.cons U3 .nil))) rfl hs hw
theorem Ex.asgD2 (h : EvL c F n ρ mu [e₁, e₂] [v, w] mu₁) (U1 : Upd ρ x v ρ₁) (U2 : Upd ρ₁ y w ρ₂) (U3 : Upd ρ y w ρ₃) (U4 : Upd ρ₃ x v ρ₂)
    (hb : ([e₁, e₂].all (foldedForSure 8) || ![e₁, e₂].all (constantsAlone 8)) = true := by rfl)
    (hs : ∀ env, swapsWithSole [.Tuple [.Name x p1, .Name y p2] k tp] (.Tuple [e₁, e₂] k' vp) pos.line env = pure false := by intro _; rfl) :
    Ex c F n ρ mu (.Assign [.Tuple [.Name x p1, .Name y p2] k tp] (.Tuple [e₁, e₂] k' vp) pos) (.next ρ₂ mu₁) := Ex.asgD (ns := [(x, p1), (y, p2)]) h (.cons U1 (.cons U2 .nil)) (.cons U3 (.cons U4 .nil)) rfl rfl hb (Nat.le_of_ble_eq_true rfl) hs
theorem Ex.asgD3 (h : EvL c F n ρ mu [e₁, e₂, e₃] [v, w, u] mu₁) (U1 : Upd ρ x v ρ₁) (U2 : Upd ρ₁ y w ρ₂) (U3 : Upd ρ₂ z u ρ₃) {σ₁ σ₂ : Loc} (V1 : Upd ρ z u σ₁) (V2 : Upd σ₁ y w σ₂) (V3 : Upd σ₂ x v ρ₃)
    (hb : ([e₁, e₂, e₃].all (foldedForSure 8) || ![e₁, e₂, e₃].all (constantsAlone 8)) = true := by rfl)
    (hs : ∀ env, swapsWithSole [.Tuple [.Name x p1, .Name y p2, .Name z p3] k tp] (.Tuple [e₁, e₂, e₃] k' vp) pos.line env = pure false := by intro _; rfl) :
    Ex c F n ρ mu (.Assign [.Tuple [.Name x p1, .Name y p2, .Name z p3] k tp] (.Tuple [e₁, e₂, e₃] k' vp) pos) (.next ρ₃ mu₁) := Ex.asgD (ns := [(x, p1), (y, p2), (z, p3)]) h (.cons U1 (.cons U2 (.cons U3 .nil))) (.cons V1 (.cons V2 (.cons V3 .nil))) rfl rfl hb (Nat.le_of_ble_eq_true rfl) hs
end
noncomputable def nameK (k : Nat) : Bool := letB [k] || (figB [k] || decide ([k] = T "."))
noncomputable def nname : List Nat → Nat
  | [] => 0
  | k :: r => if nameK k then nname r + 1 else 0
noncomputable def sufB (x : List Nat) : Bool := [T "%", T "$", T "!"].contains x && !decide (x = T "")
noncomputable def nameM (d : List Nat) : Nat := if sufB ((d.drop (nname d)).take 1) then nname d + 1 else nname d
theorem name_end_ok (G : Pg c) {row d : List Nat} {at_ : Nat} {mu : Mem} (W : Wf mu) (hz : row.length < 10000) (hd : row.drop at_ = d) : Fn c 3 (.ref 113) [.str row, .int at_] mu (.int ((at_ + nameM d : Nat))) mu := by
  refine Fn.pure [("row", some (.str row)), ("at", some (.int at_))] G.ok (at_name_end G) W ?_
  refine Exs.cons (ρ₁ := [("row", some (.str row)), ("at", some (.int ((at_ + nname d : Nat))))]) (mu₁ := mu) (Ex.whl ?_) ?_
  · subst hd
    induction hm : row.length - at_ generalizing at_ with
    | zero =>
      have hd : row.drop at_ = [] := List.drop_eq_nil_of_le (by omega)
      rw [hd]
      refine Wh.stop (Ts.boolop (TsAll.andF ?_))
      have e : decide (at_ < row.length) = false := decide_eq_false (by omega)
      rw [← e]
      walk_at "ts"
    | succ m ih =>
      have hlt : at_ < row.length := by omega
      obtain ⟨k, hk⟩ := get_lt hlt
      rw [drop_get hk]
      have e : decide (at_ < row.length) = true := decide_eq_true (by omega)
      cases hf : nameK k with
      | false =>
        have hn : nname (k :: row.drop (at_ + 1)) = 0 := by unfold nname; rw [hf]; rfl
        rw [hn]
        exact Wh.stop (Ts.eq (t := decide (at_ < row.length) && nameK k) (by walk_at "ts") (by rw [hf, Bool.and_false]))
      | true =>
        have hn : at_ + nname (k :: row.drop (at_ + 1)) = (at_ + 1) + nname (row.drop (at_ + 1)) := by rw [nname, hf]; simp; omega
        rw [hn]
        exact Wh.turn (mu₁ := mu) (Ts.eq (t := decide (at_ < row.length) && nameK k) (by walk_at "ts") (by rw [hf, e]; rfl)) (Exs.cons (by walk_at "st") Exs.nil) (ih (at_ := at_ + 1) (by omega))
  · unfold nameM
    split
    · rename_i q
      exact Exs.ret (Ex.ret (Ev.ifT (mu₁ := mu) (Ts.eq (by walk_at "ts") (by rw [show at_ + nname d + 1 = at_ + (nname d + 1) by omega, slA hd, Nat.add_sub_cancel_left]; exact q)) (by walk_at "ev")))
    · rename_i q
      exact Exs.ret (Ex.ret (Ev.ifF (mu₁ := mu) (Ts.eq (by walk_at "ts") (by rw [show at_ + nname d + 1 = at_ + (nname d + 1) by omega, slA hd, Nat.add_sub_cancel_left]; exact (Bool.not_eq_true _).mp q)) (by walk_at "ev")))
theorem find3_at {row body rest : List Nat} {i : Nat} {k : Nat} (hd : row.drop i = body ++ k :: rest) (hn : k ∉ body) : Txt.find3 (S row) (S [k]) i = ((i + body.length : Nat) : Int) := by
  have hget : ∀ v, row.getD (i + v) 0 = (body ++ k :: rest).getD v 0 := fun v => by
    rw [← hd, List.getD_eq_getElem?_getD, List.getD_eq_getElem?_getD, List.getElem?_drop]
  have hlen : i + body.length < row.length := by
    have := congrArg List.length hd
    rw [List.length_drop, List.length_append, List.length_cons] at this; omega
  have hfrom : fromIndex (S row).length (i : Int) = i := by
    unfold fromIndex
    rw [if_neg (by omega)]
    omega
  have hS : ∀ v, (S row).cps.getD v 0 = row.getD v 0 := fun v => by simp [List.getD_eq_getElem?_getD]
  have hat : row.getD (i + body.length) 0 = k := by rw [hget]; simp
  rcases StrLaws.find3_spec (S row) k i with ⟨h, hno⟩ | ⟨m, h, h1, h2, h3, h4⟩
  · exfalso
    rw [hfrom] at hno
    exact hno (i + body.length) (Nat.le_add_right _ _) (by rw [S_len]; exact hlen) (by rw [hS]; exact hat)
  · rw [hfrom] at h1 h4
    refine h.trans ?_
    congr 1
    rw [hS] at h3
    by_cases q : m < i + body.length
    · exfalso
      have hm := hget (m - i)
      rw [show i + (m - i) = m by omega, h3] at hm
      have hlt : m - i < body.length := by omega
      rw [List.getD_eq_getElem?_getD, List.getElem?_append_left hlt, List.getElem?_eq_getElem hlt] at hm
      exact hn (hm ▸ List.getElem_mem hlt)
    · by_cases q' : m = i + body.length
      · exact q'
      · exfalso
        exact h4 (i + body.length) (Nat.le_add_right _ _) (by omega) (by rw [hS]; exact hat)
theorem text_at_ok (G : Pg c) {row body rest : List Nat} {at_ : Nat} {mu : Mem} (W : Wf mu) (hz : row.length < 10000) (hd : row.drop (at_ + 1) = body ++ 34 :: rest) (hn : 34 ∉ body) :
    Fn c 2 (.ref 120) [.str row, .int at_] mu (.tup [.tup [.str (T "text"), .str body], .int ((at_ + (body.length + 2) : Nat))]) mu := by
  refine Fn.pure [("row", some (.str row)), ("at", some (.int at_)), ("end", Option.none)] G.ok (at_text_at G) W ?_
  refine Exs.cons (mu₁ := mu) (ρ₁ := [("row", some (.str row)), ("at", some (.int at_)), ("end", some (.int ((at_ + 1 + body.length : Nat))))]) (Ex.asg (v := .int ((at_ + 1 + body.length : Nat))) (Ev.eq (Ev.meth G.ok (by walk_at "ev") (Meth.str F.slot_str_find F.type_str_find) Callee.builtin (by walk_at "evl") find3) (by
    have := find3_at hd hn
    exact congrArg PV.int this)) (by walk_at "upd")) ?_
  refine Exs.ifF (mu₁ := mu) (Ts.eq (by walk_at "ts") (by rw [decide_eq_false_iff_not]; omega)) ?_
  have hs : (row.drop (at_ + 1)).take (at_ + 1 + body.length - (at_ + 1)) = body := by rw [hd, Nat.add_sub_cancel_left, List.take_left]
  exact Exs.ret (Ex.ret (Ev.eq (by walk_at "ev") (by rw [hs, show at_ + 1 + body.length + 1 = at_ + (body.length + 2) by omega])))
end
-- text P11
section
variable {c : Cx}
noncomputable def esAt (K : Frag) (a : Addr) : Array DictEntry := match K.lookup a with
  | some ⟨_, _, .dict es _, _⟩ => es
  | _ => #[]
noncomputable def epAt (K : Frag) (a : Addr) : Nat := match K.lookup a with
  | some ⟨_, _, .dict _ n, _⟩ => n
  | _ => 0
noncomputable def pvOf : Value → Option PV
  | .int i _ => some (.int i)
  | .str s _ => some (.str s.cps.toList)
  | _ => Option.none
noncomputable def dictV (K : Frag) (a : Addr) (x : List Nat) : Option PV := (findBy Value.isStrOf (esAt K a) (S x)).bind pvOf
theorem DictK.pg (G : Pg c) {a : Addr} (h0 : (a == sysModules) = false) (hl : ∀ P, (KK P).lookup a = some ⟨.type "dict", Option.none, .dict (esAt (KK P) a) (epAt (KK P) a), #[]⟩) (hk : ∀ P, KeysLit P (esAt (KK P) a).toList)
    (hv : ∀ P, (esAt (KK P) a).toList.all (fun e => (pvOf e.val).isSome) = true) : DictK c a (dictV (KK c.w.params) a) := by
  refine ⟨h0, esAt (KK c.w.params) a, epAt (KK c.w.params) a, by rw [G.K]; exact hl _, hk _, fun x => ?_⟩
  unfold dictV
  cases h : findBy Value.isStrOf (esAt (KK c.w.params) a) (S x) with
  | none => exact ⟨rfl, fun v h => by cases h⟩
  | some z =>
    have hz : ∃ e ∈ (esAt (KK c.w.params) a).toList, e.val = z := by
      unfold findBy at h
      obtain ⟨e, he, rfl⟩ := Option.map_eq_some_iff.mp h
      exact ⟨e, Array.mem_toList_iff.mpr (Array.mem_of_find?_eq_some he), rfl⟩
    obtain ⟨e, he, rfl⟩ := hz
    have := List.all_eq_true.mp (hv c.w.params) e he
    refine ⟨?_, fun v hv => ⟨_, rfl, fun g al => ?_⟩⟩
    · show true = ((some e.val).bind pvOf).isSome
      exact this.symm
    · have hv : pvOf e.val = some v := hv
      cases q : e.val with
      | int i t => rw [q] at hv; cases hv; exact ⟨t, rfl⟩
      | str s t => rw [q] at hv; cases hv; exact ⟨t, by simp⟩
      | _ => rw [q] at hv; cases hv
theorem dk_pairs (G : Pg c) : DictK c 45 (dictV (KK c.w.params) 45) := DictK.pg G (by decide) (fun P => by kernel_rfl) (fun P => by repeat (first | exact trivial | refine ⟨⟨_, _, rfl, rfl⟩, ?_⟩)) (fun P => by kernel_rfl)
theorem dk_strength (G : Pg c) : DictK c 163 (dictV (KK c.w.params) 163) := DictK.pg G (by decide) (fun P => by kernel_rfl) (fun P => by repeat (first | exact trivial | refine ⟨⟨_, _, rfl, rfl⟩, ?_⟩)) (fun P => by kernel_rfl)
theorem GVal.str {y : Value} {x : List Nat} {t : Tok} (h : y = .str (S x) t) : GVal c y (.str x) := ⟨fun _ _ _ => ⟨t, h⟩⟩
noncomputable def textOf : Value → List Nat
  | .str s _ => s.cps.toList
  | _ => []
noncomputable def tokOf : Value → Tok
  | .str _ t => t
  | _ => 0
noncomputable def topT (P : Params) (x : PySem.Str) : List Nat := textOf (glbAt P x)
theorem GVal.top {P : Params} {x : PySem.Str} (h : glbAt P x = .str (S (topT P x)) (tokOf (glbAt P x))) : GVal c (glbAt P x) (.str (topT P x)) := GVal.str h
end
local macro_rules | `(tactic| walk_at "gval") => `(tactic| ((with_reducible show GVal _ (glbAt _ _) _); exact GVal.top (by kernel_rfl)))
section
variable {c : Cx}
noncomputable def fwords (P : Params) : List (List Nat) := (Txt.split (S (topT P "FUNCTION_WORDS")) (S (T " "))).map (·.cps.toList)
noncomputable def words (P : Params) : List (List Nat) := (Txt.split (S (topT P "WORDS")) (S (T " "))).map (·.cps.toList)
theorem under_strs (k : Nat) : ∀ l : List (List Nat), PV.underL k (l.map PV.str) = true
  | [] => rfl
  | _ :: l => under_strs k l
theorem functions_ok (G : Pg c) {mu : Mem} (W : Wf mu) : Fn c 1 (.ref 52) [] mu (.lst ((fwords c.w.params).map PV.str)) mu := by
  refine Fn.pure [] G.ok (at_functions G) W ?_ (hv := ?_)
  · refine Exs.ret (Ex.ret (Ev.meth G.ok (by walk_at "ev") (Meth.str F.slot_str_split F.type_str_split) Callee.builtin (by walk_at "evl") (split1 (by kernel_rfl) (Nat.le_of_ble_eq_true (by kernel_rfl)) rfl)))
  · rw [PV.under]; exact under_strs _ _
end
-- text P12
section
variable {c : Cx}
noncomputable def isWord (P : Params) (x : List Nat) : Bool := (words P).contains x || (fwords P).contains x
theorem is_word_ok (G : Pg c) {x : List Nat} {mu : Mem} (W : Wf mu) : Fn c 2 (.ref 59) [.str x] mu (.bool (isWord c.w.params x)) mu := by
  refine Fn.pure [("told", some (.str x))] G.ok (at_is_word G) W ?_
  refine Exs.ret (Ex.ret (Ev.boolop (EvB.or (t := (words c.w.params).contains x) (u := (fwords c.w.params).contains x) ?_ (fun _ => EvB.one ?_))))
  · exact Ev.cmp (by walk_at "ev") (Ev.meth G.ok (by walk_at "ev") (Meth.str F.slot_str_split F.type_str_split) Callee.builtin (by walk_at "evl") (split1 (by kernel_rfl) (Nat.le_of_ble_eq_true (by kernel_rfl)) rfl)) Op2.inL
  · exact Ev.cmp (by walk_at "ev") (Ev.fcall G.ok (by walk_at "ev") (by walk_at "callee") (by walk_at "evl") (Fn.op (functions_ok G W))) Op2.inL
noncomputable abbrev pairD (P : Params) : List Nat → Option PV := dictV (KK P) 45
theorem order_at_pair (G : Pg c) {row r s : List Nat} {at_ k : Nat} {mu : Mem} (W : Wf mu) (hz : row.length < 10000) (hd : row.drop at_ = k :: r) (hk : row[at_]? = some k) (h : pairD c.w.params ([k] ++ (r.drop (nblank r)).take 1) = some (.str s)) :
    Fn c 4 (.ref 127) [.str row, .int at_] mu (.tup [.tup [.str (T "sign"), .str s], .int ((at_ + (nblank r + 2) : Nat))]) mu := by
  refine Fn.pure [("row", some (.str row)), ("at", some (.int at_)), ("later", Option.none), ("both", Option.none)] G.ok (at_order_at G) W ?_
  have h1 : row.drop (at_ + 1) = r := by rw [← List.drop_drop, hd]; rfl
  refine Exs.cons (mu₁ := mu) (ρ₁ := [("row", some (.str row)), ("at", some (.int at_)), ("later", some (.int ((at_ + 1 + nblank r : Nat)))), ("both", Option.none)]) (Ex.asg (v := .int ((at_ + 1 + nblank r : Nat))) (Ev.eq (by walk_at "ev") (by rw [h1])) (by walk_at "upd")) ?_
  refine Exs.cons (mu₁ := mu) (ρ₁ := [("row", some (.str row)), ("at", some (.int at_)), ("later", some (.int ((at_ + 1 + nblank r : Nat)))), ("both", some (.str ([k] ++ (r.drop (nblank r)).take 1)))]) (Ex.asg (v := .str ([k] ++ (r.drop (nblank r)).take 1)) (Ev.eq (by walk_at "ev") (by rw [show at_ + 1 + nblank r + 1 = at_ + 1 + (nblank r + 1) by omega, slA h1, Nat.add_sub_cancel_left])) (by walk_at "upd")) ?_
  refine Exs.ifT (mu₁ := mu) (Ts.eq (Ts.cmp (by walk_at "ev") (by walk_at "ev") (Op2.inD G.ok (dk_pairs G))) (by show (pairD c.w.params _).isSome = true; rw [h]; rfl)) ?_
  exact Exs.ret (Ex.ret (Ev.eq (Ev.tup (EvL.cons (Ev.tup (EvL.cons (by walk_at "ev") (EvL.cons (Ev.sub (by walk_at "ev") (by walk_at "ev") (Op2.idxD G.ok (dk_pairs G) h)) EvL.nil))) (EvL.cons (by walk_at "ev") EvL.nil))) (by rw [show at_ + 1 + nblank r + 1 = at_ + (nblank r + 2) by omega])))
theorem order_at_one (G : Pg c) {row r : List Nat} {at_ k : Nat} {mu : Mem} (W : Wf mu) (hz : row.length < 10000) (hd : row.drop at_ = k :: r) (hk : row[at_]? = some k) (h : pairD c.w.params ([k] ++ (r.drop (nblank r)).take 1) = Option.none) :
    Fn c 4 (.ref 127) [.str row, .int at_] mu (.tup [.tup [.str (T "sign"), .str [k]], .int ((at_ + 1 : Nat))]) mu := by
  refine Fn.pure [("row", some (.str row)), ("at", some (.int at_)), ("later", Option.none), ("both", Option.none)] G.ok (at_order_at G) W ?_
  have h1 : row.drop (at_ + 1) = r := by rw [← List.drop_drop, hd]; rfl
  refine Exs.cons (mu₁ := mu) (ρ₁ := [("row", some (.str row)), ("at", some (.int at_)), ("later", some (.int ((at_ + 1 + nblank r : Nat)))), ("both", Option.none)]) (Ex.asg (v := .int ((at_ + 1 + nblank r : Nat))) (Ev.eq (by walk_at "ev") (by rw [h1])) (by walk_at "upd")) ?_
  refine Exs.cons (mu₁ := mu) (ρ₁ := [("row", some (.str row)), ("at", some (.int at_)), ("later", some (.int ((at_ + 1 + nblank r : Nat)))), ("both", some (.str ([k] ++ (r.drop (nblank r)).take 1)))]) (Ex.asg (v := .str ([k] ++ (r.drop (nblank r)).take 1)) (Ev.eq (by walk_at "ev") (by rw [show at_ + 1 + nblank r + 1 = at_ + 1 + (nblank r + 1) by omega, slA h1, Nat.add_sub_cancel_left])) (by walk_at "upd")) ?_
  refine Exs.ifF (mu₁ := mu) (Ts.eq (Ts.cmp (by walk_at "ev") (by walk_at "ev") (Op2.inD G.ok (dk_pairs G))) (by show (pairD c.w.params _).isSome = false; rw [h]; rfl)) ?_
  exact Exs.ret (Ex.ret (by walk_at "ev"))
theorem word_at_ok (G : Pg c) {row d x : List Nat} {at_ : Nat} {mu : Mem} (W : Wf mu) (hz : row.length < 10000) (hd : row.drop at_ = d) (hx : (d.take (nameM d)).map cap1 = x) (h1 : x ≠ T "REM") (h2 : x ≠ T "DATA") :
    Fn c 4 (.ref 148) [.str row, .int at_] mu (.tup [.lst [.tup [.str (if isWord c.w.params x then T "word" else T "name"), .str x]], .int ((at_ + nameM d : Nat))]) mu := by
  refine Fn.pure [("row", some (.str row)), ("at", some (.int at_)), ("end", Option.none), ("told", Option.none), ("last", Option.none)] G.ok (at_word_at G) W ?_
  refine Exs.cons (mu₁ := mu) (ρ₁ := [("row", some (.str row)), ("at", some (.int at_)), ("end", some (.int ((at_ + nameM d : Nat)))), ("told", Option.none), ("last", Option.none)]) (Ex.asg (v := .int ((at_ + nameM d : Nat))) (Ev.fcall G.ok (by walk_at "ev") (by walk_at "callee") (by walk_at "evl") (Fn.op (name_end_ok G W hz hd))) (by walk_at "upd")) ?_
  have hl : at_ ≤ at_ + nameM d := Nat.le_add_right _ _
  refine Exs.cons (mu₁ := mu) (ρ₁ := [("row", some (.str row)), ("at", some (.int at_)), ("end", some (.int ((at_ + nameM d : Nat)))), ("told", some (.str x)), ("last", Option.none)]) (Ex.asg (v := .str x) (Ev.eq (by walk_at "ev") (by rw [sl0 hd, hx])) (by walk_at "upd")) ?_
  refine Exs.ifF (mu₁ := mu) (Ts.eq (by walk_at "ts") (decide_eq_false h1)) ?_
  refine Exs.ifF (mu₁ := mu) (Ts.eq (by walk_at "ts") (decide_eq_false h2)) ?_
  refine Exs.ret (Ex.ret (Ev.tup (EvL.cons (Ev.lst (EvL.cons (Ev.tup (EvL.cons (mu₁ := mu) (p := .str (if isWord c.w.params x then T "word" else T "name")) ?_ (EvL.cons (by walk_at "ev") EvL.nil))) EvL.nil)) (EvL.cons (by walk_at "ev") EvL.nil))))
  cases q : isWord c.w.params x with
  | true => exact Ev.ifT (mu₁ := mu) (Ts.eq (Ts.of (Ev.fcall G.ok (by walk_at "ev") (by walk_at "callee") (by walk_at "evl") (Fn.op (is_word_ok G W))) OpB.bool) q) (by walk_at "ev")
  | false => exact Ev.ifF (mu₁ := mu) (Ts.eq (Ts.of (Ev.fcall G.ok (by walk_at "ev") (by walk_at "callee") (by walk_at "evl") (Fn.op (is_word_ok G W))) OpB.bool) q) (by walk_at "ev")
end
-- text P13
section
variable {c : Cx}
noncomputable abbrev tk (k x : List Nat) : PV := .tup [.str k, .str x]
structure TokAt (c : Cx) (row d : List Nat) (ts : List PV) (m : Nat) : Prop where
  run : ∀ (at_ : Nat) (mu : Mem), Wf mu → row.drop at_ = d → Fn c 6 (.ref 155) [.str row, .int at_] mu (.tup [.lst ts, .int ((at_ + m : Nat))]) mu
noncomputable def startsNum (k : Nat) (r : List Nat) : Bool := figB [k] || (decide ([k] = T ".") && figB (r.take 1))
theorem head_get {row r : List Nat} {i k : Nat} (hd : row.drop i = k :: r) : row[i]? = some k := by
  have := congrArg (fun l : List Nat => l[0]?) hd
  simpa using this
noncomputable abbrev ρtok (row : List Nat) (at_ : Nat) (sign told end_ : Option PV) : Loc := [("row", some (.str row)), ("at", some (.int at_)), ("sign", sign), ("told", told), ("end", end_)]
theorem tok_number (G : Pg c) {row r x : List Nat} {k m : Nat} (hz : row.length < 10000) (h : startsNum k r = true) (hp : ∀ at_, row.drop at_ = k :: r → numM (decide (find4v row (T ".") at_ (at_ + endM (k :: r)) < 0)) (k :: r) = some (x, m)) : TokAt c row (k :: r) [tk (T "number") x] m := by
  refine ⟨fun at_ mu W hd => Fn.pure (ρtok row at_ Option.none Option.none Option.none) G.ok (at_tokens_at G) W ?_⟩
  have hk := head_get hd
  refine Exs.cons (mu₁ := mu) (ρ₁ := ρtok row at_ (some (.str [k])) Option.none Option.none) (Ex.asg (v := .str [k]) (by walk_at "ev") (by walk_at "upd")) ?_
  refine Exs.ifT (mu₁ := mu) (Ts.eq (by walk_at "ts") (by rw [slA hd]; exact h)) ?_
  refine Exs.cons (mu₁ := mu) (ρ₁ := ρtok row at_ (some (.str [k])) (some (tk (T "number") x)) (some (.int ((at_ + m : Nat))))) (Ex.asgT2 (Ev.fcall G.ok (by walk_at "ev") (by walk_at "callee") (by walk_at "evl") (Fn.op (number_at_ok G W hz hd rfl (hp at_ hd)))) (by walk_at "upd") (by walk_at "upd")) ?_
  exact Exs.ret (Ex.ret (Ev.tup (EvL.cons (Ev.lst (by walk_at "evl")) (by walk_at "evl"))))
theorem tok_word (G : Pg c) {row r x : List Nat} {k m : Nat} (hz : row.length < 10000) (h : startsNum k r = false) (hl : letB [k] = true) (hm : nameM (k :: r) = m) (hx : ((k :: r).take m).map cap1 = x) (h1 : x ≠ T "REM") (h2 : x ≠ T "DATA") :
    TokAt c row (k :: r) [tk (if isWord c.w.params x then T "word" else T "name") x] m := by
  subst hm
  refine ⟨fun at_ mu W hd => Fn.pure (ρtok row at_ Option.none Option.none Option.none) G.ok (at_tokens_at G) W ?_⟩
  have hk := head_get hd
  refine Exs.cons (mu₁ := mu) (ρ₁ := ρtok row at_ (some (.str [k])) Option.none Option.none) (Ex.asg (v := .str [k]) (by walk_at "ev") (by walk_at "upd")) ?_
  refine Exs.ifF (mu₁ := mu) (Ts.eq (by walk_at "ts") (by rw [slA hd]; exact h)) ?_
  refine Exs.ifT (mu₁ := mu) (Ts.eq (by walk_at "ts") hl) ?_
  exact Exs.ret (Ex.ret (Ev.fcall G.ok (by walk_at "ev") (by walk_at "callee") (by walk_at "evl") (Fn.op (word_at_ok G W hz hd hx h1 h2))))
theorem tok_text (G : Pg c) {row body rest : List Nat} (hz : row.length < 10000) (hn : 34 ∉ body) : TokAt c row (34 :: (body ++ 34 :: rest)) [tk (T "text") body] (body.length + 2) := by
  refine ⟨fun at_ mu W hd => Fn.pure (ρtok row at_ Option.none Option.none Option.none) G.ok (at_tokens_at G) W ?_⟩
  have hk := head_get hd
  have h1 : row.drop (at_ + 1) = body ++ 34 :: rest := by rw [← List.drop_drop, hd]; rfl
  refine Exs.cons (mu₁ := mu) (ρ₁ := ρtok row at_ (some (.str [34])) Option.none Option.none) (Ex.asg (v := .str [34]) (by walk_at "ev") (by walk_at "upd")) ?_
  refine Exs.ifF (mu₁ := mu) (Ts.eq (by walk_at "ts") (by rw [slA hd]; rfl)) ?_
  refine Exs.ifF (mu₁ := mu) (Ts.eq (by walk_at "ts") (by rfl)) ?_
  refine Exs.ifT (mu₁ := mu) (Ts.eq (by walk_at "ts") (by rfl)) ?_
  refine Exs.cons (mu₁ := mu) (ρ₁ := ρtok row at_ (some (.str [34])) (some (tk (T "text") body)) (some (.int ((at_ + (body.length + 2) : Nat))))) (Ex.asgT2 (Ev.fcall G.ok (by walk_at "ev") (by walk_at "callee") (by walk_at "evl") (Fn.op (text_at_ok G W hz h1 hn))) (by walk_at "upd") (by walk_at "upd")) ?_
  exact Exs.ret (Ex.ret (Ev.tup (EvL.cons (Ev.lst (by walk_at "evl")) (by walk_at "evl"))))
theorem tok_order (G : Pg c) {row r s : List Nat} {k m : Nat} (hz : row.length < 10000) (h : startsNum k r = false) (hl : letB [k] = false) (hq : decide ([k] = T "\"") = false) (ho : decide (k ∈ topT c.w.params "ORDERS") = true)
    (hs : (pairD c.w.params ([k] ++ (r.drop (nblank r)).take 1) = some (.str s) ∧ m = nblank r + 2) ∨ (pairD c.w.params ([k] ++ (r.drop (nblank r)).take 1) = Option.none ∧ s = [k] ∧ m = 1)) : TokAt c row (k :: r) [tk (T "sign") s] m := by
  refine ⟨fun at_ mu W hd => Fn.pure (ρtok row at_ Option.none Option.none Option.none) G.ok (at_tokens_at G) W ?_⟩
  have hk := head_get hd
  refine Exs.cons (mu₁ := mu) (ρ₁ := ρtok row at_ (some (.str [k])) Option.none Option.none) (Ex.asg (v := .str [k]) (by walk_at "ev") (by walk_at "upd")) ?_
  refine Exs.ifF (mu₁ := mu) (Ts.eq (by walk_at "ts") (by rw [slA hd]; exact h)) ?_
  refine Exs.ifF (mu₁ := mu) (Ts.eq (by walk_at "ts") hl) ?_
  refine Exs.ifF (mu₁ := mu) (Ts.eq (by walk_at "ts") hq) ?_
  refine Exs.ifT (mu₁ := mu) (Ts.eq (by walk_at "ts") ho) ?_
  have key : OpN c 5 mu (fun vs => call (.ref 127) vs) [.str row, .int at_] (.tup [tk (T "sign") s, .int ((at_ + m : Nat))]) mu := by
    rcases hs with ⟨hs, rfl⟩ | ⟨hs, rfl, rfl⟩
    · exact Fn.op (order_at_pair G W hz hd hk hs)
    · exact Fn.op (order_at_one G W hz hd hk hs)
  refine Exs.cons (mu₁ := mu) (ρ₁ := ρtok row at_ (some (.str [k])) (some (tk (T "sign") s)) (some (.int ((at_ + m : Nat))))) (Ex.asgT2 (Ev.fcall G.ok (by walk_at "ev") (by walk_at "callee") (by walk_at "evl") key) (by walk_at "upd") (by walk_at "upd")) (Exs.ret (Ex.ret (Ev.tup (EvL.cons (Ev.lst (by walk_at "evl")) (by walk_at "evl")))))
theorem tok_sign (G : Pg c) {row r : List Nat} {k : Nat} (hz : row.length < 10000) (h : startsNum k r = false) (hl : letB [k] = false) (hq : decide ([k] = T "\"") = false) (ho : decide (k ∈ topT c.w.params "ORDERS") = false)
    (h1 : decide ([k] = T "?") = false) (h2 : decide ([k] = T "'") = false) (hs : decide (k ∈ topT c.w.params "SIGNS") = true) : TokAt c row (k :: r) [tk (T "sign") [k]] 1 := by
  refine ⟨fun at_ mu W hd => Fn.pure (ρtok row at_ Option.none Option.none Option.none) G.ok (at_tokens_at G) W ?_⟩
  have hk := head_get hd
  refine Exs.cons (mu₁ := mu) (ρ₁ := ρtok row at_ (some (.str [k])) Option.none Option.none) (Ex.asg (v := .str [k]) (by walk_at "ev") (by walk_at "upd")) ?_
  refine Exs.ifF (mu₁ := mu) (Ts.eq (by walk_at "ts") (by rw [slA hd]; exact h)) ?_
  refine Exs.ifF (mu₁ := mu) (Ts.eq (by walk_at "ts") hl) ?_
  refine Exs.ifF (mu₁ := mu) (Ts.eq (by walk_at "ts") hq) ?_
  refine Exs.ifF (mu₁ := mu) (Ts.eq (by walk_at "ts") ho) ?_
  refine Exs.ifF (mu₁ := mu) (Ts.eq (by walk_at "ts") h1) ?_
  refine Exs.ifF (mu₁ := mu) (Ts.eq (by walk_at "ts") h2) ?_
  refine Exs.ifT (mu₁ := mu) (Ts.eq (by walk_at "ts") hs) ?_
  exact Exs.ret (Ex.ret (Ev.tup (EvL.cons (Ev.lst (by walk_at "evl")) (by walk_at "evl"))))
end
-- text P14
section
variable {c : Cx}
theorem Exs.while {F : FS} {n : Nat} {pos : Pos} {test : Expr} {body sts : List Stmt} {out : Out} {ι : Type} (ρs : ι → Loc) (mus : ι → Mem) (P : ι → Prop) (meas : ι → Nat)
    (step : ∀ i, P i → (Ts c F n (ρs i) (mus i) test false (mus i) ∧ Exs c F n (ρs i) (mus i) sts out) ∨ (∃ j mu', meas j < meas i ∧ P j ∧ Ts c F n (ρs i) (mus i) test true mu' ∧ Exs c F n (ρs i) mu' body (.next (ρs j) (mus j)))) :
    ∀ i, P i → Exs c F n (ρs i) (mus i) (.While test body [] pos :: sts) out := by
  have key : ∀ m i, meas i ≤ m → P i → ∃ j, Wh c F n (ρs i) (mus i) test body (.next (ρs j) (mus j)) ∧ Exs c F n (ρs j) (mus j) sts out := by
    intro m
    induction m with
    | zero =>
      intro i hm hp
      rcases step i hp with ⟨h1, h2⟩ | ⟨j, mu', hj, _⟩
      · exact ⟨i, Wh.stop h1, h2⟩
      · omega
    | succ m ih =>
      intro i hm hp
      rcases step i hp with ⟨h1, h2⟩ | ⟨j, mu', hj, pj, ht, hb⟩
      · exact ⟨i, Wh.stop h1, h2⟩
      · obtain ⟨k, hw, hx⟩ := ih j (by omega) pj
        exact ⟨k, Wh.turn ht hb hw, hx⟩
  intro i hp
  obtain ⟨j, hw, hx⟩ := key _ i (Nat.le_refl _) hp
  exact Exs.cons (Ex.whl hw) hx
theorem Fn.freeze {n : Nat} {f : Value} {args : List PV} {mu : Mem} {ts : List PV} (W : Wf mu) (hu : PV.underL mu.length ts = true) (h : Fn c n f args mu (.cell mu.length) (mu ++ [.list ts])) : Fn c n f args mu (.lst ts) mu := by
  refine ⟨fun g al s A vs R st r => codeAny_mono (h.run g al s A vs R st r) fun r' s' hr => ?_⟩
  obtain ⟨y, rfl, g', al', S, st', a, rfl, ha⟩ := hr
  have hl : al.length = mu.length := st.hs.len
  have hl' : al'.length = mu.length + 1 := by rw [st'.hs.len]; simp
  have tk := take_pre S.ext.pre hl
  obtain ⟨vs', m, H, rp, ga⟩ := st'.hs.freeze (k := mu.length) (xs := ts) ha (by rw [List.getElem?_append_right (Nat.le_refl _)]; simp) hl'.symm (by rw [List.take_left]; exact W.ok) hu
  rw [tk, List.take_left] at H
  rw [tk] at rp
  refine ⟨_, rfl, g'.upd a (lstObj vs' m), al, ⟨⟨fun b o e => GH.upd_le g' _ ga b o (S.ext.le b o e), List.prefix_refl _⟩, S.keep, S.alive, fun b o nm e q => ?_, fun b o nm _ => nm⟩, ⟨H, st'.gens, st'.os⟩, rp⟩
  rw [GH.upd_ne]
  · exact S.out b o nm e q
  · rintro rfl; exact S.outA b o nm e (List.mem_of_getElem? ha)
inductive Lx (c : Cx) (row : List Nat) : List Nat → List PV → Prop
  | nil : Lx c row [] []
  | cons {d : List Nat} {ts ts' : List PV} {m : Nat} : TokAt c row d ts m → 0 < m → d ≠ [] → ts.length ≤ 1 → PV.underL 0 ts = true → Lx c row ((d.drop m).drop (nblank (d.drop m))) ts' → Lx c row d (ts ++ ts')
mutual
theorem PV.under_mono {k j : Nat} (h : k ≤ j) : ∀ p : PV, p.under k = true → p.under j = true
  | .none, _ => rfl
  | .bool _, _ => rfl
  | .int _, _ => rfl
  | .str _, _ => rfl
  | .tup xs, b => by rw [PV.under] at b ⊢; exact PV.underL_mono h xs b
  | .lst xs, b => by rw [PV.under] at b ⊢; exact PV.underL_mono h xs b
  | .cell i, b => by rw [PV.under] at b ⊢; simp at b ⊢; omega
  | .inst _ i, b => by rw [PV.under] at b ⊢; simp at b ⊢; omega
  | .val _, _ => rfl
theorem PV.underL_mono {k j : Nat} (h : k ≤ j) : ∀ ps : List PV, PV.underL k ps = true → PV.underL j ps = true
  | [], _ => rfl
  | p :: ps, b => by
    rw [PV.underL, Bool.and_eq_true] at b ⊢
    exact ⟨PV.under_mono h p b.1, PV.underL_mono h ps b.2⟩
end
theorem kvBelow_mono {k j : Nat} (h : k ≤ j) : ∀ kv : List (PySem.Str × PV), kvBelow k kv = true → kvBelow j kv = true
  | [], _ => rfl
  | p :: r, b => by
    rw [kvBelow, Bool.and_eq_true] at b ⊢
    exact ⟨PV.under_mono h _ b.1, kvBelow_mono h r b.2⟩
theorem Cell.under_mono {k j : Nat} (h : k ≤ j) : ∀ cl : Cell, cl.under k = true → cl.under j = true
  | .list _, b => PV.underL_mono h _ b
  | .dict _, b => kvBelow_mono h _ b
  | .obj _, _ => rfl
  | .lit _ _, b => PV.underL_mono h _ b
  | .rit _ _, b => PV.underL_mono h _ b
  | .sit _ _, _ => rfl
  | .git _ _, _ => rfl
  | .map _ _, b => kvBelow_mono h _ b
theorem memBelow_mono {k j : Nat} (h : k ≤ j) : ∀ mu : Mem, memBelow k mu = true → memBelow j mu = true
  | [], _ => rfl
  | cl :: r, b => by
    rw [memBelow, Bool.and_eq_true] at b ⊢
    exact ⟨Cell.under_mono h _ b.1, memBelow_mono h r b.2⟩
theorem Wf.snoc {mu : Mem} {cl : Cell} (W : Wf mu) (h : cl.under (mu.length + 1) = true) : Wf (mu ++ [cl]) := by
  refine ⟨?_⟩
  rw [List.length_append, memBelow_take, memBelow_mono (Nat.le_add_right _ _) mu W.ok]
  show (true && (cl.under (mu.length + 1) && true)) = true
  rw [h]; rfl
theorem underL_append {k : Nat} : ∀ {a b : List PV}, PV.underL k a = true → PV.underL k b = true → PV.underL k (a ++ b) = true
  | [], _, _, h => h
  | p :: a, b, h, h' => by
    rw [List.cons_append, PV.underL, Bool.and_eq_true]
    rw [PV.underL, Bool.and_eq_true] at h
    exact ⟨h.1, underL_append h.2 h'⟩
structure LI where
  at_ : Nat
  found : List PV
  told : Option PV
  ts : List PV
theorem Lx.length {row d : List Nat} {ts : List PV} (h : Lx c row d ts) : ts.length ≤ d.length := by
  induction h with
  | nil => exact Nat.le_refl _
  | @cons d ts ts' m _ hm hd h1 _ _ ih =>
    rw [List.length_append]
    rw [List.length_drop, List.length_drop] at ih
    have : 0 < d.length := List.length_pos_iff.mpr hd
    omega
theorem Fn.made {n : Nat} {fa : Addr} {fd : FuncData} {ps rest : List PySem.Str} {gl : List (PySem.Str × Value)} {body : List Stmt} {args : List PV} {mu mu' : Mem} {v : PV} (ρ : Loc) (C : c.Ok) (I : FnAt c fa fd ps rest gl body)
    (hb : Exs c (FSof ps rest gl) n ρ mu body (.ret v mu')) (hle : mu.length ≤ mu'.length) (W : Wf mu') (hv : v.under mu'.length = true) (hl : args.length = ps.length := by rfl) (hρ : start ps rest args = ρ := by rfl) : Fn c (n + 1) (.ref fa) args mu v mu' :=
  Fn.of C I (muB := mu') (hρ ▸ hb) hl (List.take_length).symm hle (by unfold memNarrow; rw [hv, List.take_length, W.ok]; rfl)
theorem tokens_of_ok (G : Pg c) {row : List Nat} {ts : List PV} {mu : Mem} (W : Wf mu) (hz : row.length ≤ 255) (h : Lx c row (row.drop (nblank row)) ts) : Fn c 8 (.ref 162) [.str row] mu (.lst ts) mu := by
  have hz' : row.length < 10000 := by omega
  have hu : ∀ {d ts}, Lx c row d ts → PV.underL 0 ts = true := by
    intro d ts h
    induction h with
    | nil => rfl
    | cons _ _ _ _ hu _ ih => exact underL_append hu ih
  refine Fn.freeze W (PV.underL_mono (Nat.zero_le _) _ (hu h)) ?_
  have W1 : Wf (mu ++ [.list []]) := W.snoc rfl
  refine Fn.made [("row", some (.str row)), ("found", Option.none), ("at", Option.none), ("told", Option.none)] G.ok (at_tokens_of G) ?_ (by simp) (W.snoc (PV.underL_mono (Nat.zero_le _) _ (hu h))) (by rw [PV.under, List.length_append]; simp)
  · have htl := h.length
    rw [List.length_drop] at htl
    refine Exs.ifF (mu₁ := mu) (Ts.eq (by walk_at "ts") (by rw [decide_eq_false_iff_not]; omega)) ?_
    refine Exs.cons (mu₁ := mu ++ [.list []]) (ρ₁ := [("row", some (.str row)), ("found", some (.cell mu.length)), ("at", some (.int ((0 + nblank (row.drop 0) : Nat)))), ("told", Option.none)])
      (Ex.asgD2 (EvL.cons (Ev.lstM EvL.nil) (EvL.cons (Ev.fcall G.ok (by walk_at "ev") (by walk_at "callee") (by walk_at "evl") (Fn.op (skipped_ok G (at_ := 0) W1 hz'))) EvL.nil)) (by walk_at "upd") (by walk_at "upd") (by walk_at "upd") (by walk_at "upd")) ?_
    rw [Nat.zero_add, List.drop_zero]
    refine Exs.while (ι := LI) (fun i => [("row", some (.str row)), ("found", some (.cell mu.length)), ("at", some (.int i.at_)), ("told", i.told)]) (fun i => mu ++ [.list i.found])
      (fun i => Lx c row (row.drop i.at_) i.ts ∧ i.found ++ i.ts = ts ∧ PV.underL 0 i.found = true) (fun i => (row.drop i.at_).length) ?_ ⟨nblank row, [], Option.none, ts⟩ ⟨h, rfl, rfl⟩
    rintro ⟨at_, found, told, tr⟩ ⟨hl, he, hu1⟩
    dsimp only at hl he hu1 ⊢
    generalize hd : row.drop at_ = d at hl
    cases hl with
    | nil =>
      left
      have hle : row.length ≤ at_ := by have := congrArg List.length hd; rw [List.length_drop] at this; simp at this; omega
      rw [List.append_nil] at he
      subst he
      exact ⟨Ts.eq (by walk_at "ts") (decide_eq_false (by omega)), Exs.ret (Ex.ret (by walk_at "ev"))⟩
    | @cons _ t1 t2 m ht hm hne h1 hu2 hr =>
      right
      have hlt : at_ < row.length := by
        have := congrArg List.length hd
        rw [List.length_drop] at this
        have : 0 < d.length := List.length_pos_iff.mpr hne
        omega
      have W2 : Wf (mu ++ [.list found]) := W.snoc (PV.underL_mono (Nat.zero_le _) _ hu1)
      have W3 : Wf (mu ++ [.list (found ++ t1)]) := W.snoc (PV.underL_mono (Nat.zero_le _) _ (underL_append hu1 hu2))
      have hdm : row.drop (at_ + m) = d.drop m := by rw [← List.drop_drop, hd]
      have hdn : row.drop (at_ + m + nblank (row.drop (at_ + m))) = (d.drop m).drop (nblank (d.drop m)) := by rw [← List.drop_drop, hdm]
      have hfl : found.length + t1.length ≤ 255 := by
        have := congrArg List.length he
        rw [List.length_append, List.length_append] at this; omega
      refine ⟨⟨at_ + m + nblank (row.drop (at_ + m)), found ++ t1, some (.lst t1), t2⟩, mu ++ [.list found], ?_, ⟨?_, ?_, ?_⟩, Ts.eq (by walk_at "ts") (decide_eq_true hlt), ?_⟩
      · dsimp only
        rw [hdn, List.length_drop, List.length_drop]
        have : 0 < d.length := List.length_pos_iff.mpr hne
        omega
      · dsimp only; rw [hdn]; exact hr
      · dsimp only; rw [← he, List.append_assoc]
      · exact underL_append hu1 hu2
      · refine Exs.cons (mu₁ := mu ++ [.list found]) (ρ₁ := [("row", some (.str row)), ("found", some (.cell mu.length)), ("at", some (.int ((at_ + m : Nat)))), ("told", some (.lst t1))]) (Ex.asgT2 (Ev.fcall G.ok (by walk_at "ev") (by walk_at "callee") (by walk_at "evl") (Fn.op (ht.run at_ _ W2 hd))) (by walk_at "upd") (by walk_at "upd")) ?_
        have hk : (mu ++ [.list found])[mu.length]? = some (.list found) := get_app0 ..
        have hx := extendC (c := c) (n := 7) (qs := t1) hk (by omega)
        rw [set_app0] at hx
        refine Exs.cons (mu₁ := mu ++ [.list (found ++ t1)]) (ρ₁ := [("row", some (.str row)), ("found", some (.cell mu.length)), ("at", some (.int ((at_ + m : Nat)))), ("told", some (.lst t1))]) (Ex.expr (v := .none) (Ev.meth G.ok (by walk_at "ev") (Meth.cell hk F.slot_list_extend F.type_list_extend) Callee.builtin (by walk_at "evl") hx)) ?_
        exact Exs.cons (Ex.asg (Ev.fcall G.ok (by walk_at "ev") (by walk_at "callee") (by walk_at "evl") (Fn.op (skipped_ok G W3 hz'))) (by walk_at "upd")) Exs.nil
end
-- text P15
section
variable {c : Cx}
noncomputable def valsAt (K : Frag) (a : Addr) : List Value := match K.lookup a with
  | some ⟨_, _, .seq vs _, _⟩ => vs.toList
  | _ => []
noncomputable def lenAt (K : Frag) (a : Addr) : Nat := match K.lookup a with
  | some ⟨_, _, .seq _ n, _⟩ => n
  | _ => 0
noncomputable def isTextV : Value → Bool
  | .str _ _ => true
  | _ => false
noncomputable def textsAt (K : Frag) (a : Addr) : List (List Nat) := (valsAt K a).map textOf
theorem rep_texts {g : GH} {al : List Addr} : ∀ vs : List Value, vs.all isTextV = true → RepL g al ((vs.map textOf).map PV.str) vs
  | [], _ => rfl
  | v :: vs, h => by
    rw [List.all_cons, Bool.and_eq_true] at h
    refine ⟨v, vs, rfl, ?_, rep_texts vs h.2⟩
    cases v with
    | str s t => exact ⟨t, by simp [textOf]⟩
    | _ => cases h.1
theorem GVal.tup (G : Pg c) {a : Addr} (hl : ∀ P, (KK P).lookup a = some (tupObj (valsAt (KK P) a) (lenAt (KK P) a))) (hs : ∀ P, (valsAt (KK P) a).all isTextV = true) : GVal c (.ref a) (.tup ((textsAt (KK c.w.params) a).map PV.str)) :=
  ⟨fun g al hb => ⟨a, valsAt (KK c.w.params) a, lenAt (KK c.w.params) a, rfl, hb _ _ (G.ok.KX _ _ (by rw [G.K]; exact hl _)), rep_texts _ (hs _)⟩⟩
/-! tokens -/
noncomputable abbrev Toks := List (List Nat × List Nat)
noncomputable def tokL (ts : Toks) : List PV := ts.map fun t => tk t.1 t.2
noncomputable def tokG (ts : Toks) (i : Nat) : List Nat × List Nat := (ts[i]?).getD (T "end", T "")
theorem gv_no_token (G : Pg c) : GVal c (.ref 166) (tk (T "end") (T "")) := GVal.tup G (a := 166) (fun P => by kernel_rfl) (fun P => by kernel_rfl)
theorem gv_no_args (G : Pg c) : GVal c (.ref 165) (.tup ((textsAt (KK c.w.params) 165).map PV.str)) := GVal.tup G (a := 165) (fun P => by kernel_rfl) (fun P => by kernel_rfl)
end
local macro_rules | `(tactic| walk_at "opn") => `(tactic| first
  | ((with_reducible show OpN _ _ _ (fun vs => call (.builtin "len") vs) [.lst _] _ _); exact lenL (by walk_at "side"))
  | ((with_reducible show OpN _ _ _ (fun vs => call (.builtin "len") vs) [.cell _] _ _); exact lenC (by walk_at "get") (by walk_at "side")))
section
variable {c : Cx}
end
local macro_rules | `(tactic| walk_at "op") => `(tactic| ((with_reducible show Op2 _ _ _ (compareOp .Eq) (.tup [.str _, .str _]) (.tup [.str _, .str _]) _ _); exact Op2.eqP2))
section
variable {c : Cx}
end
local macro_rules | `(tactic| walk_at "gval") => `(tactic| first
  | ((with_reducible show GVal _ (.ref 166) _); exact gv_no_token (by assumption)) | ((with_reducible show GVal _ (.ref 165) _); exact gv_no_args (by assumption)))
section
variable {c : Cx}
theorem tokL_get {ts : Toks} {i : Nat} (h : i < ts.length) : (tokL ts)[i]? = some (tk (tokG ts i).1 (tokG ts i).2) := by
  unfold tokL tokG
  rw [List.getElem?_map, List.getElem?_eq_getElem h]; rfl
theorem under_tk {k : Nat} {a b : List Nat} : (tk a b).under k = true := rfl
theorem token_at_ok (G : Pg c) {ts : Toks} {i : Nat} {mu : Mem} (W : Wf mu) (hz : ts.length < 10000) (hi : i < 100000) : Fn c 1 (.ref 173) [.lst (tokL ts), .int i] mu (tk (tokG ts i).1 (tokG ts i).2) mu := by
  refine Fn.pure [("tokens", some (.lst (tokL ts))), ("at", some (.int i))] G.ok (at_token_at G) W (Exs.ret (Ex.ret ?_))
  have hl : (tokL ts).length = ts.length := by unfold tokL; rw [List.length_map]
  by_cases h : i < ts.length
  · have hg := tokL_get h
    exact Ev.ifT (mu₁ := mu) (Ts.eq (by walk_at "ts") (decide_eq_true (by rw [hl]; exact h))) (Ev.sub (by walk_at "ev") (by walk_at "ev") (Op2.idxLN hg (by omega)))
  · have hg : tokG ts i = (T "end", T "") := by unfold tokG; rw [List.getElem?_eq_none (by omega)]; rfl
    rw [hg]
    exact Ev.ifF (mu₁ := mu) (Ts.eq (by walk_at "ts") (decide_eq_false (by rw [hl]; exact h))) (Ev.glbV G.ok (by walk_at "mem") (gv_no_token G))
noncomputable def isSg (ts : Toks) (i : Nat) (s : List Nat) : Bool := decide ((tokG ts i).1 = T "sign") && decide ((tokG ts i).2 = s)
end
local macro_rules | `(tactic| walk_at "opn") => `(tactic| ((with_reducible show OpN _ _ _ (fun vs => call (.ref 173) vs) _ _ _); exact Fn.op (token_at_ok (by assumption) (by assumption) (by assumption) (by walk_at "side"))))
section
variable {c : Cx}
theorem is_sign_ok (G : Pg c) {ts : Toks} {i : Nat} {s : List Nat} {mu : Mem} (W : Wf mu) (hz : ts.length < 10000) (hi : i < 10000) : Fn c 2 (.ref 180) [.lst (tokL ts), .int i, .str s] mu (.bool (isSg ts i s)) mu :=
  Fn.pure [("tokens", some (.lst (tokL ts))), ("at", some (.int i)), ("sign", some (.str s))] G.ok (at_is_sign G) W (Exs.ret (Ex.ret (by walk_at "ev")))
end
local macro_rules | `(tactic| walk_at "opn") => `(tactic| ((with_reducible show OpN _ _ _ (fun vs => call (.ref 180) vs) _ _ _); exact Fn.op (is_sign_ok (by assumption) (by assumption) (by assumption) (by walk_at "side"))))
section
variable {c : Cx}
theorem expect_ok (G : Pg c) {ts : Toks} {i : Nat} {s : List Nat} {mu : Mem} (W : Wf mu) (hz : ts.length < 10000) (hi : i < 10000) (h : isSg ts i s = true) : Fn c 3 (.ref 187) [.lst (tokL ts), .int i, .str s] mu (.int ((i + 1 : Nat))) mu := by
  refine Fn.pure [("tokens", some (.lst (tokL ts))), ("at", some (.int i)), ("sign", some (.str s))] G.ok (at_expect G) W ?_
  exact Exs.ifF (mu₁ := mu) (Ts.eq (Ts.not (Ts.of (by walk_at "ev") OpB.bool)) (by rw [h]; rfl)) (Exs.ret (Ex.ret (by walk_at "ev")))
end
-- text P16
section
variable {c : Cx}
/-! trees -/
inductive Tr where
  | whole (n : Nat)
  | dec (a e : Int)
  | nm (x : List Nat)
  | tx (x : List Nat)
  | app (k w : List Nat) (as : List Tr)
  | un (k : List Nat) (t : Tr)
  | two (w : List Nat) (a b : Tr)
mutual
noncomputable def Tr.pv : Tr → PV
  | .whole n => .tup [.str (T "whole"), .int n]
  | .dec a e => .tup [.str (T "decimal"), .tup [.int a, .int e]]
  | .nm x => .tup [.str (T "name"), .str x]
  | .tx x => .tup [.str (T "text"), .str x]
  | .app k w as => .tup [.str k, .str w, .lst (Tr.pvL as)]
  | .un k t => .tup [.str k, t.pv]
  | .two w a b => .tup [.str (T "two"), .str w, a.pv, b.pv]
noncomputable def Tr.pvL : List Tr → List PV
  | [] => []
  | t :: ts => t.pv :: Tr.pvL ts
end
theorem Tr.pvL_map : ∀ ts : List Tr, Tr.pvL ts = ts.map Tr.pv
  | [] => rfl
  | t :: ts => by rw [Tr.pvL, Tr.pvL_map ts]; rfl
mutual
theorem Tr.under (k : Nat) : ∀ t : Tr, t.pv.under k = true
  | .whole n => rfl
  | .dec a e => rfl
  | .nm x => rfl
  | .tx x => rfl
  | .app _ w as => by simp [Tr.pv, PV.under, PV.underL, Tr.underL k as]
  | .un _ t => by simp [Tr.pv, PV.under, PV.underL, Tr.under k t]
  | .two w a b => by simp [Tr.pv, PV.under, PV.underL, Tr.under k a, Tr.under k b]
theorem Tr.underL (k : Nat) : ∀ ts : List Tr, PV.underL k (Tr.pvL ts) = true
  | [] => rfl
  | t :: ts => by rw [Tr.pvL, PV.underL, Tr.under k t, Tr.underL k ts]; rfl
end
/-! figures -/
noncomputable def valD (f : Nat) : List Nat → Nat
  | [] => f
  | k :: r => if figB [k] then valD (f * 10 + k - 48) r else f
theorem fig_bounds {k : Nat} (h : figB [k] = true) : 48 ≤ k ∧ k ≤ 57 := by
  unfold figB at h
  have e1 : T "0" = [48] := rfl
  have e2 : T "9" = [57] := rfl
  rw [e1, e2, Bool.and_eq_true] at h
  obtain ⟨h1, h2⟩ := h
  simp at h1 h2
  constructor
  · by_cases q : 48 ≤ k
    · exact q
    · exfalso
      have : [k] < [48] := List.Lex.rel (by omega)
      first | exact h1 this | exact absurd this (by simpa using h1)
  · by_cases q : k ≤ 57
    · exact q
    · exfalso
      have : [57] < [k] := List.Lex.rel (by omega)
      first | exact h2 this | exact absurd this (by simpa using h2)
structure FI where
  at_ : Nat
  f : Nat
end
local macro_rules | `(tactic| walk_at "ts") => `(tactic| ((with_reducible show Ts _ _ _ _ _ (.Compare _ [_, _] _ _) _ _); exact Ts.chain (by walk_at "ev") (by walk_at "ev") (by walk_at "op") (by walk_at "ev") (by walk_at "op")))
section
variable {c : Cx}
theorem figures_at_ok (G : Pg c) {x d : List Nat} {at_ : Nat} {mu : Mem} (W : Wf mu) (hz : x.length < 10000) (hd : x.drop at_ = d) (hn : nfig d ≤ 60) :
    Fn c 1 (.ref 194) [.str x, .int at_] mu (.tup [.int (valD 0 d), .int (nfig d), .int ((at_ + nfig d : Nat))]) mu := by
  refine Fn.pure [("text", some (.str x)), ("at", some (.int at_)), ("found", Option.none), ("begin", Option.none)] G.ok (at_figures_at G) W ?_
  refine Exs.cons (mu₁ := mu) (ρ₁ := [("text", some (.str x)), ("at", some (.int at_)), ("found", some (.int ((0 : Nat)))), ("begin", some (.int at_))]) (Ex.asgD2 (by walk_at "evl") (by walk_at "upd") (by walk_at "upd") (by walk_at "upd") (by walk_at "upd")) ?_
  refine Exs.while (ι := FI) (fun i => [("text", some (.str x)), ("at", some (.int i.at_)), ("found", some (.int i.f)), ("begin", some (.int at_))]) (fun _ => mu)
    (fun i => valD i.f (x.drop i.at_) = valD 0 d ∧ i.at_ + nfig (x.drop i.at_) = at_ + nfig d ∧ at_ ≤ i.at_) (fun i => x.length - i.at_) ?_ ⟨at_, 0⟩ ⟨by rw [hd], by rw [hd], Nat.le_refl _⟩
  rintro ⟨a, f⟩ ⟨h1, h2, h3⟩
  dsimp only at h1 h2 h3 ⊢
  by_cases hlt : a < x.length
  · obtain ⟨k, hk⟩ := get_lt hlt
    rw [drop_get hk] at h1 h2
    cases hf : figB [k] with
    | true =>
      right
      have hb := fig_bounds hf
      rw [valD, if_pos hf] at h1
      rw [nfig, if_pos hf] at h2
      have hn' : (a + 1 - at_) ≤ 60 := by omega
      refine ⟨⟨a + 1, f * 10 + k - 48⟩, mu, by dsimp only; omega, ⟨h1, by dsimp only; omega, by dsimp only; omega⟩, Ts.eq (t := decide (a < x.length) && figB [k]) (by walk_at "ts") (by rw [hf, decide_eq_true hlt]; rfl), ?_⟩
      refine Exs.cons (mu₁ := mu) (ρ₁ := [("text", some (.str x)), ("at", some (.int a)), ("found", some (.int ((f * 10 + k - 48 : Nat)))), ("begin", some (.int at_))]) (Ex.asg (v := .int ((f * 10 + k - 48 : Nat))) (Ev.eq (by walk_at "ev") (by congr 1; omega)) (by walk_at "upd")) ?_
      refine Exs.cons (mu₁ := mu) (by walk_at "st") ?_
      exact Exs.ifF (mu₁ := mu) (Ts.eq (by walk_at "ts") (by rw [decide_eq_false_iff_not]; omega)) Exs.nil
    | false =>
      left
      rw [valD, if_neg (by rw [hf]; decide)] at h1
      rw [nfig, if_neg (by rw [hf]; decide)] at h2
      refine ⟨Ts.eq (t := decide (a < x.length) && figB [k]) (by walk_at "ts") (by rw [hf, Bool.and_false]), ?_⟩
      exact Exs.ret (Ex.ret (Ev.eq (by walk_at "ev") (by rw [← h1, ← h2, show ((a : Int) - (at_ : Int)) = ((nfig d : Nat) : Int) by omega]; rfl)))
  · left
    have hdr : x.drop a = [] := List.drop_eq_nil_of_le (by omega)
    rw [hdr] at h1 h2
    refine ⟨Ts.boolop (TsAll.andF ?_), ?_⟩
    · rw [← decide_eq_false hlt]; walk_at "ts"
    · have e1 : valD f [] = f := rfl
      have e2 : nfig [] = 0 := rfl
      rw [e1] at h1
      rw [e2] at h2
      exact Exs.ret (Ex.ret (Ev.eq (by walk_at "ev") (by rw [← h1, ← h2, show ((a : Int) - (at_ : Int)) = ((nfig d : Nat) : Int) by omega]; rfl)))
end
-- text P17
section
variable {c : Cx}
section
variable {n : Nat} {mu : Mem} {a : Nat}
theorem Op2.imulN {b : Nat} (h : IntMulOk a b) : Op2 c n mu (inplaceOp .Mult) (.int a) (.int b) (.int ((a * b : Nat))) mu := Op2.imulI h
theorem Op2.modT : Op2 c n mu (binaryOp .Mod) (.int a) (.int (10 : Nat)) (.int ((a % 10 : Nat))) mu := by
  have := Op2.modI (c := c) (n := n) (mu := mu) (a := (a : Int)) (b := ((10 : Nat) : Int)) (by decide)
  rwa [show Int.fmod (a : Int) ((10 : Nat) : Int) = ((a % 10 : Nat) : Int) by rw [Int.fmod_eq_emod_of_nonneg _ (by decide)]; exact (Int.natCast_emod a 10).symm] at this
theorem Op2.divT : Op2 c n mu (binaryOp .FloorDiv) (.int a) (.int (10 : Nat)) (.int ((a / 10 : Nat))) mu := by
  have := Op2.divI (c := c) (n := n) (mu := mu) (a := (a : Int)) (b := ((10 : Nat) : Int)) (by decide) (PyProof.noPylong_small (by decide))
  rwa [show Int.fdiv (a : Int) ((10 : Nat) : Int) = ((a / 10 : Nat) : Int) by rw [Int.fdiv_eq_ediv_of_nonneg _ (by decide)]; exact (Int.natCast_ediv a 10).symm] at this
end
end
local macro_rules | `(tactic| walk_at "op") => `(tactic| first
  | ((with_reducible show Op2 _ _ _ (inplaceOp .Mult) (.int (Nat.cast _)) (.int (Nat.cast _)) _ _); exact Op2.imulN (IntMulOk.of_right (by decide)))
  | ((with_reducible show Op2 _ _ _ (binaryOp .Mod) (.int _) (.int (Nat.cast 10)) _ _); exact Op2.modT)
  | ((with_reducible show Op2 _ _ _ (binaryOp .FloorDiv) (.int _) (.int (Nat.cast 10)) _ _); exact Op2.divT))
section
variable {c : Cx}
end
local macro_rules | `(tactic| walk_at "ev") => `(tactic| first
  | ((with_reducible show Ev _ _ _ _ _ (.Subscript _ (.Slice (some _) Option.none Option.none _) _) _ _); exact Ev.slN_ (by walk_at "ev") (by walk_at "ev") (by walk_at "side"))
  | ((with_reducible show Ev _ _ _ _ _ (.Subscript _ (.Slice Option.none (some _) Option.none _) _) _ _); exact Ev.sl_N (by walk_at "ev") (by walk_at "ev") (by walk_at "side"))
  | ((with_reducible show Ev _ _ _ _ _ (.UnaryOp .USub _ _) _ _); exact Ev.un (by walk_at "ev") Op1.negI))
section
variable {c : Cx}
/-! how many figures -/
noncomputable def manyN : Nat → Nat → Nat → Nat → Option Nat
  | 0, _, _, _ => Option.none
  | f + 1, N, many, bound => if bound ≤ N then manyN f N (many + 1) (bound * 10) else some many
structure MI where
  f : Nat
  many : Nat
  bound : Nat
theorem figures_of_ok (G : Pg c) {N r f : Nat} {mu : Mem} (W : Wf mu) (h : manyN f N 1 10 = some r) : Fn c 1 (.ref 44) [.int N] mu (.int r) mu := by
  refine Fn.pure [("number", some (.int N)), ("many", Option.none), ("bound", Option.none)] G.ok (at_figures_of G) W ?_
  refine Exs.cons (mu₁ := mu) (ρ₁ := [("number", some (.int N)), ("many", some (.int (1 : Nat))), ("bound", some (.int (10 : Nat)))]) (Ex.asgD2 (v := .int ((1 : Nat) : Int)) (w := .int ((10 : Nat) : Int)) (EvL.cons (Ev.intN rfl) (EvL.cons (Ev.intN rfl) EvL.nil)) (by walk_at "upd") (by walk_at "upd") (by walk_at "upd") (by walk_at "upd")) ?_
  refine Exs.while (ι := MI) (fun i => [("number", some (.int N)), ("many", some (.int i.many)), ("bound", some (.int i.bound))]) (fun _ => mu) (fun i => manyN i.f N i.many i.bound = some r) (fun i => i.f) ?_ ⟨f, 1, 10⟩ h
  rintro ⟨f, many, bound⟩ h
  dsimp only at h ⊢
  cases f with
  | zero => cases h
  | succ f =>
    unfold manyN at h
    split at h
    · rename_i hb
      right
      exact ⟨⟨f, many + 1, bound * 10⟩, mu, Nat.lt_succ_self _, h, Ts.eq (by walk_at "ts") (decide_eq_true hb), Exs.cons (by walk_at "st") (Exs.cons (by walk_at "st") Exs.nil)⟩
    · rename_i hb
      left
      cases h
      exact ⟨Ts.eq (by walk_at "ts") (decide_eq_false hb), Exs.ret (Ex.ret (by walk_at "ev"))⟩
/-! exactly -/
noncomputable def stripM : Nat → Nat → Int → Option (Nat × Int)
  | 0, _, _ => Option.none
  | f + 1, a, e => if a % 10 = 0 then stripM f (a / 10) (e + ((1 : Nat) : Int)) else some (a, e)
noncomputable def toldM (a : Nat) (e : Int) : Option (Nat × Int) :=
  if a = 0 then some (0, 0) else match stripM 60 a e with
    | Option.none => Option.none
    | some (b, d) => match manyN 60 b 1 10 with
      | Option.none => Option.none
      | some m => if 99 < d + (m : Int) - 1 then Option.none else if -99 - 1 ≤ d + (m : Int) - 1 then some (b, d) else Option.none
structure SI where
  f : Nat
  a : Nat
  e : Int
theorem told_exactly_ok (G : Pg c) {a b : Nat} {e d : Int} {mu : Mem} (W : Wf mu) (h : toldM a e = some (b, d)) : Fn c 2 (.ref 208) [.int a, .int e] mu (.tup [.int b, .int d]) mu := by
  refine Fn.pure [("coefficient", some (.int a)), ("exponent", some (.int e)), ("first", Option.none)] G.ok (at_told_exactly G) W ?_
  unfold toldM at h
  split at h
  · rename_i h0
    cases h
    exact Exs.ifT (mu₁ := mu) (Ts.eq (by walk_at "ts") (decide_eq_true h0)) (Exs.ret (Ex.ret (by walk_at "ev")))
  · rename_i h0
    refine Exs.ifF (mu₁ := mu) (Ts.eq (by walk_at "ts") (decide_eq_false h0)) ?_
    split at h
    · cases h
    rename_i b' d' hs
    split at h
    · cases h
    rename_i m hm
    split at h
    · cases h
    rename_i hq1
    split at h
    · rename_i hq2
      cases h
      refine Exs.while (ι := SI) (fun i => [("coefficient", some (.int i.a)), ("exponent", some (.int i.e)), ("first", Option.none)]) (fun _ => mu) (fun i => stripM i.f i.a i.e = some (b, d)) (fun i => i.f) ?_ ⟨60, a, e⟩ hs
      rintro ⟨f, a, e⟩ h
      dsimp only at h ⊢
      cases f with
      | zero => cases h
      | succ f =>
        unfold stripM at h
        split at h
        · rename_i hb
          right
          exact ⟨⟨f, a / 10, e + ((1 : Nat) : Int)⟩, mu, Nat.lt_succ_self _, h, Ts.eq (by walk_at "ts") (decide_eq_true hb), Exs.cons (Ex.asgD2 (by walk_at "evl") (by walk_at "upd") (by walk_at "upd") (by walk_at "upd") (by walk_at "upd")) Exs.nil⟩
        · rename_i hb
          left
          cases h
          refine ⟨Ts.eq (by walk_at "ts") (decide_eq_false hb), ?_⟩
          refine Exs.cons (mu₁ := mu) (ρ₁ := [("coefficient", some (.int b)), ("exponent", some (.int d)), ("first", some (.int (d + (m : Int) - 1)))]) (Ex.asg (v := .int (d + (m : Int) - 1)) (Ev.eq (Ev.bin (Ev.bin (by walk_at "ev") (Ev.fcall G.ok (by walk_at "ev") (by walk_at "callee") (by walk_at "evl") (Fn.op (figures_of_ok G W hm))) (by walk_at "op")) (by walk_at "ev") (by walk_at "op")) (by rfl)) (by walk_at "upd")) ?_
          refine Exs.ifF (mu₁ := mu) (Ts.eq (by walk_at "ts") (decide_eq_false hq1)) ?_
          exact Exs.ret (Ex.ret (Ev.ifT (mu₁ := mu) (Ts.eq (by walk_at "ts") (decide_eq_true hq2)) (by walk_at "ev")))
    · cases h
end
-- text P18
section
variable {c : Cx}
noncomputable def pwB (d : List Nat) : Nat := if [T "+", T "-"].contains ((d.drop 1).take (2 - 1)) then 2 else 1
noncomputable def pwM (d : List Nat) : Option (Int × Nat) :=
  if [T "E", T "D"].contains (d.take 1) then
    if 60 < nfig (d.drop (pwB d)) then Option.none
    else if 999 < valD 0 (d.drop (pwB d)) then Option.none
    else some (if (d.drop 1).take (2 - 1) = T "-" then -(valD 0 (d.drop (pwB d)) : Int) else (valD 0 (d.drop (pwB d)) : Int), pwB d + nfig (d.drop (pwB d)))
  else some (0, 0)
theorem power_at_ok (G : Pg c) {x d : List Nat} {at_ m : Nat} {p : Int} {mu : Mem} (W : Wf mu) (hz : x.length < 10000) (hd : x.drop at_ = d) (h : pwM d = some (p, m)) : Fn c 2 (.ref 201) [.str x, .int at_] mu (.tup [.int p, .int ((at_ + m : Nat))]) mu := by
  refine Fn.pure [("text", some (.str x)), ("at", some (.int at_)), ("sign", Option.none), ("found", Option.none), ("many", Option.none), ("end", Option.none)] G.ok (at_power_at G) W ?_
  unfold pwM at h
  split at h
  · rename_i q1
    split at h
    · cases h
    rename_i q2
    split at h
    · cases h
    rename_i q3
    cases h
    refine Exs.ifF (mu₁ := mu) (Ts.eq (by walk_at "ts") (by rw [sl0 hd, q1]; rfl)) ?_
    refine Exs.cons (mu₁ := mu) (ρ₁ := [("text", some (.str x)), ("at", some (.int at_)), ("sign", some (.str ((d.drop 1).take (2 - 1)))), ("found", Option.none), ("many", Option.none), ("end", Option.none)]) (Ex.asg (v := .str ((d.drop 1).take (2 - 1))) (Ev.eq (by walk_at "ev") (by rw [slA hd])) (by walk_at "upd")) ?_
    have key : ∀ {p1 p2 p3 p4 p5 p6 p7 p8 p9 p10 p11 p12 : Pos} {k1 k2 k3 k4 k5 : Nat}, Ev c (fs_power_at c) 1 [("text", some (.str x)), ("at", some (.int at_)), ("sign", some (.str ((d.drop 1).take (2 - 1)))), ("found", Option.none), ("many", Option.none), ("end", Option.none)] mu
        (.IfExp (.Compare (.Name "sign" p1) [.In] [.Tuple [.Constant (.str "+") k1 p2, .Constant (.str "-") k2 p3] k3 p4] p5) (.BinOp (.Name "at" p6) .Add (.Constant (.int 2) k4 p7) p8) (.BinOp (.Name "at" p9) .Add (.Constant (.int 1) k5 p10) p11) p12) (.int ((at_ + pwB d : Nat))) mu := by
      intros
      unfold pwB
      split
      · rename_i q; exact Ev.ifT (mu₁ := mu) (Ts.eq (by walk_at "ts") q) (by walk_at "ev")
      · rename_i q; exact Ev.ifF (mu₁ := mu) (Ts.eq (by walk_at "ts") (by simpa using q)) (by walk_at "ev")
    refine Exs.cons (mu₁ := mu) (ρ₁ := [("text", some (.str x)), ("at", some (.int at_)), ("sign", some (.str ((d.drop 1).take (2 - 1)))), ("found", some (.int (valD 0 (d.drop (pwB d))))), ("many", some (.int (nfig (d.drop (pwB d))))), ("end", some (.int ((at_ + pwB d + nfig (d.drop (pwB d)) : Nat))))])
      (Ex.asgT3 (Ev.fcall G.ok (by walk_at "ev") (by walk_at "callee") (EvL.cons (by walk_at "ev") (EvL.cons key EvL.nil)) (Fn.op (figures_at_ok G W hz (drA hd (pwB d)) (by omega)))) (by walk_at "upd") (by walk_at "upd") (by walk_at "upd")) ?_
    refine Exs.ifF (mu₁ := mu) (Ts.eq (by walk_at "ts") (decide_eq_false q3)) ?_
    rw [← Nat.add_assoc]
    by_cases q4 : (d.drop 1).take (2 - 1) = T "-"
    · rw [if_pos q4]
      exact Exs.ret (Ex.ret (Ev.tup (EvL.cons (Ev.ifT (mu₁ := mu) (Ts.eq (by walk_at "ts") (decide_eq_true q4)) (by walk_at "ev")) (by walk_at "evl"))))
    · rw [if_neg q4]
      exact Exs.ret (Ex.ret (Ev.tup (EvL.cons (Ev.ifF (mu₁ := mu) (Ts.eq (by walk_at "ts") (decide_eq_false q4)) (by walk_at "ev")) (by walk_at "evl"))))
  · rename_i q1
    cases h
    exact Exs.ifT (mu₁ := mu) (Ts.eq (by walk_at "ts") (by rw [sl0 hd]; simpa using q1)) (Exs.ret (Ex.ret (Ev.eq (by walk_at "ev") (by rfl))))
/-! numbers as trees -/
noncomputable def fracM (x : List Nat) : Option (Nat × Nat × Nat) :=
  if (x.drop (nfig x)).take 1 = T "." then (if 60 < nfig (x.drop (nfig x + 1)) then Option.none else some (valD 0 (x.drop (nfig x + 1)), nfig (x.drop (nfig x + 1)), nfig x + 1 + nfig (x.drop (nfig x + 1)))) else some (0, 0, nfig x)
noncomputable def numT (x : List Nat) : Option Tr :=
  if 60 < nfig x then Option.none
  else if [T "", T "%"].contains (x.drop (nfig x)) then some (.whole (valD 0 x))
  else match fracM x with
    | Option.none => Option.none
    | some (b, pl, m) => match pwM (x.drop m) with
      | Option.none => Option.none
      | some (p, _) => if 64 < Builtin.Int.intBits ((((10 : Nat) : Int)) ^ ((pl : Int).toNat)) then Option.none else match toldM (valD 0 x * 10 ^ pl + b) (p - (pl : Int)) with
        | Option.none => Option.none
        | some (a, e) => some (.dec a e)
theorem number_tree_ok (G : Pg c) {x : List Nat} {t : Tr} {mu : Mem} (W : Wf mu) (hz : x.length < 10000) (h : numT x = some t) : Fn c 3 (.ref 215) [.str x] mu t.pv mu := by
  refine Fn.pure [("text", some (.str x)), ("front", Option.none), ("many", Option.none), ("at", Option.none), ("behind", Option.none), ("places", Option.none), ("power", Option.none)] G.ok (at_number_tree G) W ?_ (hv := Tr.under _ t)
  unfold numT at h
  split at h
  · cases h
  rename_i q0
  have f0 := figures_at_ok G (at_ := 0) (d := x) W hz rfl (by omega)
  rw [Nat.zero_add] at f0
  refine Exs.cons (mu₁ := mu) (ρ₁ := [("text", some (.str x)), ("front", some (.int (valD 0 x))), ("many", some (.int (nfig x))), ("at", some (.int (nfig x))), ("behind", Option.none), ("places", Option.none), ("power", Option.none)]) (Ex.asgT3 (Ev.fcall G.ok (by walk_at "ev") (by walk_at "callee") (by walk_at "evl") (Fn.op f0)) (by walk_at "upd") (by walk_at "upd") (by walk_at "upd")) ?_
  split at h
  · rename_i q1
    cases h
    exact Exs.ifT (mu₁ := mu) (Ts.eq (by walk_at "ts") q1) (Exs.ret (Ex.ret (by walk_at "ev")))
  · rename_i q1
    refine Exs.ifF (mu₁ := mu) (Ts.eq (by walk_at "ts") (by simpa using q1)) ?_
    refine Exs.cons (mu₁ := mu) (ρ₁ := [("text", some (.str x)), ("front", some (.int (valD 0 x))), ("many", some (.int (nfig x))), ("at", some (.int (nfig x))), ("behind", some (.int (0 : Nat))), ("places", some (.int (0 : Nat))), ("power", Option.none)]) (Ex.asgD2 (by walk_at "evl") (by walk_at "upd") (by walk_at "upd") (by walk_at "upd") (by walk_at "upd")) ?_
    split at h
    · cases h
    rename_i b pl m q2
    split at h
    · cases h
    rename_i p m' q3
    split at h
    · cases h
    rename_i q4
    split at h
    · cases h
    rename_i a e q5
    cases h
    refine Exs.cons (mu₁ := mu) (ρ₁ := [("text", some (.str x)), ("front", some (.int (valD 0 x))), ("many", some (.int (nfig x))), ("at", some (.int m)), ("behind", some (.int b)), ("places", some (.int pl)), ("power", Option.none)]) ?_ ?_
    · unfold fracM at q2
      have sx : (x.drop (nfig x)).take (nfig x + 1 - nfig x) = (x.drop (nfig x)).take 1 := by rw [Nat.add_sub_cancel_left]
      split at q2
      · rename_i q6
        split at q2
        · cases q2
        cases q2
        exact Ex.ite (mu₁ := mu) (t := true) (Ts.eq (by walk_at "ts") (by rw [sx]; exact decide_eq_true q6)) (fun _ => Exs.cons (Ex.asgT3 (Ev.fcall G.ok (by walk_at "ev") (by walk_at "callee") (by walk_at "evl") (Fn.op (figures_at_ok G W hz rfl (by omega)))) (by walk_at "upd") (by walk_at "upd") (by walk_at "upd")) Exs.nil) (fun q => by cases q)
      · rename_i q6
        cases q2
        exact Ex.ite (mu₁ := mu) (t := false) (Ts.eq (by walk_at "ts") (by rw [sx]; exact decide_eq_false q6)) (fun q => by cases q) (fun _ => Exs.nil)
    refine Exs.cons (mu₁ := mu) (ρ₁ := [("text", some (.str x)), ("front", some (.int (valD 0 x))), ("many", some (.int (nfig x))), ("at", some (.int ((m + m' : Nat)))), ("behind", some (.int b)), ("places", some (.int pl)), ("power", some (.int p))]) (Ex.asgT2 (Ev.fcall G.ok (by walk_at "ev") (by walk_at "callee") (by walk_at "evl") (Fn.op (power_at_ok G W hz rfl q3))) (by walk_at "upd") (by walk_at "upd")) ?_
    have e1 : (valD 0 x : Int) * (((10 : Nat) : Int) ^ ((pl : Int).toNat)) + (b : Int) = ((valD 0 x * 10 ^ pl + b : Nat) : Int) := by
      rw [Int.toNat_natCast, Int.natCast_add, Int.natCast_mul, Int.natCast_pow]
    have hpl : pl ≤ 60 := by
      unfold fracM at q2
      split at q2
      · split at q2
        · cases q2
        · cases q2; omega
      · cases q2; omega
    have kv : ∀ {e1 e2 e3 : Expr}, True := fun {_ _ _} => trivial
    exact Exs.ret (Ex.ret (Ev.tup (EvL.cons (by walk_at "ev") (EvL.cons (Ev.fcall G.ok (by walk_at "ev") (by walk_at "callee") (EvL.cons (p := .int ((valD 0 x * 10 ^ pl + b : Nat))) (Ev.eq (Ev.bin (Ev.bin (by walk_at "ev") (Ev.bin (by walk_at "ev") (by walk_at "ev") (Op2.powI (Int.natCast_nonneg _) (by
        have : Builtin.Int.intBits ((10 : Nat) : Int) = 4 := by decide
        rw [this]; omega))) (Op2.mulI (IntMulOk.of_right (by omega)))) (by walk_at "ev") (by walk_at "op")) (congrArg PV.int e1)) (by walk_at "evl")) (Fn.op (told_exactly_ok G W q5))) EvL.nil))))
end
-- text P19
section
variable {c : Cx}
theorem Fn.madeN {n : Nat} {fa : Addr} {fd : FuncData} {ps rest : List PySem.Str} {gl : List (PySem.Str × Value)} {body : List Stmt} {args : List PV} {mu mu' : Mem} (ρ : Loc) {ρ' : Loc} (C : c.Ok) (I : FnAt c fa fd ps rest gl body)
    (hb : Exs c (FSof ps rest gl) n ρ mu body (.next ρ' mu')) (hle : mu.length ≤ mu'.length) (hl : args.length = ps.length := by rfl) (hρ : start ps rest args = ρ := by rfl) : Fn c (n + 1) (.ref fa) args mu .none mu' := by
  subst hρ
  refine ⟨fun g al s A vs R st r => ?_⟩
  obtain ⟨oc, od, osl, hlook⟩ := I.ex
  have X := st.KX C
  have hvs : vs.length = ps.length := r.length.trans hl
  have nd := List.nodup_append.mp I.nodup
  refine codeAny_call_def (fd := fd) (body := body) (binds := ps.zip vs) R.lim (X _ _ hlook) rfl (C.nolimit.keeps st.hk) (codeRec_of X I.code) I.body (BindsTo.of_eq (I.bind vs hvs)) I.cell (fun x hx => ?_) (fun h₁ hns hk₁ => ?_) I.co I.gen I.kind
  · obtain ⟨y, w⟩ := x
    exact (I.loc y (List.mem_append_left _ (List.of_mem_zip hx).1)).1
  · have hsz := size_none s.heap
    have fr := st.hs.free (Nat.le_refl s.heap.objs.size)
    have EO : EnvOk c (FSof ps rest gl) g al (callEnv fd s.heap.objs.size fa) := by
      refine ⟨I.kind, I.globals, I.builtins, I.loc, I.nodup, fun x w m => ?_, fun x w m => by cases m⟩
      obtain ⟨k1, k2, k3⟩ := I.glb x w m
      refine ⟨k1, k2, ?_⟩
      rcases k3 with k3 | ⟨k3, k4, k5⟩
      · exact .inl (mg_of C.KX C.mgNs k3)
      · exact .inr ⟨mg_none_of C.KX C.mgNs k3, (C.builtins x k5).trans k4⟩
    have LS : Ls (FSof ps rest gl) g al s.heap.objs.size (start ps rest args) h₁ := by
      refine ⟨start_keys hl, ⟨_, hns, fun x w m => ?_⟩, fr.1, fr.2⟩
      unfold start at m
      rcases List.mem_append.mp m with m | m
      · obtain ⟨y, my, ry⟩ := start_mem r m
        exact ⟨y, lookup_rev_zip nd.1 my, ry⟩
      · obtain ⟨z, _, ez⟩ := List.mem_map.mp m; cases ez
    have R' : Room n (A.deeper (callEnv fd s.heap.objs.size fa)) := ⟨R.handled, by have := R.depth; show A.depth + 1 + 2 * n ≤ 600; omega, by have := R.units; show A.units + 3 + 20 * n + 400 ≤ cLine; omega⟩
    have z := hb.run (callEnv fd s.heap.objs.size fa) g al { s with heap := h₁, toks := s.toks + (ps.zip vs).length } _ R' ⟨EO, LS, st.put (st.hs.grow hk₁)⟩
    refine wpAny_mono z (fun fl s' h' => ?_) fun _ _ x => x.elim
    obtain ⟨g', al', S', rfl, X'⟩ := h'
    refine ⟨.none, rfl, ?_⟩
    have S : Step NX g al s.heap g' al' s'.heap := by
      have S0 : Step (· = s.heap.objs.size) g al s.heap g al h₁ := Step.grow hk₁
      have S1 := S0.trans S'
      exact ⟨S1.ext, fun b o m _ e => S1.keep b o m (by rintro rfl; rw [hsz] at e; cases e) e, S1.alive, S1.out, S1.outA⟩
    exact ⟨g', al', S, X'.st, rfl⟩
section
variable {n : Nat} {mu : Mem} {k : Nat} {ps : List PV} {v : PV}
theorem Op2.idxCm {vl sl : Expr} (hk : mu[k]? = some (.list (ps ++ [v]))) (hz : ps.length < 100000) : Op2 c n mu (subscriptTail vl sl) (.cell k) (.int (-((1 : Nat) : Int))) v mu := ⟨fun g al s A _ _ _ st r1 ⟨u, e2⟩ => by
  obtain ⟨d, vs, m, e1, _, hd, r⟩ := st.list r1 hk
  subst e1; subst e2
  obtain ⟨us, ws, rfl, ru, y, ys, rfl, ry, e⟩ := RepL.of_append r
  cases e
  obtain ⟨ops, hs⟩ := subs_any sl (.ref d) (.int (-((1 : Nat) : Int)) u)
  have hL : s.heap.IsList d (us ++ [y]).toArray := ⟨_, hd, rfl, m, rfl⟩
  have hsz : (us ++ [y]).toArray.size = us.length + 1 := by simp
  refine tail_any hL.typeIs slot_list_getitem.lookup (wpAny_getItem_list_neg hL (by decide) (by rw [hsz]; omega) (by decide) ?_ ⟨g, al, .refl .., st, ry⟩) hs
  rw [hsz, show (-((1 : Nat) : Int) + ((us.length + 1 : Nat) : Int)).toNat = us.length by omega]
  simp⟩
end
theorem Wf.set {mu : Mem} {k : Nat} {cl : Cell} (W : Wf mu) (h : cl.under mu.length = true) : Wf (mu.set k cl) := by
  refine ⟨?_⟩
  rw [List.length_set]
  have : ∀ (m : Mem) (k j : Nat), memBelow j m = true → cl.under j = true → memBelow j (m.set k cl) = true := by
    intro m
    induction m with
    | nil => intro k j h _; exact h
    | cons x m ih =>
      intro k j h h'
      rw [memBelow, Bool.and_eq_true] at h
      cases k with
      | zero => show (cl.under j && memBelow j m) = true; rw [h', h.2]; rfl
      | succ k => show (x.under j && memBelow j (m.set k cl)) = true; rw [h.1, ih k j h.2 h']; rfl
  exact this mu k _ W.ok h
theorem Ex.to {F : FS} {n : Nat} {ρ ρ' : Loc} {mu mu' nu : Mem} {st : Stmt} (h : Ex c F n ρ mu st (.next ρ' mu')) (q : mu' = nu) : Ex c F n ρ mu st (.next ρ' nu) := q ▸ h
theorem Ev.lstN {F : FS} {n : Nat} {ρ : Loc} {mu : Mem} {pos : Pos} {k : Nat} {nu : Mem} (h : mu.length = k) (q : mu ++ [.list []] = nu) : Ev c F n ρ mu (.List [] pos) (.cell k) nu := by subst h; subst q; exact Ev.lstM EvL.nil
/-! levels -/
theorem AttrOk.pg (G : Pg c) {C : Addr} {name : PySem.Str} (h1 : ∀ P, findIn (KK P) (.ref C) "__getattribute__" = some (some (.builtin "object.__getattribute__"))) (h2 : ∀ P, findIn (KK P) (.ref C) "__setattr__" = some (some (.builtin "object.__setattr__")))
    (h3 : ∀ P, plainOver (KK P) C = true) (h4 : ∀ P, takerIn (KK P) C name = some Option.none) (h5 : ∀ P, hasDictIn (KK P) C = true) (h6 : ∀ P, findIn (KK P) (.ref C) name = some Option.none) : AttrOk c C name :=
  ⟨by rw [G.K]; exact h1 _, by rw [G.K]; exact h2 _, by rw [G.K]; exact h3 _, by rw [G.K]; exact h4 _, by rw [G.K]; exact h5 _, by rw [G.K]; exact h6 _⟩
theorem ak_kind (G : Pg c) : AttrOk c 232 "kind" := AttrOk.pg G (fun P => by kernel_rfl) (fun P => by kernel_rfl) (fun P => by kernel_rfl) (fun P => by kernel_rfl) (fun P => by kernel_rfl) (fun P => by kernel_rfl)
theorem ak_word (G : Pg c) : AttrOk c 232 "word" := AttrOk.pg G (fun P => by kernel_rfl) (fun P => by kernel_rfl) (fun P => by kernel_rfl) (fun P => by kernel_rfl) (fun P => by kernel_rfl) (fun P => by kernel_rfl)
theorem ak_args (G : Pg c) : AttrOk c 232 "args" := AttrOk.pg G (fun P => by kernel_rfl) (fun P => by kernel_rfl) (fun P => by kernel_rfl) (fun P => by kernel_rfl) (fun P => by kernel_rfl) (fun P => by kernel_rfl)
theorem ak_operands (G : Pg c) : AttrOk c 232 "operands" := AttrOk.pg G (fun P => by kernel_rfl) (fun P => by kernel_rfl) (fun P => by kernel_rfl) (fun P => by kernel_rfl) (fun P => by kernel_rfl) (fun P => by kernel_rfl)
theorem ak_operators (G : Pg c) : AttrOk c 232 "operators" := AttrOk.pg G (fun P => by kernel_rfl) (fun P => by kernel_rfl) (fun P => by kernel_rfl) (fun P => by kernel_rfl) (fun P => by kernel_rfl) (fun P => by kernel_rfl)
noncomputable def lvKV (kd wd : List Nat) (k : Nat) : List (PySem.Str × PV) := [("kind", .str kd), ("word", .str wd), ("args", .cell (k + 1)), ("operands", .cell (k + 2)), ("operators", .cell (k + 3))]
noncomputable def lvNew (kd wd : List Nat) (k : Nat) : Mem := [.dict (lvKV kd wd k), .list [], .list [], .list []]
theorem level_init_ok (G : Pg c) {kd wd : List Nat} {mu : Mem} : Fn c 1 (.ref 229) [.inst 232 mu.length, .str kd, .str wd] (mu ++ [.dict []]) .none (mu ++ lvNew kd wd mu.length) := by
  refine Fn.madeN [("self", some (.inst 232 mu.length)), ("kind", some (.str kd)), ("word", some (.str wd))] G.ok (at_Level_init G) (ρ' := [("self", some (.inst 232 mu.length)), ("kind", some (.str kd)), ("word", some (.str wd))]) ?_ (by simp [lvNew])
  have s0 : ∀ (a b : Cell) (r : Mem), (mu ++ a :: r).set mu.length b = mu ++ b :: r := fun a b r => set_app0 ..
  have g0 : ∀ (a : Cell) (r : Mem), (mu ++ a :: r)[mu.length]? = some a := fun a r => get_app0 ..
  refine Exs.cons (mu₁ := mu ++ [.dict [("kind", .str kd)]]) (ρ₁ := [("self", some (.inst 232 mu.length)), ("kind", some (.str kd)), ("word", some (.str wd))]) (Ex.to (Ex.setattr G.ok (ak_kind G) (by walk_at "ev") (by walk_at "ev") (g0 _ _) (Nat.le_of_ble_eq_true rfl)) (s0 _ _ _)) ?_
  refine Exs.cons (mu₁ := mu ++ [.dict [("kind", .str kd), ("word", .str wd)]]) (ρ₁ := [("self", some (.inst 232 mu.length)), ("kind", some (.str kd)), ("word", some (.str wd))]) (Ex.to (Ex.setattr G.ok (ak_word G) (by walk_at "ev") (by walk_at "ev") (g0 _ _) (Nat.le_of_ble_eq_true rfl)) (s0 _ _ _)) ?_
  refine Exs.cons (mu₁ := mu ++ [.dict [("kind", .str kd), ("word", .str wd), ("args", .cell (mu.length + 1))], .list []]) (ρ₁ := [("self", some (.inst 232 mu.length)), ("kind", some (.str kd)), ("word", some (.str wd))])
    (Ex.to (Ex.setattr (mu₂ := mu ++ [.dict [("kind", .str kd), ("word", .str wd)], .list []]) G.ok (ak_args G) (Ev.lstN (k := mu.length + 1) (by simp) (by simp; rfl)) (by walk_at "ev") (g0 _ _) (Nat.le_of_ble_eq_true rfl)) (s0 _ _ _)) ?_
  refine Exs.cons (mu₁ := mu ++ [.dict [("kind", .str kd), ("word", .str wd), ("args", .cell (mu.length + 1)), ("operands", .cell (mu.length + 2))], .list [], .list []]) (ρ₁ := [("self", some (.inst 232 mu.length)), ("kind", some (.str kd)), ("word", some (.str wd))])
    (Ex.to (Ex.setattr (mu₂ := mu ++ [.dict [("kind", .str kd), ("word", .str wd), ("args", .cell (mu.length + 1))], .list [], .list []]) G.ok (ak_operands G) (Ev.lstN (k := mu.length + 2) (by simp) (by simp; rfl)) (by walk_at "ev") (g0 _ _) (Nat.le_of_ble_eq_true rfl)) (s0 _ _ _)) ?_
  exact Exs.cons (mu₁ := mu ++ [.dict [("kind", .str kd), ("word", .str wd), ("args", .cell (mu.length + 1)), ("operands", .cell (mu.length + 2)), ("operators", .cell (mu.length + 3))], .list [], .list [], .list []]) (ρ₁ := [("self", some (.inst 232 mu.length)), ("kind", some (.str kd)), ("word", some (.str wd))])
    (Ex.to (Ex.setattr (mu₂ := mu ++ [.dict [("kind", .str kd), ("word", .str wd), ("args", .cell (mu.length + 1)), ("operands", .cell (mu.length + 2))], .list [], .list [], .list []]) G.ok (ak_operators G) (Ev.lstN (k := mu.length + 3) (by simp) (by simp; rfl)) (by walk_at "ev") (g0 _ _) (Nat.le_of_ble_eq_true rfl)) (s0 _ _ _)) Exs.nil
theorem level_new_ok (G : Pg c) {kd wd : List Nat} {mu : Mem} : Fn c 2 (.ref 232) [.str kd, .str wd] mu (.inst 232 mu.length) (mu ++ lvNew kd wd mu.length) :=
  Fn.make (fI := 229) G.ok (by rw [G.K]; exact (fun P => by kernel_rfl : ∀ P, makesIn (KK P) 232 = true) _) (by rw [G.K]; exact (fun P => by kernel_rfl : ∀ P, findIn (KK P) (.ref 232) "__init__" = some (some (.ref 229))) _) (by rw [G.K]; exact (fun P => by kernel_rfl : ∀ P, typeIn (KK P) (.ref 229) = some (.type "function")) _) (level_init_ok G)
end
-- text P20
section
variable {c : Cx}
theorem Ex.whileE {F : FS} {n : Nat} {pos : Pos} {test : Expr} {body : List Stmt} {ι : Type} (ρs : ι → Loc) (mus : ι → Mem) (P Q : ι → Prop) (meas : ι → Nat)
    (step : ∀ i, P i → (Ts c F n (ρs i) (mus i) test false (mus i) ∧ Q i) ∨ (∃ j mu', meas j < meas i ∧ P j ∧ Ts c F n (ρs i) (mus i) test true mu' ∧ Exs c F n (ρs i) mu' body (.next (ρs j) (mus j)))) :
    ∀ i, P i → ∃ j, Q j ∧ Ex c F n (ρs i) (mus i) (.While test body [] pos) (.next (ρs j) (mus j)) := by
  have key : ∀ m i, meas i ≤ m → P i → ∃ j, Q j ∧ Wh c F n (ρs i) (mus i) test body (.next (ρs j) (mus j)) := by
    intro m
    induction m with
    | zero =>
      intro i hm hp
      rcases step i hp with ⟨h1, h2⟩ | ⟨j, mu', hj, _⟩
      · exact ⟨i, h2, Wh.stop h1⟩
      · omega
    | succ m ih =>
      intro i hm hp
      rcases step i hp with ⟨h1, h2⟩ | ⟨j, mu', hj, pj, ht, hb⟩
      · exact ⟨i, h2, Wh.stop h1⟩
      · obtain ⟨k, hw, hx⟩ := ih j (by omega) pj
        exact ⟨k, hw, Wh.turn ht hb hx⟩
  intro i hp
  obtain ⟨j, hq, hw⟩ := key _ i (Nat.le_refl _) hp
  exact ⟨j, hq, Ex.whl hw⟩
theorem Exs.oneE {F : FS} {n : Nat} {ρ : Loc} {mu mu' : Mem} {st : Stmt} {ι : Type} {Q : ι → Prop} {ρs : ι → Loc} {mus : ι → Mem} (h : ∃ j, Q j ∧ Ex c F n ρ mu st (.next (ρs j) (mus j))) (hm : ∀ j, Q j → mus j = mu') : ∃ ρ', Exs c F n ρ mu [st] (.next ρ' mu') := by
  obtain ⟨j, hq, hx⟩ := h
  exact ⟨_, Exs.cons (hm j hq ▸ hx) Exs.nil⟩
theorem Fn.madeE {n : Nat} {fa : Addr} {fd : FuncData} {ps rest : List PySem.Str} {gl : List (PySem.Str × Value)} {body : List Stmt} {args : List PV} {mu mu' : Mem} (ρ : Loc) (C : c.Ok) (I : FnAt c fa fd ps rest gl body)
    (hb : ∃ ρ', Exs c (FSof ps rest gl) n ρ mu body (.next ρ' mu')) (hle : mu.length ≤ mu'.length) (hl : args.length = ps.length := by rfl) (hρ : start ps rest args = ρ := by rfl) : Fn c (n + 1) (.ref fa) args mu .none mu' := by
  obtain ⟨ρ', hb⟩ := hb
  exact Fn.madeN ρ C I hb hle hl hρ
noncomputable abbrev Op := List Nat × Nat
noncomputable def opPV (o : Op) : PV := .tup [.str o.1, .int o.2]
noncomputable def memJ (mu : Mem) (k : Nat) (ts : List Tr) (ops : List Op) : Mem := (mu.set (k + 2) (.list (ts.reverse.map Tr.pv))).set (k + 3) (.list (ops.reverse.map opPV))
theorem memJ_len {mu : Mem} {k : Nat} {ts : List Tr} {ops : List Op} : (memJ mu k ts ops).length = mu.length := by simp [memJ]
theorem memJ_ops {mu : Mem} {k : Nat} {ts : List Tr} {ops ops' : List Op} : (memJ mu k ts ops).set (k + 3) (.list (ops'.reverse.map opPV)) = memJ mu k ts ops' := by simp [memJ, List.set_set]
theorem memJ_ts {mu : Mem} {k : Nat} {ts ts' : List Tr} {ops : List Op} : (memJ mu k ts ops).set (k + 2) (.list (ts'.reverse.map Tr.pv)) = memJ mu k ts' ops := by
  unfold memJ
  rw [List.set_comm _ _ (by omega), List.set_set]
theorem memJ_getO {mu : Mem} {k : Nat} {ts : List Tr} {ops : List Op} (h : k + 3 < mu.length) : (memJ mu k ts ops)[k + 3]? = some (.list (ops.reverse.map opPV)) := by
  unfold memJ
  rw [List.getElem?_set_self (by rw [List.length_set]; exact h)]
theorem memJ_getT {mu : Mem} {k : Nat} {ts : List Tr} {ops : List Op} (h : k + 3 < mu.length) : (memJ mu k ts ops)[k + 2]? = some (.list (ts.reverse.map Tr.pv)) := by
  unfold memJ
  rw [List.getElem?_set_ne (by omega), List.getElem?_set_self (by omega)]
theorem memJ_get {mu : Mem} {k i : Nat} {ts : List Tr} {ops : List Op} (h2 : i ≠ k + 2) (h3 : i ≠ k + 3) : (memJ mu k ts ops)[i]? = mu[i]? := by
  unfold memJ
  rw [List.getElem?_set_ne (Ne.symm h3), List.getElem?_set_ne (Ne.symm h2)]
noncomputable def isUn (op : List Nat) : Bool := decide (op = T "neg") || decide (op = T "not")
noncomputable def joinM (s : Nat) : List Tr → List Op → Option (List Tr × List Op)
  | ts, [] => some (ts, [])
  | ts, (op, p) :: q => if s ≤ p then (if isUn op then (match ts with
      | t :: r => joinM s (.un op t :: r) q
      | [] => Option.none) else (match ts with
      | b :: a :: r => joinM s (.two op a b :: r) q
      | _ => Option.none)) else some (ts, (op, p) :: q)
structure JI where
  ts : List Tr
  ops : List Op
noncomputable abbrev ρj (k s : Nat) (a b : Option PV) : Loc := [("level", some (.inst 232 k)), ("strength", some (.int s)), ("op", a), ("last", b)]
structure JS where
  ts : List Tr
  ops : List Op
  a : Option PV
  b : Option PV
theorem join_up_ok (G : Pg c) {kd wd : List Nat} {k s : Nat} {ts ts' : List Tr} {ops ops' : List Op} {mu : Mem} (hl : k + 3 < mu.length) (hk : mu[k]? = some (.dict (lvKV kd wd k))) (hz : ts.length + ops.length < 10000) (h : joinM s ts ops = some (ts', ops')) :
    Fn c 1 (.ref 243) [.inst 232 k, .int s] (memJ mu k ts ops) .none (memJ mu k ts' ops') := by
  have hk' : ∀ ts ops, (memJ mu k ts ops)[k]? = some (.dict (lvKV kd wd k)) := fun ts ops => by rw [memJ_get (by omega) (by omega)]; exact hk
  -- the two lists
  have aT : ∀ {ρa ρb : Option PV} {ts ops} {pos p1 : Pos}, Ev c (fs_join_up c) 0 (ρj k s ρa ρb) (memJ mu k ts ops) (.Attribute (.Name "level" p1) "operands" pos) (.cell (k + 2)) (memJ mu k ts ops) := fun {ρa ρb ts ops pos p1} =>
    Ev.attr G.ok (ak_operands G) (by walk_at "ev") (hk' ts ops) (by rfl)
  have aO : ∀ {ρa ρb : Option PV} {ts ops} {pos p1 : Pos}, Ev c (fs_join_up c) 0 (ρj k s ρa ρb) (memJ mu k ts ops) (.Attribute (.Name "level" p1) "operators" pos) (.cell (k + 3)) (memJ mu k ts ops) := fun {ρa ρb ts ops pos p1} =>
    Ev.attr G.ok (ak_operators G) (by walk_at "ev") (hk' ts ops) (by rfl)
  have popT : ∀ {t : Tr} {r : List Tr} {ops}, r.length < 10000 → OpN c 0 (memJ mu k (t :: r) ops) (fun vs => call (.builtin "list.pop") vs) [.cell (k + 2)] t.pv (memJ mu k r ops) := fun {t r ops} hz => by
    have := popC (c := c) (n := 0) (mu := memJ mu k (t :: r) ops) (k := k + 2) (ps := r.reverse.map Tr.pv) (p := t.pv) (by rw [memJ_getT hl]; simp) (by simp; omega)
    rwa [memJ_ts] at this
  have pushT : ∀ {t : Tr} {r : List Tr} {ops}, r.length < 10000 → OpN c 0 (memJ mu k r ops) (fun vs => call (.builtin "list.append") vs) [.cell (k + 2), t.pv] .none (memJ mu k (t :: r) ops) := fun {t r ops} hz => by
    have := appendC (c := c) (n := 0) (mu := memJ mu k r ops) (k := k + 2) (ps := r.reverse.map Tr.pv) (p := t.pv) (memJ_getT hl) (by simp; omega)
    rwa [show r.reverse.map Tr.pv ++ [t.pv] = (t :: r).reverse.map Tr.pv by simp, memJ_ts] at this
  have popO : ∀ {o : Op} {q : List Op} {ts}, q.length < 10000 → OpN c 0 (memJ mu k ts (o :: q)) (fun vs => call (.builtin "list.pop") vs) [.cell (k + 3)] (opPV o) (memJ mu k ts q) := fun {o q ts} hz => by
    have := popC (c := c) (n := 0) (mu := memJ mu k ts (o :: q)) (k := k + 3) (ps := q.reverse.map opPV) (p := opPV o) (by rw [memJ_getO hl]; simp) (by simp; omega)
    rwa [memJ_ops] at this
  have mT : ∀ {ts ops}, Meth c 0 (memJ mu k ts ops) (.cell (k + 2)) "pop" (.builtin "list.pop") := Meth.cell (memJ_getT hl) F.slot_list_pop F.type_list_pop
  have mO : ∀ {ts ops}, Meth c 0 (memJ mu k ts ops) (.cell (k + 3)) "pop" (.builtin "list.pop") := Meth.cell (memJ_getO hl) F.slot_list_pop F.type_list_pop
  have mA : ∀ {ts ops}, Meth c 0 (memJ mu k ts ops) (.cell (k + 2)) "append" (.builtin "list.append") := Meth.cell (memJ_getT hl) F.slot_list_append F.type_list_append
  refine Fn.madeE (ρj k s Option.none Option.none) G.ok (at_join_up G) (Exs.oneE (Ex.whileE (ι := JS) (fun i => ρj k s i.a i.b) (fun i => memJ mu k i.ts i.ops) (fun i => joinM s i.ts i.ops = some (ts', ops') ∧ i.ts.length + i.ops.length < 10000) (fun i => i.ts = ts' ∧ i.ops = ops') (fun i => i.ops.length) ?_ ⟨ts, ops, Option.none, Option.none⟩ ⟨h, hz⟩) ?_) (by rw [memJ_len, memJ_len]; exact Nat.le_refl _)
  · rintro ⟨ts, ops, a, b⟩ ⟨h, hz⟩
    dsimp only at h hz ⊢
    cases ops with
    | nil =>
      left
      rw [joinM] at h
      cases h
      refine ⟨Ts.boolop (TsAll.andF (Ts.eq (Ts.cmp (Ev.fcall G.ok (by walk_at "ev") (by walk_at "callee") (EvL.cons aO EvL.nil) (lenC (memJ_getO hl) (by simp))) (by walk_at "ev") (by walk_at "op")) (by rfl))), rfl, rfl⟩
    | cons o q =>
      obtain ⟨op, p⟩ := o
      rw [List.length_cons] at hz
      have t1 : ∀ {p1 p2 p3 p4 p5 p6 : Pos} {k1 : Nat}, Ts c (fs_join_up c) 0 (ρj k s a b) (memJ mu k ts ((op, p) :: q)) (.Compare (.Call (.Name "len" p1) [.Attribute (.Name "level" p2) "operators" p3] [] p4) [.Gt] [.Constant (.int 0) k1 p5] p6) true (memJ mu k ts ((op, p) :: q)) := fun {p1 p2 p3 p4 p5 p6 k1} =>
        Ts.eq (Ts.cmp (Ev.fcall G.ok (by walk_at "ev") (by walk_at "callee") (EvL.cons aO EvL.nil) (lenC (memJ_getO hl) (by simp; omega))) (by walk_at "ev") (by walk_at "op")) (by simp)
      have t2 : ∀ {p1 p2 p3 p4 p5 p6 p7 p8 p9 : Pos} {k1 k2 : Nat}, Ts c (fs_join_up c) 0 (ρj k s a b) (memJ mu k ts ((op, p) :: q)) (.Compare (.Subscript (.Subscript (.Attribute (.Name "level" p1) "operators" p2) (.UnaryOp .USub (.Constant (.int 1) k1 p3) p4) p5) (.Constant (.int 1) k2 p6) p7) [.GtE] [.Name "strength" p8] p9) (decide (s ≤ p)) (memJ mu k ts ((op, p) :: q)) := fun {p1 p2 p3 p4 p5 p6 p7 p8 p9 k1 k2} =>
        Ts.cmp (Ev.sub (Ev.sub aO (Ev.un (Ev.intN (m := 1) rfl) Op1.negI) (Op2.idxCm (ps := q.reverse.map opPV) (v := opPV (op, p)) (by rw [memJ_getO hl]; simp) (by simp; omega))) (Ev.intN (m := 1) rfl) (Op2.idxTN rfl (by decide))) (by walk_at "ev") Op2.geN
      unfold joinM at h
      split at h
      · rename_i hp
        right
        have tt : ∀ {pos p1 p2 p3 p4 p5 p6 p7 p8 p9 p10 p11 p12 p13 p14 p15 : Pos} {k1 k2 k3 : Nat}, Ts c (fs_join_up c) 0 (ρj k s a b) (memJ mu k ts ((op, p) :: q)) (.BoolOp .And [.Compare (.Call (.Name "len" p1) [.Attribute (.Name "level" p2) "operators" p3] [] p4) [.Gt] [.Constant (.int 0) k1 p5] p6,
            .Compare (.Subscript (.Subscript (.Attribute (.Name "level" p7) "operators" p8) (.UnaryOp .USub (.Constant (.int 1) k2 p9) p10) p11) (.Constant (.int 1) k3 p12) p13) [.GtE] [.Name "strength" p14] p15] pos) true (memJ mu k ts ((op, p) :: q)) := by
          intros
          exact Ts.eq (Ts.and2 t1 (fun _ => t2)) (by rw [decide_eq_true hp]; rfl)
        cases hu : isUn op with
        | true =>
          rw [hu] at h
          cases ts with
          | nil => cases h
          | cons t r =>
            rw [List.length_cons] at hz
            refine ⟨⟨.un op t :: r, q, some (.str op), some t.pv⟩, _, Nat.lt_succ_self _, ⟨h, by dsimp only; rw [List.length_cons]; omega⟩, tt, ?_⟩
            refine Exs.cons (mu₁ := memJ mu k (t :: r) q) (ρ₁ := ρj k s (some (.str op)) b) (Ex.asg (Ev.sub (Ev.meth G.ok aO mO Callee.builtin EvL.nil (popO (o := (op, p)) (by omega))) (Ev.intN (m := 0) rfl) (Op2.idxTN (v := .str op) rfl (by decide))) (by walk_at "upd")) ?_
            refine Exs.cons (mu₁ := memJ mu k r q) (ρ₁ := ρj k s (some (.str op)) (some t.pv)) (Ex.asg (Ev.meth G.ok aT mT Callee.builtin EvL.nil (popT (by omega))) (by walk_at "upd")) ?_
            refine Exs.ifN (mu₁ := memJ mu k r q) (Ts.eq (by walk_at "ts") hu) (Exs.cons (Ex.expr (Ev.meth G.ok aT mA Callee.builtin (EvL.cons (p := (Tr.un op t).pv) (Ev.tup (by walk_at "evl")) EvL.nil) (pushT (by omega)))) Exs.nil) Exs.nil
        | false =>
          rw [hu] at h
          cases ts with
          | nil => cases h
          | cons y ts =>
            cases ts with
            | nil => cases h
            | cons x r =>
              rw [List.length_cons, List.length_cons] at hz
              refine ⟨⟨.two op x y :: r, q, some (.str op), some y.pv⟩, _, Nat.lt_succ_self _, ⟨h, by dsimp only; rw [List.length_cons]; omega⟩, tt, ?_⟩
              refine Exs.cons (mu₁ := memJ mu k (y :: x :: r) q) (ρ₁ := ρj k s (some (.str op)) b) (Ex.asg (Ev.sub (Ev.meth G.ok aO mO Callee.builtin EvL.nil (popO (o := (op, p)) (by omega))) (Ev.intN (m := 0) rfl) (Op2.idxTN (v := .str op) rfl (by decide))) (by walk_at "upd")) ?_
              refine Exs.cons (mu₁ := memJ mu k (x :: r) q) (ρ₁ := ρj k s (some (.str op)) (some y.pv)) (Ex.asg (Ev.meth G.ok aT mT Callee.builtin EvL.nil (popT (by rw [List.length_cons]; omega))) (by walk_at "upd")) ?_
              refine Exs.ifM (mu₁ := memJ mu k (x :: r) q) (Ts.eq (by walk_at "ts") hu) (Exs.cons (mu₁ := memJ mu k (.two op x y :: r) q) (Ex.expr (Ev.meth G.ok aT mA Callee.builtin (EvL.cons (p := (Tr.two op x y).pv) (mu₁ := memJ mu k r q) (Ev.tup (EvL.cons (by walk_at "ev") (EvL.cons (by walk_at "ev") (EvL.cons (Ev.meth G.ok aT mT Callee.builtin EvL.nil (popT (by omega))) (EvL.cons (by walk_at "ev") EvL.nil))))) EvL.nil) (pushT (by omega)))) Exs.nil) Exs.nil
      · rename_i hp
        left
        cases h
        refine ⟨Ts.eq (Ts.and2 t1 (fun _ => t2)) (by rw [decide_eq_false hp]; rfl), rfl, rfl⟩
  · rintro ⟨ts, ops, a, b⟩ ⟨rfl, rfl⟩
    rfl
end
-- text P21
section
variable {c : Cx}
theorem memJ_self {mu : Mem} {k : Nat} {ts : List Tr} {ops : List Op} (h1 : mu[k + 2]? = some (.list (ts.reverse.map Tr.pv))) (h2 : mu[k + 3]? = some (.list (ops.reverse.map opPV))) : memJ mu k ts ops = mu := by
  have set_same : ∀ (m : Mem) (i : Nat) (x : Cell), m[i]? = some x → m.set i x = m := by
    intro m
    induction m with
    | nil => intro i x h; simp at h
    | cons y m ih =>
      intro i x h
      cases i with
      | zero => simp at h; subst h; rfl
      | succ i => rw [List.set_cons_succ, ih i x (by simpa using h)]
  unfold memJ
  rw [set_same _ _ _ h1, set_same _ _ _ h2]
noncomputable def isPlainLevel (kd : List Nat) : Bool := [T "top", T "group"].contains kd
noncomputable def finM (kd wd : List Nat) (as : List Tr) (t : Tr) : Tr := if isPlainLevel kd then t else .app kd wd (as ++ [t])
theorem finished_ok (G : Pg c) {kd wd : List Nat} {k : Nat} {as ts r : List Tr} {t : Tr} {ops q : List Op} {mu : Mem} (hl : k + 3 < mu.length) (hk : mu[k]? = some (.dict (lvKV kd wd k))) (ha : mu[k + 1]? = some (.list (as.map Tr.pv)))
    (hz : ts.length + ops.length < 10000) (hz2 : as.length < 10000) (hz3 : r.length < 10000) (h : joinM 0 ts ops = some (t :: r, q)) (W : Wf (memJ mu k r q)) : Fn c 2 (.ref 250) [.inst 232 k] (memJ mu k ts ops) (finM kd wd as t).pv (memJ mu k r q) := by
  have hk' : ∀ ts ops, (memJ mu k ts ops)[k]? = some (.dict (lvKV kd wd k)) := fun ts ops => by rw [memJ_get (by omega) (by omega)]; exact hk
  have ha' : ∀ ts ops, (memJ mu k ts ops)[k + 1]? = some (.list (as.map Tr.pv)) := fun ts ops => by rw [memJ_get (by omega) (by omega)]; exact ha
  have aT : ∀ {ρ} {ts ops} {pos p1 : Pos}, (("level" : PySem.Str), some (PV.inst 232 k)) ∈ ρ → Ev c (fs_finished c) 1 ρ (memJ mu k ts ops) (.Attribute (.Name "level" p1) "operands" pos) (.cell (k + 2)) (memJ mu k ts ops) := fun {ρ ts ops pos p1} m =>
    Ev.attr G.ok (ak_operands G) (Ev.loc m) (hk' ts ops) (by rfl)
  have popT : ∀ {t : Tr} {r : List Tr} {ops}, r.length < 10000 → OpN c 1 (memJ mu k (t :: r) ops) (fun vs => call (.builtin "list.pop") vs) [.cell (k + 2)] t.pv (memJ mu k r ops) := fun {t r ops} hz => by
    have := popC (c := c) (n := 1) (mu := memJ mu k (t :: r) ops) (k := k + 2) (ps := r.reverse.map Tr.pv) (p := t.pv) (by rw [memJ_getT hl]; simp) (by simp; omega)
    rwa [memJ_ts] at this
  have mT : ∀ {ts ops}, Meth c 1 (memJ mu k ts ops) (.cell (k + 2)) "pop" (.builtin "list.pop") := Meth.cell (memJ_getT hl) F.slot_list_pop F.type_list_pop
  refine Fn.made [("level", some (.inst 232 k)), ("last", Option.none)] G.ok (at_finished G) ?_ (by rw [memJ_len, memJ_len]; exact Nat.le_refl _) W (Tr.under _ _)
  have f0 := join_up_ok G (s := 0) hl hk hz h
  refine Exs.cons (mu₁ := memJ mu k (t :: r) q) (ρ₁ := [("level", some (.inst 232 k)), ("last", Option.none)]) (Ex.expr (Ev.fcall G.ok (by walk_at "ev") (by walk_at "callee") (EvL.cons (by walk_at "ev") (EvL.cons (Ev.intN (m := 0) rfl) EvL.nil)) (Fn.op f0))) ?_
  refine Exs.cons (mu₁ := memJ mu k r q) (ρ₁ := [("level", some (.inst 232 k)), ("last", some t.pv)]) (Ex.asg (Ev.meth G.ok (aT (by walk_at "mem")) mT Callee.builtin EvL.nil (popT hz3)) (by walk_at "upd")) ?_
  have eK : ∀ {p1 pos : Pos}, Ev c (fs_finished c) 1 [("level", some (.inst 232 k)), ("last", some t.pv)] (memJ mu k r q) (.Attribute (.Name "level" p1) "kind" pos) (.str kd) (memJ mu k r q) := fun {p1 pos} => Ev.attr G.ok (ak_kind G) (by walk_at "ev") (hk' _ _) (by rfl)
  unfold finM
  cases hp : isPlainLevel kd with
  | true =>
    rw [if_pos rfl]
    exact Exs.ifT (mu₁ := memJ mu k r q) (Ts.eq (Ts.cmp eK (by walk_at "ev") (by walk_at "op")) hp) (Exs.ret (Ex.ret (by walk_at "ev")))
  | false =>
    refine Exs.ifF (mu₁ := memJ mu k r q) (Ts.eq (Ts.cmp eK (by walk_at "ev") (by walk_at "op")) hp) ?_
    have e1 : (Tr.app kd wd (as ++ [t])).pv = .tup [.str kd, .str wd, .lst (as.map Tr.pv ++ [t.pv])] := by rw [Tr.pv, Tr.pvL_map]; simp
    simp only [Bool.false_eq_true, if_false]
    rw [e1]
    exact Exs.ret (Ex.ret (Ev.tup (EvL.cons eK (EvL.cons (Ev.attr G.ok (ak_word G) (by walk_at "ev") (hk' _ _) (by rfl)) (EvL.cons (Ev.bin (Ev.attr G.ok (ak_args G) (by walk_at "ev") (hk' _ _) (by rfl)) (Ev.lst (by walk_at "evl")) (Op2.addLC (ha' _ _) (by simp; omega))) EvL.nil)))))
theorem opened_ok (G : Pg c) {kd wd : List Nat} {lc : Nat} {ls : List PV} {mu : Mem} (hc : mu[lc]? = some (.list ls)) (hz : ls.length ≤ 60) : Fn c 3 (.ref 257) [.cell lc, .str kd, .str wd] mu .none ((mu ++ lvNew kd wd mu.length).set lc (.list (ls ++ [.inst 232 mu.length]))) := by
  refine Fn.madeN [("levels", some (.cell lc)), ("kind", some (.str kd)), ("word", some (.str wd))] G.ok (at_opened G) (ρ' := [("levels", some (.cell lc)), ("kind", some (.str kd)), ("word", some (.str wd))]) ?_ (by simp)
  have hlt : lc < mu.length := by
    by_cases q : lc < mu.length
    · exact q
    · rw [List.getElem?_eq_none (by omega)] at hc; cases hc
  have hc' : (mu ++ lvNew kd wd mu.length)[lc]? = some (.list ls) := by rw [List.getElem?_append_left hlt]; exact hc
  refine Exs.ifF (mu₁ := mu) (Ts.eq (Ts.cmp (Ev.fcall G.ok (by walk_at "ev") (by walk_at "callee") (by walk_at "evl") (lenC hc (by omega))) (by walk_at "ev") (by walk_at "op")) (by rw [decide_eq_false_iff_not]; omega)) ?_
  exact Exs.cons (Ex.expr (Ev.meth G.ok (by walk_at "ev") (Meth.cell hc F.slot_list_append F.type_list_append) Callee.builtin (EvL.cons (Ev.fcall G.ok (by walk_at "ev") (by walk_at "callee") (by walk_at "evl") (Fn.op (level_new_ok G))) EvL.nil) (appendC hc' (by omega)))) Exs.nil
/-! operands that need nothing more -/
noncomputable abbrev noArgs (P : Params) : List (List Nat) := textsAt (KK P) 165
noncomputable def plainM (P : Params) (ts : Toks) (i : Nat) : Option (Option Tr) :=
  if (tokG ts i).1 = T "number" then (match numT (tokG ts i).2 with | some t => some (some t) | Option.none => Option.none)
  else if (tokG ts i).1 = T "text" then some (some (.tx (tokG ts i).2))
  else if isSg ts (i + 1) (T "(") then some Option.none
  else if (tokG ts i).1 = T "name" then some (some (if (tokG ts i).2.take 2 = T "FN" then .app (T "fn") (tokG ts i).2 [] else .nm (tokG ts i).2))
  else if decide ((tokG ts i).1 = T "word") && (noArgs P).contains (tokG ts i).2 then some (some (.app (T "call") (tokG ts i).2 [])) else some Option.none
noncomputable def optPV : Option Tr → PV
  | some t => t.pv
  | Option.none => .none
theorem optPV_under (k : Nat) : ∀ o, (optPV o).under k = true
  | some t => Tr.under k t
  | Option.none => rfl
theorem plain_operand_ok (G : Pg c) {ts : Toks} {i : Nat} {o : Option Tr} {mu : Mem} (W : Wf mu) (hz : ts.length < 10000) (hi : i < 9000) (hx : (tokG ts i).2.length < 10000) (h : plainM c.w.params ts i = some o) : Fn c 4 (.ref 264) [.lst (tokL ts), .int i] mu (optPV o) mu := by
  refine Fn.pure [("tokens", some (.lst (tokL ts))), ("at", some (.int i)), ("kind", Option.none), ("told", Option.none)] G.ok (at_plain_operand G) W ?_ (hv := optPV_under _ _)
  unfold plainM at h
  generalize hk : (tokG ts i).1 = kd at h
  generalize hw : (tokG ts i).2 = x at h hx
  have t0 := token_at_ok (mu := mu) G (i := i) W hz (by omega)
  rw [hk, hw] at t0
  refine Exs.cons (mu₁ := mu) (ρ₁ := [("tokens", some (.lst (tokL ts))), ("at", some (.int i)), ("kind", some (.str kd)), ("told", some (.str x))]) (Ex.asgT2 (Ev.fcall G.ok (by walk_at "ev") (by walk_at "callee") (by walk_at "evl") (Fn.op t0)) (by walk_at "upd") (by walk_at "upd")) ?_
  split at h
  · rename_i q1
    split at h
    · rename_i t q
      cases h
      exact Exs.ifT (mu₁ := mu) (Ts.eq (by walk_at "ts") (decide_eq_true q1)) (Exs.ret (Ex.ret (Ev.fcall G.ok (by walk_at "ev") (by walk_at "callee") (by walk_at "evl") (Fn.op (number_tree_ok G W hx q)))))
    · cases h
  · rename_i q1
    refine Exs.ifF (mu₁ := mu) (Ts.eq (by walk_at "ts") (decide_eq_false q1)) ?_
    split at h
    · rename_i q2
      cases h
      subst q2
      exact Exs.ifT (mu₁ := mu) (Ts.eq (by walk_at "ts") (decide_eq_true rfl)) (Exs.ret (Ex.ret (by walk_at "ev")))
    · rename_i q2
      refine Exs.ifF (mu₁ := mu) (Ts.eq (by walk_at "ts") (decide_eq_false q2)) ?_
      split at h
      · rename_i q3
        cases h
        exact Exs.ifT (mu₁ := mu) (Ts.eq (by walk_at "ts") q3) (Exs.ret (Ex.ret (by walk_at "ev")))
      · rename_i q3
        refine Exs.ifF (mu₁ := mu) (Ts.eq (by walk_at "ts") ((Bool.not_eq_true _).mp q3)) ?_
        split at h
        · rename_i q4
          cases h
          refine Exs.ifT (mu₁ := mu) (Ts.eq (by walk_at "ts") (decide_eq_true q4)) ?_
          subst q4
          by_cases q5 : x.take 2 = T "FN"
          · rw [if_pos q5]
            exact Exs.ret (Ex.ret (Ev.ifT (mu₁ := mu) (Ts.eq (by walk_at "ts") (decide_eq_true q5)) (Ev.tup (EvL.cons (by walk_at "ev") (EvL.cons (by walk_at "ev") (EvL.cons (Ev.lst (by walk_at "evl")) EvL.nil))))))
          · rw [if_neg q5]
            exact Exs.ret (Ex.ret (Ev.ifF (mu₁ := mu) (Ts.eq (by walk_at "ts") (decide_eq_false q5)) (by walk_at "ev")))
        · rename_i q4
          refine Exs.ifF (mu₁ := mu) (Ts.eq (by walk_at "ts") (decide_eq_false q4)) ?_
          split at h
          · rename_i q5
            cases h
            exact Exs.ret (Ex.ret (Ev.ifT (mu₁ := mu) (Ts.eq (Ts.and2 (by walk_at "ts") (fun _ => Ts.cmp (by walk_at "ev") (Ev.glbV G.ok (by walk_at "mem") (gv_no_args G)) Op2.inT)) q5) (Ev.tup (EvL.cons (by walk_at "ev") (EvL.cons (by walk_at "ev") (EvL.cons (Ev.lst (by walk_at "evl")) EvL.nil))))))
          · rename_i q5
            cases h
            exact Exs.ret (Ex.ret (Ev.ifF (mu₁ := mu) (Ts.eq (Ts.and2 (by walk_at "ts") (fun _ => Ts.cmp (by walk_at "ev") (Ev.glbV G.ok (by walk_at "mem") (gv_no_args G)) Op2.inT)) ((Bool.not_eq_true _).mp q5)) (by walk_at "ev")))
end
-- text P22
section
variable {c : Cx}
structure AL where
  kd : List Nat
  wd : List Nat
  as : List Tr
  ts : List Tr
  ops : List Op
structure LevAt (mu : Mem) (k : Nat) (a : AL) : Prop where
  len : k + 3 < mu.length
  d : mu[k]? = some (.dict (lvKV a.kd a.wd k))
  g : mu[k + 1]? = some (.list (a.as.map Tr.pv))
  t : mu[k + 2]? = some (.list (a.ts.reverse.map Tr.pv))
  o : mu[k + 3]? = some (.list (a.ops.reverse.map opPV))
noncomputable abbrev LV := Nat × AL
noncomputable def lvls (st : List LV) : List PV := st.reverse.map fun l => .inst 232 l.1
noncomputable def apartL (a b : LV) : Prop := a.1 + 3 < b.1 ∨ b.1 + 3 < a.1
structure Stk (mu₀ mu : Mem) (lc B : Nat) (st : List LV) : Prop where
  len : mu₀.length ≤ mu.length
  pre : ∀ i, i < mu₀.length → mu[i]? = mu₀[i]?
  wf : Wf mu
  lst : mu[lc]? = some (.list (lvls st))
  lcb : mu₀.length ≤ lc
  lev : ∀ l ∈ st, LevAt mu l.1 l.2 ∧ mu₀.length ≤ l.1 ∧ (lc < l.1 ∨ l.1 + 3 < lc)
  apart : st.Pairwise apartL
  size : ∀ l ∈ st, l.2.as.length + l.2.ts.length + l.2.ops.length ≤ B
theorem lvls_cons (l : LV) (st : List LV) : lvls (l :: st) = lvls st ++ [.inst 232 l.1] := by simp [lvls]
theorem LevAt.frame {mu mu' : Mem} {k : Nat} {a : AL} (h : LevAt mu k a) (hlen : mu.length ≤ mu'.length) (hs : ∀ i, k ≤ i → i ≤ k + 3 → mu'[i]? = mu[i]?) : LevAt mu' k a :=
  ⟨by have := h.len; omega, by rw [hs _ (by omega) (by omega)]; exact h.d, by rw [hs _ (by omega) (by omega)]; exact h.g, by rw [hs _ (by omega) (by omega)]; exact h.t, by rw [hs _ (by omega) (by omega)]; exact h.o⟩
theorem Stk.upd {mu₀ mu mu' : Mem} {lc B k : Nat} {a a' : AL} {st : List LV} (S : Stk mu₀ mu lc B ((k, a) :: st)) (hlen : mu'.length = mu.length) (hs : ∀ i, i ≠ k + 1 → i ≠ k + 2 → i ≠ k + 3 → mu'[i]? = mu[i]?) (hl : LevAt mu' k a')
    (hB : a'.as.length + a'.ts.length + a'.ops.length ≤ B + 1) (W : Wf mu') : Stk mu₀ mu' lc (B + 1) ((k, a') :: st) := by
  obtain ⟨h1, h2, h3⟩ := S.lev _ List.mem_cons_self
  have ap := List.pairwise_cons.mp S.apart
  refine ⟨by rw [hlen]; exact S.len, fun i hi => ?_, W, ?_, S.lcb, fun l hl' => ?_, List.pairwise_cons.mpr ⟨ap.1, ap.2⟩, fun l hl' => ?_⟩
  · rw [hs i (by omega) (by omega) (by omega)]; exact S.pre i hi
  · rw [hs lc (by omega) (by omega) (by omega)]; have := S.lst; rw [lvls_cons] at this ⊢; exact this
  · rcases List.mem_cons.mp hl' with rfl | hl'
    · exact ⟨hl, h2, h3⟩
    · obtain ⟨g1, g2, g3⟩ := S.lev l (List.mem_cons_of_mem _ hl')
      have := ap.1 l hl'
      unfold apartL at this
      refine ⟨g1.frame (by omega) fun i h1 h2 => hs i ?_ ?_ ?_, g2, g3⟩ <;> (dsimp only at this; omega)
  · rcases List.mem_cons.mp hl' with rfl | hl'
    · exact hB
    · exact Nat.le_succ_of_le (S.size l (List.mem_cons_of_mem _ hl'))
theorem Stk.frame {mu₀ mu mu' : Mem} {lc B k : Nat} {st : List LV} (S : Stk mu₀ mu lc B st) (hlen : mu'.length = mu.length) (hs : ∀ i, i ≠ k + 2 → i ≠ k + 3 → mu'[i]? = mu[i]?) (hk : mu₀.length ≤ k) (hc : lc < k ∨ k + 3 < lc) (ha : ∀ l ∈ st, k + 3 < l.1 ∨ l.1 + 3 < k) (W : Wf mu') : Stk mu₀ mu' lc B st := by
  refine ⟨by rw [hlen]; exact S.len, fun i hi => ?_, W, ?_, S.lcb, fun l hl => ?_, S.apart, S.size⟩
  · rw [hs i (by omega) (by omega)]; exact S.pre i hi
  · rw [hs lc (by omega) (by omega)]; exact S.lst
  · obtain ⟨g1, g2, g3⟩ := S.lev l hl
    have := ha l hl
    exact ⟨g1.frame (by omega) fun i h1 h2 => hs i (by omega) (by omega), g2, g3⟩
theorem lvls_under {st : List LV} {k : Nat} (h : ∀ l ∈ st, l.1 < k) : PV.underL k (lvls st) = true := by
  induction st with
  | nil => rfl
  | cons l st ih =>
    rw [lvls_cons]
    refine underL_append (ih fun l hl => h l (List.mem_cons_of_mem _ hl)) ?_
    have := h l List.mem_cons_self
    simp [PV.underL, PV.under, this]
theorem Stk.pop {mu₀ mu : Mem} {lc B k : Nat} {a : AL} {st : List LV} (S : Stk mu₀ mu lc B ((k, a) :: st)) : Stk mu₀ (mu.set lc (.list (lvls st))) lc B st ∧ LevAt (mu.set lc (.list (lvls st))) k a := by
  have ap := List.pairwise_cons.mp S.apart
  have hlt : lc < mu.length := by
    by_cases q : lc < mu.length
    · exact q
    · have := S.lst; rw [List.getElem?_eq_none (by omega)] at this; cases this
  have hs : ∀ i, i ≠ lc → (mu.set lc (.list (lvls st)))[i]? = mu[i]? := fun i hi => List.getElem?_set_ne (Ne.symm hi)
  refine ⟨⟨by rw [List.length_set]; exact S.len, fun i hi => ?_, S.wf.set ?_, ?_, S.lcb, fun l hl => ?_, ap.2, fun l hl => S.size l (List.mem_cons_of_mem _ hl)⟩, ?_⟩
  · rw [hs i (by have := S.lcb; omega)]; exact S.pre i hi
  · exact lvls_under fun l hl => by have := (S.lev l (List.mem_cons_of_mem _ hl)).1.len; omega
  · rw [List.getElem?_set_self hlt]
  · obtain ⟨g1, g2, g3⟩ := S.lev l (List.mem_cons_of_mem _ hl)
    exact ⟨g1.frame (by rw [List.length_set]; exact Nat.le_refl _) fun i h1 h2 => hs i (by omega), g2, g3⟩
  · obtain ⟨g1, g2, g3⟩ := S.lev _ List.mem_cons_self
    exact g1.frame (by rw [List.length_set]; exact Nat.le_refl _) fun i h1 h2 => hs i (by dsimp only at g3; omega)
theorem Wf.app {mu nu : Mem} (W : Wf mu) (h : memBelow (mu.length + nu.length) nu = true) : Wf (mu ++ nu) := by
  refine ⟨?_⟩
  rw [List.length_append, memBelow_take, memBelow_mono (Nat.le_add_right _ _) mu W.ok, h]; rfl
theorem Stk.open {mu₀ mu : Mem} {lc B : Nat} {kd wd : List Nat} {st : List LV} (S : Stk mu₀ mu lc B st) : Stk mu₀ ((mu ++ lvNew kd wd mu.length).set lc (.list (lvls st ++ [.inst 232 mu.length]))) lc (B + 1) ((mu.length, ⟨kd, wd, [], [], []⟩) :: st) := by
  have hlt : lc < mu.length := by
    by_cases q : lc < mu.length
    · exact q
    · have := S.lst; rw [List.getElem?_eq_none (by omega)] at this; cases this
  have hl4 : (mu ++ lvNew kd wd mu.length).length = mu.length + 4 := by simp [lvNew]
  have hs : ∀ i, i ≠ lc → ((mu ++ lvNew kd wd mu.length).set lc (.list (lvls st ++ [.inst 232 mu.length])))[i]? = (mu ++ lvNew kd wd mu.length)[i]? := fun i hi => List.getElem?_set_ne (Ne.symm hi)
  have hold : ∀ i, i < mu.length → i ≠ lc → ((mu ++ lvNew kd wd mu.length).set lc (.list (lvls st ++ [.inst 232 mu.length])))[i]? = mu[i]? := fun i hi hn => by rw [hs i hn, List.getElem?_append_left hi]
  have hnew : ∀ j, ((mu ++ lvNew kd wd mu.length).set lc (.list (lvls st ++ [.inst 232 mu.length])))[mu.length + j]? = (lvNew kd wd mu.length)[j]? := fun j => by rw [hs _ (by omega), List.getElem?_append_right (Nat.le_add_right _ _), Nat.add_sub_cancel_left]
  refine ⟨by rw [List.length_set, hl4]; have := S.len; omega, fun i hi => ?_, ?_, ?_, S.lcb, fun l hl => ?_, List.pairwise_cons.mpr ⟨fun l hl => ?_, S.apart⟩, fun l hl => ?_⟩
  · rw [hold i (by have := S.len; omega) (by have := S.lcb; omega)]; exact S.pre i hi
  · refine (S.wf.app ?_).set ?_
    · simp [lvNew, lvKV, memBelow, Cell.under, kvBelow, PV.under, PV.underL]
    · rw [hl4]
      refine underL_append (lvls_under fun l hl => by have := (S.lev l hl).1.len; omega) ?_
      simp [PV.underL, PV.under]
  · rw [List.getElem?_set_self (by rw [hl4]; omega), lvls_cons]
  · rcases List.mem_cons.mp hl with rfl | hl
    · refine ⟨⟨by rw [List.length_set, hl4]; dsimp only; omega, ?_, hnew 1, hnew 2, hnew 3⟩, S.len, .inl hlt⟩
      exact hnew 0
    · obtain ⟨g1, g2, g3⟩ := S.lev l hl
      have := g1.len
      exact ⟨g1.frame (by rw [List.length_set, hl4]; omega) fun i h1 h2 => hold i (by omega) (by omega), g2, g3⟩
  · have := (S.lev l hl).1.len
    right; exact this
  · rcases List.mem_cons.mp hl with rfl | hl
    · exact Nat.zero_le _
    · exact Nat.le_succ_of_le (S.size l hl)
end
-- text P23
section
variable {c : Cx}
theorem Stk.top {mu₀ mu : Mem} {lc B k : Nat} {a : AL} {st : List LV} (S : Stk mu₀ mu lc B ((k, a) :: st)) : LevAt mu k a := (S.lev _ List.mem_cons_self).1
theorem LevAt.setT {mu : Mem} {k : Nat} {a : AL} (h : LevAt mu k a) (ts : List Tr) : LevAt (mu.set (k + 2) (.list (ts.reverse.map Tr.pv))) k ⟨a.kd, a.wd, a.as, ts, a.ops⟩ := by
  have := h.len
  refine ⟨by rw [List.length_set]; exact h.len, ?_, ?_, ?_, ?_⟩
  · rw [List.getElem?_set_ne (by omega)]; exact h.d
  · rw [List.getElem?_set_ne (by omega)]; exact h.g
  · rw [List.getElem?_set_self (by omega)]
  · rw [List.getElem?_set_ne (by omega)]; exact h.o
theorem LevAt.setO {mu : Mem} {k : Nat} {a : AL} (h : LevAt mu k a) (ops : List Op) : LevAt (mu.set (k + 3) (.list (ops.reverse.map opPV))) k ⟨a.kd, a.wd, a.as, a.ts, ops⟩ := by
  have := h.len
  refine ⟨by rw [List.length_set]; exact h.len, ?_, ?_, ?_, ?_⟩
  · rw [List.getElem?_set_ne (by omega)]; exact h.d
  · rw [List.getElem?_set_ne (by omega)]; exact h.g
  · rw [List.getElem?_set_ne (by omega)]; exact h.t
  · rw [List.getElem?_set_self (by omega)]
theorem LevAt.setA {mu : Mem} {k : Nat} {a : AL} (h : LevAt mu k a) (as : List Tr) : LevAt (mu.set (k + 1) (.list (as.map Tr.pv))) k ⟨a.kd, a.wd, as, a.ts, a.ops⟩ := by
  have := h.len
  refine ⟨by rw [List.length_set]; exact h.len, ?_, ?_, ?_, ?_⟩
  · rw [List.getElem?_set_ne (by omega)]; exact h.d
  · rw [List.getElem?_set_self (by omega)]
  · rw [List.getElem?_set_ne (by omega)]; exact h.t
  · rw [List.getElem?_set_ne (by omega)]; exact h.o
theorem under_trs (k : Nat) : ∀ ts : List Tr, PV.underL k (ts.map Tr.pv) = true
  | [] => rfl
  | t :: ts => by rw [List.map_cons, PV.underL, Tr.under, under_trs k ts]; rfl
theorem under_ops (k : Nat) : ∀ ts : List Op, PV.underL k (ts.map opPV) = true
  | [] => rfl
  | t :: ts => under_ops k ts
theorem Stk.pushT {mu₀ mu : Mem} {lc B k : Nat} {a : AL} {st : List LV} (S : Stk mu₀ mu lc B ((k, a) :: st)) (t : Tr) : Stk mu₀ (mu.set (k + 2) (.list ((t :: a.ts).reverse.map Tr.pv))) lc (B + 1) ((k, ⟨a.kd, a.wd, a.as, t :: a.ts, a.ops⟩) :: st) :=
  S.upd (List.length_set ..) (fun i _ h _ => List.getElem?_set_ne (Ne.symm h)) (S.top.setT _) (by have := S.size _ List.mem_cons_self; dsimp only at this ⊢; rw [List.length_cons]; omega) (S.wf.set (under_trs _ _))
theorem Stk.pushO {mu₀ mu : Mem} {lc B k : Nat} {a : AL} {st : List LV} (S : Stk mu₀ mu lc B ((k, a) :: st)) (o : Op) : Stk mu₀ (mu.set (k + 3) (.list ((o :: a.ops).reverse.map opPV))) lc (B + 1) ((k, ⟨a.kd, a.wd, a.as, a.ts, o :: a.ops⟩) :: st) :=
  S.upd (List.length_set ..) (fun i _ _ h => List.getElem?_set_ne (Ne.symm h)) (S.top.setO _) (by have := S.size _ List.mem_cons_self; dsimp only at this ⊢; rw [List.length_cons]; omega) (S.wf.set (under_ops _ _))
section
variable {F : FS} {n : Nat} {ρ : Loc} {mu₀ mu : Mem} {lc B k : Nat} {a : AL} {st : List LV}
theorem Ev.topL (S : Stk mu₀ mu lc B ((k, a) :: st)) (hst : st.length ≤ 100) (hm : (("levels" : PySem.Str), some (PV.cell lc)) ∈ ρ) {p1 p2 p3 p4 : Pos} {k1 : Nat} : Ev c F n ρ mu (.Subscript (.Name "levels" p1) (.UnaryOp .USub (.Constant (.int 1) k1 p2) p3) p4) (.inst 232 k) mu :=
  Ev.sub (Ev.loc hm) (Ev.un (Ev.intN (m := 1) rfl) Op1.negI) (Op2.idxCm (ps := lvls st) (by rw [← lvls_cons (k, a)]; exact S.lst) (by simp [lvls]; omega))
theorem pushT_op (S : Stk mu₀ mu lc B ((k, a) :: st)) (hB : B < 5000) (t : Tr) : OpN c n mu (fun vs => call (.builtin "list.append") vs) [.cell (k + 2), t.pv] .none (mu.set (k + 2) (.list ((t :: a.ts).reverse.map Tr.pv))) := by
  have := S.size _ List.mem_cons_self
  have h := appendC (c := c) (n := n) (p := t.pv) S.top.t (by simp; dsimp only at this; omega)
  rwa [show a.ts.reverse.map Tr.pv ++ [t.pv] = (t :: a.ts).reverse.map Tr.pv by simp] at h
theorem pushO_op (S : Stk mu₀ mu lc B ((k, a) :: st)) (hB : B < 5000) (o : Op) : OpN c n mu (fun vs => call (.builtin "list.append") vs) [.cell (k + 3), opPV o] .none (mu.set (k + 3) (.list ((o :: a.ops).reverse.map opPV))) := by
  have := S.size _ List.mem_cons_self
  have h := appendC (c := c) (n := n) (p := opPV o) S.top.o (by simp; dsimp only at this; omega)
  rwa [show a.ops.reverse.map opPV ++ [opPV o] = (o :: a.ops).reverse.map opPV by simp] at h
theorem pushT_m (S : Stk mu₀ mu lc B ((k, a) :: st)) : Meth c n mu (.cell (k + 2)) "append" (.builtin "list.append") := Meth.cell S.top.t F.slot_list_append F.type_list_append
theorem pushO_m (S : Stk mu₀ mu lc B ((k, a) :: st)) : Meth c n mu (.cell (k + 3)) "append" (.builtin "list.append") := Meth.cell S.top.o F.slot_list_append F.type_list_append
end
noncomputable def opKd (kd x : List Nat) : List Nat := if kd = T "word" then T "call" else if x.take 2 = T "FN" then T "fn" else T "item"
noncomputable def operandM (P : Params) (ts : Toks) (i : Nat) (st : List AL) : Option (List AL × Nat × Bool) :=
  match plainM P ts i with
  | Option.none => Option.none
  | some (some t) => (match st with
    | a :: r => some (⟨a.kd, a.wd, a.as, t :: a.ts, a.ops⟩ :: r, i + 1, true)
    | [] => Option.none)
  | some Option.none =>
    if decide ((tokG ts i).1 = T "sign") && decide ((tokG ts i).2 = T "-") then (match st with
      | a :: r => some (⟨a.kd, a.wd, a.as, a.ts, (T "neg", 12) :: a.ops⟩ :: r, i + 1, false)
      | [] => Option.none)
    else if decide ((tokG ts i).1 = T "word") && decide ((tokG ts i).2 = T "NOT") then (match st with
      | a :: r => some (⟨a.kd, a.wd, a.as, a.ts, (T "not", 6) :: a.ops⟩ :: r, i + 1, false)
      | [] => Option.none)
    else if decide ((tokG ts i).1 = T "sign") && decide ((tokG ts i).2 = T "(") then (if st.length ≤ 60 then some (⟨T "group", T "", [], [], []⟩ :: st, i + 1, false) else Option.none)
    else if decide ((tokG ts i).1 = T "name") || (decide ((tokG ts i).1 = T "word") && (fwords P).contains (tokG ts i).2) then
      (if isSg ts (i + 1) (T "(") && decide (st.length ≤ 60) then some (⟨opKd (tokG ts i).1 (tokG ts i).2, (tokG ts i).2, [], [], []⟩ :: st, i + 1 + 1, false) else Option.none)
    else Option.none
noncomputable abbrev ρop (lc i : Nat) (ts : Toks) (kn : List PV) (a b f : Option PV) : Loc := [("levels", some (.cell lc)), ("tokens", some (.lst (tokL ts))), ("at", some (.int i)), ("known", some (.lst kn)), ("kind", a), ("told", b), ("found", f)]
theorem tr_some (t : Tr) (g : GH) (al : List Addr) (z : Value) (h : Rep g al t.pv z) : (z == Value.none) = false := by
  cases t <;> exact notNone_tup g al z h
theorem take_operand_ok (G : Pg c) {ts : Toks} {i i' lc B : Nat} {b : Bool} {st : List LV} {ast : List AL} {mu₀ mu : Mem} (S : Stk mu₀ mu lc B st) (hB : B < 5000) (hz : ts.length < 5000) (hi : i < 5000) (hx : (tokG ts i).2.length < 10000) (hst : st.length ≤ 61)
    (h : operandM c.w.params ts i (st.map (·.2)) = some (ast, i', b)) : ∃ mu' st', Stk mu₀ mu' lc (B + 1) st' ∧ mu.length ≤ mu'.length ∧ st'.map (·.2) = ast ∧
      Fn c 5 (.ref 271) [.cell lc, .lst (tokL ts), .int i, .lst ((fwords c.w.params).map PV.str)] mu (.tup [.int i', .bool b]) mu' := by
  have W := S.wf
  unfold operandM at h
  split at h
  · cases h
  · -- found
    rename_i t hp
    cases st with
    | nil => cases h
    | cons l st =>
      obtain ⟨k, a⟩ := l
      cases h
      have S' := S.pushT t
      refine ⟨_, _, S', by rw [List.length_set]; exact Nat.le_refl _, rfl, ?_⟩
      have p0 := plain_operand_ok G W (by omega) (by omega) hx hp
      generalize hkd : (tokG ts i).1 = kd
      generalize hwd : (tokG ts i).2 = x
      have t0 := token_at_ok (mu := mu) G (i := i) (ts := ts) W (by omega) (by omega)
      rw [hkd, hwd] at t0
      refine Fn.made (ρop lc i ts _ Option.none Option.none Option.none) G.ok (at_take_operand G) ?_ (by rw [List.length_set]; exact Nat.le_refl _) S'.wf (by rfl)
      refine Exs.cons (mu₁ := mu) (ρ₁ := ρop lc i ts _ (some (.str kd)) (some (.str x)) Option.none) (Ex.asgT2 (Ev.fcall G.ok (by walk_at "ev") (by walk_at "callee") (by walk_at "evl") (Fn.op t0)) (by walk_at "upd") (by walk_at "upd")) ?_
      refine Exs.cons (mu₁ := mu) (ρ₁ := ρop lc i ts _ (some (.str kd)) (some (.str x)) (some t.pv)) (Ex.asg (Ev.fcall G.ok (by walk_at "ev") (by walk_at "callee") (by walk_at "evl") (Fn.op p0)) (by walk_at "upd")) ?_
      refine Exs.ifT (mu₁ := mu) (Ts.cmp (by walk_at "ev") (by walk_at "ev") (Op2.isNotNone (tr_some t))) ?_
      refine Exs.cons (mu₁ := _) (ρ₁ := ρop lc i ts _ (some (.str kd)) (some (.str x)) (some t.pv)) (Ex.expr (Ev.meth G.ok (Ev.attr G.ok (ak_operands G) (Ev.topL S (by simp at hst; omega) (by walk_at "mem")) S.top.d (by rfl)) (pushT_m S) Callee.builtin (EvL.cons (by walk_at "ev") EvL.nil) (pushT_op S hB t))) ?_
      exact Exs.ret (Ex.ret (by walk_at "ev"))
  · rename_i hp
    have p0 := plain_operand_ok G W (by omega) (by omega) hx hp
    generalize hkd : (tokG ts i).1 = kd at h
    generalize hwd : (tokG ts i).2 = x at h hx
    have t0 := token_at_ok (mu := mu) G (i := i) (ts := ts) W (by omega) (by omega)
    rw [hkd, hwd] at t0
    have hls : (st.map (·.2)).length = st.length := List.length_map ..
    -- what all branches share
    have go : ∀ {mu' : Mem} {out : PV}, mu.length ≤ mu'.length → Wf mu' → out.under mu'.length = true →
        (∀ {sts}, sts = ((bodyAt (KK c.w.params) 271).drop 3) → Exs c (fs_take_operand c) 4 (ρop lc i ts ((fwords c.w.params).map PV.str) (some (.str kd)) (some (.str x)) (some .none)) mu sts (.ret out mu')) →
        Fn c 5 (.ref 271) [.cell lc, .lst (tokL ts), .int i, .lst ((fwords c.w.params).map PV.str)] mu out mu' := by
      intro mu' out hle W' hu hs
      refine Fn.made (ρop lc i ts _ Option.none Option.none Option.none) G.ok (at_take_operand G) ?_ hle W' hu
      refine Exs.cons (mu₁ := mu) (ρ₁ := ρop lc i ts _ (some (.str kd)) (some (.str x)) Option.none) (Ex.asgT2 (Ev.fcall G.ok (by walk_at "ev") (by walk_at "callee") (by walk_at "evl") (Fn.op t0)) (by walk_at "upd") (by walk_at "upd")) ?_
      refine Exs.cons (mu₁ := mu) (ρ₁ := ρop lc i ts _ (some (.str kd)) (some (.str x)) (some .none)) (Ex.asg (Ev.fcall G.ok (by walk_at "ev") (by walk_at "callee") (by walk_at "evl") (Fn.op p0)) (by walk_at "upd")) ?_
      exact Exs.ifF (mu₁ := mu) (Ts.cmp (by walk_at "ev") (by walk_at "ev") Op2.isNotNone') (hs rfl)
    split at h
    · rename_i q1
      cases st with
      | nil => cases h
      | cons l st =>
        obtain ⟨k, a⟩ := l
        cases h
        have S' := S.pushO (T "neg", 12)
        refine ⟨_, _, S', by rw [List.length_set]; exact Nat.le_refl _, rfl, go (by rw [List.length_set]; exact Nat.le_refl _) S'.wf (by rfl) fun e => ?_⟩
        rw [e]
        refine Exs.ifN (mu₁ := mu) (mu₂ := mu.set (k + 3) (.list (((T "neg", 12) :: a.ops).reverse.map opPV))) (ρ₁ := ρop lc i ts ((fwords c.w.params).map PV.str) (some (.str kd)) (some (.str x)) (some .none)) (Ts.eq (by walk_at "ts") q1) (Exs.cons (Ex.expr (Ev.meth G.ok (Ev.attr G.ok (ak_operators G) (Ev.topL S (by simp at hst; omega) (by walk_at "mem")) S.top.d (by rfl)) (pushO_m S) Callee.builtin (EvL.cons (p := opPV (T "neg", 12)) (Ev.tup (by walk_at "evl")) EvL.nil) (pushO_op S hB (T "neg", 12)))) Exs.nil) ?_
        exact Exs.ret (Ex.ret (by walk_at "ev"))
    · rename_i q1
      split at h
      · rename_i q2
        cases st with
        | nil => cases h
        | cons l st =>
          obtain ⟨k, a⟩ := l
          cases h
          have S' := S.pushO (T "not", 6)
          refine ⟨_, _, S', by rw [List.length_set]; exact Nat.le_refl _, rfl, go (by rw [List.length_set]; exact Nat.le_refl _) S'.wf (by rfl) fun e => ?_⟩
          rw [e]
          refine Exs.ifM (mu₁ := mu) (mu₂ := mu.set (k + 3) (.list (((T "not", 6) :: a.ops).reverse.map opPV))) (ρ₁ := ρop lc i ts ((fwords c.w.params).map PV.str) (some (.str kd)) (some (.str x)) (some .none)) (Ts.eq (by walk_at "ts") ((Bool.not_eq_true _).mp q1)) ?_ (Exs.ret (Ex.ret (by walk_at "ev")))
          exact Exs.ifN (mu₁ := mu) (Ts.eq (by walk_at "ts") q2) (Exs.cons (Ex.expr (Ev.meth G.ok (Ev.attr G.ok (ak_operators G) (Ev.topL S (by simp at hst; omega) (by walk_at "mem")) S.top.d (by rfl)) (pushO_m S) Callee.builtin (EvL.cons (p := opPV (T "not", 6)) (Ev.tup (by walk_at "evl")) EvL.nil) (pushO_op S hB (T "not", 6)))) Exs.nil) Exs.nil
      · rename_i q2
        split at h
        · rename_i q3
          split at h
          · rename_i q4
            rw [hls] at q4
            cases h
            have S' := S.open (kd := T "group") (wd := T "")
            have hlen : mu.length ≤ ((mu ++ lvNew (T "group") (T "") mu.length).set lc (.list (lvls st ++ [.inst 232 mu.length]))).length := by rw [List.length_set, List.length_append]; exact Nat.le_add_right _ _
            refine ⟨_, _, S', hlen, rfl, go hlen S'.wf (by rfl) fun e => ?_⟩
            rw [e]
            refine Exs.ifM (mu₁ := mu) (mu₂ := (mu ++ lvNew (T "group") (T "") mu.length).set lc (.list (lvls st ++ [.inst 232 mu.length]))) (ρ₁ := ρop lc i ts ((fwords c.w.params).map PV.str) (some (.str kd)) (some (.str x)) (some .none)) (Ts.eq (by walk_at "ts") ((Bool.not_eq_true _).mp q1)) ?_ (Exs.ret (Ex.ret (by walk_at "ev")))
            refine Exs.ifM (mu₁ := mu) (Ts.eq (by walk_at "ts") ((Bool.not_eq_true _).mp q2)) ?_ Exs.nil
            exact Exs.ifN (mu₁ := mu) (Ts.eq (by walk_at "ts") q3) (Exs.cons (Ex.expr (Ev.fcall G.ok (by walk_at "ev") (by walk_at "callee") (by walk_at "evl") (Fn.op (opened_ok G S.lst (by simp [lvls]; omega))))) Exs.nil) Exs.nil
          · cases h
        · rename_i q3
          split at h
          · rename_i q4
            split at h
            · rename_i q5
              cases h
              rw [Bool.and_eq_true] at q5
              obtain ⟨q5, q6⟩ := q5
              have q6 := of_decide_eq_true q6
              rw [hls] at q6
              have S' := S.open (kd := opKd kd x) (wd := x)
              have hlen : mu.length ≤ ((mu ++ lvNew (opKd kd x) x mu.length).set lc (.list (lvls st ++ [.inst 232 mu.length]))).length := by rw [List.length_set, List.length_append]; exact Nat.le_add_right _ _
              refine ⟨_, _, S', hlen, rfl, go hlen S'.wf (by rfl) fun e => ?_⟩
              rw [e]
              refine Exs.ifM (mu₁ := mu) (mu₂ := (mu ++ lvNew (opKd kd x) x mu.length).set lc (.list (lvls st ++ [.inst 232 mu.length]))) (ρ₁ := ρop lc (i + 1) ts ((fwords c.w.params).map PV.str) (some (.str kd)) (some (.str x)) (some .none)) (Ts.eq (by walk_at "ts") ((Bool.not_eq_true _).mp q1)) ?_ (Exs.ret (Ex.ret (by walk_at "ev")))
              refine Exs.ifM (mu₁ := mu) (Ts.eq (by walk_at "ts") ((Bool.not_eq_true _).mp q2)) ?_ Exs.nil
              refine Exs.ifM (mu₁ := mu) (Ts.eq (by walk_at "ts") ((Bool.not_eq_true _).mp q3)) ?_ Exs.nil
              refine Exs.ifN (mu₁ := mu) (Ts.eq (Ts.or2 (by walk_at "ts") (fun _ => Ts.and2 (by walk_at "ts") (fun _ => Ts.cmp (by walk_at "ev") (by walk_at "ev") Op2.inL))) q4) ?_ Exs.nil
              refine Exs.cons (mu₁ := mu) (ρ₁ := ρop lc (i + 1) ts ((fwords c.w.params).map PV.str) (some (.str kd)) (some (.str x)) (some .none)) (Ex.asg (v := .int ((i + 1 : Nat))) (Ev.eq (Ev.bin (Ev.fcall G.ok (by walk_at "ev") (by walk_at "callee") (by walk_at "evl") (Fn.op (expect_ok G W (by omega) (by omega) q5))) (by walk_at "ev") (by walk_at "op")) (by congr 1; omega)) (by walk_at "upd")) ?_
              have op := opened_ok G (kd := opKd kd x) (wd := x) S.lst (by simp [lvls]; omega)
              by_cases e1 : kd = T "word"
              · have ek : opKd kd x = T "call" := by unfold opKd; rw [if_pos e1]
                rw [ek] at op ⊢
                exact Exs.cons (Ex.expr (Ev.fcall G.ok (by walk_at "ev") (by walk_at "callee") (EvL.cons (by walk_at "ev") (EvL.cons (Ev.ifT (mu₁ := mu) (Ts.eq (by walk_at "ts") (decide_eq_true e1)) (by walk_at "ev")) (EvL.cons (by walk_at "ev") EvL.nil))) (Fn.op op))) Exs.nil
              · by_cases e2 : x.take 2 = T "FN"
                · have ek : opKd kd x = T "fn" := by unfold opKd; rw [if_neg e1, if_pos e2]
                  rw [ek] at op ⊢
                  exact Exs.cons (Ex.expr (Ev.fcall G.ok (by walk_at "ev") (by walk_at "callee") (EvL.cons (by walk_at "ev") (EvL.cons (Ev.ifF (mu₁ := mu) (Ts.eq (by walk_at "ts") (decide_eq_false e1)) (Ev.ifT (mu₁ := mu) (Ts.eq (by walk_at "ts") (decide_eq_true e2)) (by walk_at "ev"))) (EvL.cons (by walk_at "ev") EvL.nil))) (Fn.op op))) Exs.nil
                · have ek : opKd kd x = T "item" := by unfold opKd; rw [if_neg e1, if_neg e2]
                  rw [ek] at op ⊢
                  exact Exs.cons (Ex.expr (Ev.fcall G.ok (by walk_at "ev") (by walk_at "callee") (EvL.cons (by walk_at "ev") (EvL.cons (Ev.ifF (mu₁ := mu) (Ts.eq (by walk_at "ts") (decide_eq_false e1)) (Ev.ifF (mu₁ := mu) (Ts.eq (by walk_at "ts") (decide_eq_false e2)) (by walk_at "ev"))) (EvL.cons (by walk_at "ev") EvL.nil))) (Fn.op op))) Exs.nil
            · cases h
          · cases h
end
-- text P24
section
variable {c : Cx}
theorem joinM_size {s : Nat} : ∀ {ops : List Op} {ts ts' : List Tr} {ops' : List Op}, joinM s ts ops = some (ts', ops') → ts'.length ≤ ts.length ∧ ops'.length ≤ ops.length := by
  intro ops
  induction ops with
  | nil => intro ts ts' ops' h; rw [joinM] at h; cases h; exact ⟨Nat.le_refl _, Nat.le_refl _⟩
  | cons o q ih =>
    obtain ⟨op, p⟩ := o
    intro ts ts' ops' h
    unfold joinM at h
    split at h
    · split at h
      · split at h
        · have := ih h; simp only [List.length_cons] at this ⊢; omega
        · cases h
      · split at h
        · have := ih h; simp only [List.length_cons] at this ⊢; omega
        · cases h
    · cases h; exact ⟨Nat.le_refl _, Nat.le_refl _⟩
noncomputable abbrev strD (P : Params) : List Nat → Option PV := dictV (KK P) 163
noncomputable def operatorM (P : Params) (ts : Toks) (i : Nat) (st : List AL) : Option (List AL × Nat × List Nat) :=
  match st with
  | [] => Option.none
  | a :: r =>
    if [T "sign", T "word"].contains (tokG ts i).1 && (strD P (tokG ts i).2).isSome then (match strD P (tokG ts i).2 with
      | some (.int (.ofNat s)) => (match joinM s a.ts a.ops with
        | some (ts', ops') => some (⟨a.kd, a.wd, a.as, ts', ((tokG ts i).2, s) :: ops'⟩ :: r, i + 1, T "operand")
        | Option.none => Option.none)
      | _ => Option.none)
    else if a.kd = T "top" then some (a :: r, i, T "end")
    else if decide ((tokG ts i).1 = T "sign") && (decide ((tokG ts i).2 = T ",") && !decide (a.kd = T "group")) then (match joinM 0 a.ts a.ops with
      | some (t :: ts', ops') => some (⟨a.kd, a.wd, a.as ++ [t], ts', ops'⟩ :: r, i + 1, T "operand")
      | _ => Option.none)
    else if isSg ts i (T ")") then (match r with
      | b :: r' => (match joinM 0 a.ts a.ops with
        | some (t :: ts', ops') => some (⟨b.kd, b.wd, b.as, finM a.kd a.wd a.as t :: b.ts, b.ops⟩ :: r', i + 1, T "operator")
        | _ => Option.none)
      | [] => Option.none)
    else Option.none
noncomputable abbrev ρor (lc i : Nat) (ts : Toks) (a b h : Option PV) : Loc := [("levels", some (.cell lc)), ("tokens", some (.lst (tokL ts))), ("at", some (.int i)), ("kind", a), ("told", b), ("here", h)]
theorem LevAt.memJ {mu : Mem} {k : Nat} {a : AL} (h : LevAt mu k a) (ts : List Tr) (ops : List Op) : LevAt (memJ mu k ts ops) k ⟨a.kd, a.wd, a.as, ts, ops⟩ := (h.setT ts).setO ops
theorem memJ_wf {mu : Mem} {k : Nat} {ts : List Tr} {ops : List Op} (W : Wf mu) : Wf (memJ mu k ts ops) := by
  unfold Mine.memJ
  exact (W.set (cl := .list (ts.reverse.map Tr.pv)) (under_trs _ _)).set (cl := .list (ops.reverse.map opPV)) (under_ops _ _)
theorem take_operator_ok (G : Pg c) {ts : Toks} {i i' lc B : Nat} {due : List Nat} {st : List LV} {ast : List AL} {mu₀ mu : Mem} (S : Stk mu₀ mu lc B st) (hB : B < 4000) (hz : ts.length < 5000) (hi : i < 5000) (hst : st.length ≤ 61)
    (h : operatorM c.w.params ts i (st.map (·.2)) = some (ast, i', due)) : ∃ mu' st', Stk mu₀ mu' lc (B + 1) st' ∧ mu.length ≤ mu'.length ∧ st'.map (·.2) = ast ∧
      Fn c 4 (.ref 278) [.cell lc, .lst (tokL ts), .int i] mu (.tup [.int i', .str due]) mu' := by
  have W := S.wf
  cases st with
  | nil => cases h
  | cons l st =>
    obtain ⟨k, a⟩ := l
    have L := S.top
    have hlen := L.len
    have hsz := S.size _ List.mem_cons_self
    dsimp only at hsz
    unfold operatorM at h
    rw [List.map_cons] at h
    dsimp only at h
    generalize hkd : (tokG ts i).1 = kd at h
    generalize hwd : (tokG ts i).2 = x at h
    have t0 := token_at_ok (mu := mu) G (i := i) (ts := ts) W (by omega) (by omega)
    rw [hkd, hwd] at t0
    have self : memJ mu k a.ts a.ops = mu := memJ_self L.t L.o
    have go : ∀ {mu' : Mem} {out : PV}, mu.length ≤ mu'.length → Wf mu' → out.under mu'.length = true →
        (∀ {sts}, sts = ((bodyAt (KK c.w.params) 278).drop 2) → Exs c (fs_take_operator c) 3 (ρor lc i ts (some (.str kd)) (some (.str x)) (some (.inst 232 k))) mu sts (.ret out mu')) →
        Fn c 4 (.ref 278) [.cell lc, .lst (tokL ts), .int i] mu out mu' := by
      intro mu' out hle W' hu hs
      refine Fn.made (ρor lc i ts Option.none Option.none Option.none) G.ok (at_take_operator G) ?_ hle W' hu
      refine Exs.cons (mu₁ := mu) (ρ₁ := ρor lc i ts (some (.str kd)) (some (.str x)) Option.none) (Ex.asgT2 (Ev.fcall G.ok (by walk_at "ev") (by walk_at "callee") (by walk_at "evl") (Fn.op t0)) (by walk_at "upd") (by walk_at "upd")) ?_
      refine Exs.cons (mu₁ := mu) (ρ₁ := ρor lc i ts (some (.str kd)) (some (.str x)) (some (.inst 232 k))) (Ex.asg (Ev.topL S (by simp at hst; omega) (by walk_at "mem")) (by walk_at "upd")) ?_
      exact hs rfl
    have tS : ∀ {p1 p2 p3 p4 p5 p6 p7 p8 p9 : Pos} {k1 k2 k3 : Nat}, Ts c (fs_take_operator c) 3 (ρor lc i ts (some (.str kd)) (some (.str x)) (some (.inst 232 k))) mu (.BoolOp .And [.Compare (.Name "kind" p1) [.In] [.Tuple [.Constant (.str "sign") k1 p2, .Constant (.str "word") k2 p3] k3 p4] p5, .Compare (.Name "told" p6) [.In] [.Name "STRENGTH" p7] p8] p9)
        ([T "sign", T "word"].contains kd && (strD c.w.params x).isSome) mu := by
      intros
      exact Ts.and2 (by walk_at "ts") (fun _ => Ts.cmp (by walk_at "ev") (by walk_at "ev") (Op2.inD G.ok (dk_strength G)))
    have eK : ∀ {mu' : Mem} {p1 p2 : Pos}, LevAt mu' k a → Ev c (fs_take_operator c) 3 (ρor lc i ts (some (.str kd)) (some (.str x)) (some (.inst 232 k))) mu' (.Attribute (.Name "here" p1) "kind" p2) (.str a.kd) mu' := fun {mu' p1 p2} L => Ev.attr G.ok (ak_kind G) (by walk_at "ev") L.d (by rfl)
    split at h
    · rename_i q1
      split at h
      · rename_i s hs
        split at h
        · rename_i ts' ops' hj
          cases h
          have hs' : strD c.w.params x = some (.int (s : Int)) := hs
          have hsz' := joinM_size hj
          have L' := L.memJ ts' ((x, s) :: ops')
          have S' : Stk mu₀ (memJ mu k ts' ((x, s) :: ops')) lc (B + 1) ((k, ⟨a.kd, a.wd, a.as, ts', (x, s) :: ops'⟩) :: st) :=
            S.upd memJ_len (fun i _ h2 h3 => memJ_get h2 h3) L' (by dsimp only; rw [List.length_cons]; omega) (memJ_wf W)
          refine ⟨_, _, S', by rw [memJ_len]; exact Nat.le_refl _, rfl, go (by rw [memJ_len]; exact Nat.le_refl _) S'.wf (by rfl) fun e => ?_⟩
          rw [e]
          have j0 := join_up_ok G (s := s) hlen L.d (by omega) hj
          rw [self] at j0
          have Lj := L.memJ ts' ops'
          have ap := appendC (c := c) (n := 3) (mu := memJ mu k ts' ops') (k := k + 3) (p := opPV (x, s)) (memJ_getO hlen) (by simp; omega)
          rw [show ops'.reverse.map opPV ++ [opPV (x, s)] = ((x, s) :: ops').reverse.map opPV by simp, memJ_ops] at ap
          refine Exs.ifT (mu₁ := mu) (Ts.eq tS q1) ?_
          refine Exs.cons (mu₁ := memJ mu k ts' ops') (ρ₁ := ρor lc i ts (some (.str kd)) (some (.str x)) (some (.inst 232 k))) (Ex.expr (Ev.fcall G.ok (by walk_at "ev") (by walk_at "callee") (EvL.cons (by walk_at "ev") (EvL.cons (Ev.sub (by walk_at "ev") (by walk_at "ev") (Op2.idxD G.ok (dk_strength G) hs')) EvL.nil)) (Fn.op j0))) ?_
          refine Exs.cons (mu₁ := memJ mu k ts' ((x, s) :: ops')) (ρ₁ := ρor lc i ts (some (.str kd)) (some (.str x)) (some (.inst 232 k))) (Ex.expr (Ev.meth G.ok (Ev.attr G.ok (ak_operators G) (by walk_at "ev") Lj.d (by rfl)) (Meth.cell (memJ_getO hlen) F.slot_list_append F.type_list_append) Callee.builtin (EvL.cons (p := opPV (x, s)) (Ev.tup (EvL.cons (by walk_at "ev") (EvL.cons (Ev.sub (by walk_at "ev") (by walk_at "ev") (Op2.idxD G.ok (dk_strength G) hs')) EvL.nil))) EvL.nil) ap)) ?_
          exact Exs.ret (Ex.ret (by walk_at "ev"))
        · cases h
      · cases h
    · rename_i q1
      have f1 : ∀ {p1 p2 p3 p4 p5 p6 p7 p8 p9 : Pos} {k1 k2 k3 : Nat}, Ts c (fs_take_operator c) 3 (ρor lc i ts (some (.str kd)) (some (.str x)) (some (.inst 232 k))) mu (.BoolOp .And [.Compare (.Name "kind" p1) [.In] [.Tuple [.Constant (.str "sign") k1 p2, .Constant (.str "word") k2 p3] k3 p4] p5, .Compare (.Name "told" p6) [.In] [.Name "STRENGTH" p7] p8] p9) false mu := by
        intros; exact Ts.eq tS ((Bool.not_eq_true _).mp q1)
      split at h
      · rename_i q2
        cases h
        refine ⟨mu, (k, a) :: st, ⟨S.len, S.pre, S.wf, S.lst, S.lcb, S.lev, S.apart, fun l hl => Nat.le_succ_of_le (S.size l hl)⟩, Nat.le_refl _, rfl, go (Nat.le_refl _) W (by rfl) fun e => ?_⟩
        rw [e]
        refine Exs.ifF (mu₁ := mu) f1 ?_
        exact Exs.ifT (mu₁ := mu) (Ts.eq (Ts.cmp (eK L) (by walk_at "ev") (by walk_at "op")) (decide_eq_true q2)) (Exs.ret (Ex.ret (by walk_at "ev")))
      · rename_i q2
        have t3 : ∀ {p1 p2 p3 p4 p5 p6 p7 p8 p9 p10 p11 : Pos} {k1 k2 k3 : Nat}, Ts c (fs_take_operator c) 3 (ρor lc i ts (some (.str kd)) (some (.str x)) (some (.inst 232 k))) mu (.BoolOp .And [.Compare (.Name "kind" p1) [.Eq] [.Constant (.str "sign") k1 p2] p3, .Compare (.Name "told" p4) [.Eq] [.Constant (.str ",") k2 p5] p6, .Compare (.Attribute (.Name "here" p7) "kind" p8) [.NotEq] [.Constant (.str "group") k3 p9] p10] p11)
            (decide (kd = T "sign") && (decide (x = T ",") && !decide (a.kd = T "group"))) mu := by
          intros
          exact Ts.and3 (by walk_at "ts") (fun _ => by walk_at "ts") (fun _ _ => Ts.cmp (eK L) (by walk_at "ev") (by walk_at "op"))
        split at h
        · rename_i q3
          split at h
          · rename_i t ts' ops' hj
            cases h
            have hsz' := joinM_size hj
            rw [List.length_cons] at hsz'
            have j0 := join_up_ok G (s := 0) hlen L.d (by omega) hj
            rw [self] at j0
            have Lj := L.memJ (t :: ts') ops'
            have Lk := L.memJ ts' ops'
            have L' := Lk.setA (a.as ++ [t])
            have S' : Stk mu₀ ((memJ mu k ts' ops').set (k + 1) (.list ((a.as ++ [t]).map Tr.pv))) lc (B + 1) ((k, ⟨a.kd, a.wd, a.as ++ [t], ts', ops'⟩) :: st) :=
              S.upd (by rw [List.length_set, memJ_len]) (fun i h1 h2 h3 => by rw [List.getElem?_set_ne (Ne.symm h1)]; exact memJ_get h2 h3) L' (by dsimp only; rw [List.length_append]; simp; omega) ((memJ_wf W).set (under_trs _ _))
            have hle : mu.length ≤ ((memJ mu k ts' ops').set (k + 1) (.list ((a.as ++ [t]).map Tr.pv))).length := by rw [List.length_set, memJ_len]; exact Nat.le_refl _
            refine ⟨_, _, S', hle, rfl, go hle S'.wf (by rfl) fun e => ?_⟩
            rw [e]
            have pp := popC (c := c) (n := 3) (mu := memJ mu k (t :: ts') ops') (k := k + 2) (ps := ts'.reverse.map Tr.pv) (p := t.pv) (by rw [memJ_getT hlen]; simp) (by simp; omega)
            rw [memJ_ts] at pp
            have ap := appendC (c := c) (n := 3) (mu := memJ mu k ts' ops') (k := k + 1) (p := t.pv) Lk.g (by simp; omega)
            rw [show (AL.as ⟨a.kd, a.wd, a.as, ts', ops'⟩).map Tr.pv ++ [t.pv] = (a.as ++ [t]).map Tr.pv by simp] at ap
            refine Exs.ifF (mu₁ := mu) f1 ?_
            refine Exs.ifF (mu₁ := mu) (Ts.eq (Ts.cmp (eK L) (by walk_at "ev") (by walk_at "op")) (decide_eq_false q2)) ?_
            refine Exs.ifT (mu₁ := mu) (Ts.eq t3 q3) ?_
            refine Exs.cons (mu₁ := memJ mu k (t :: ts') ops') (ρ₁ := ρor lc i ts (some (.str kd)) (some (.str x)) (some (.inst 232 k))) (Ex.expr (Ev.fcall G.ok (by walk_at "ev") (by walk_at "callee") (by walk_at "evl") (Fn.op j0))) ?_
            refine Exs.cons (mu₁ := (memJ mu k ts' ops').set (k + 1) (.list ((a.as ++ [t]).map Tr.pv))) (ρ₁ := ρor lc i ts (some (.str kd)) (some (.str x)) (some (.inst 232 k))) (Ex.expr (Ev.meth G.ok (Ev.attr G.ok (ak_args G) (by walk_at "ev") Lj.d (by rfl)) (Meth.cell Lj.g F.slot_list_append F.type_list_append) Callee.builtin
              (EvL.cons (Ev.meth G.ok (Ev.attr G.ok (ak_operands G) (by walk_at "ev") Lj.d (by rfl)) (Meth.cell Lj.t F.slot_list_pop F.type_list_pop) Callee.builtin EvL.nil pp) EvL.nil) ap)) ?_
            exact Exs.ret (Ex.ret (by walk_at "ev"))
          · cases h
        · rename_i q3
          split at h
          · rename_i q4
            cases st with
            | nil => cases h
            | cons l2 r' =>
              obtain ⟨k2, b⟩ := l2
              rw [List.map_cons] at h
              dsimp only at h
              split at h
              · rename_i t ts' ops' hj
                cases h
                have hsz' := joinM_size hj
                rw [List.length_cons] at hsz'
                obtain ⟨S1, L1⟩ := S.pop
                have ap12 := (List.pairwise_cons.mp S.apart).1
                have kb := (S.lev _ List.mem_cons_self).2
                have hlen1 := L1.len
                have self1 : memJ (mu.set lc (.list (lvls ((k2, b) :: r')))) k a.ts a.ops = mu.set lc (.list (lvls ((k2, b) :: r'))) := memJ_self L1.t L1.o
                have W2 : Wf (memJ (mu.set lc (.list (lvls ((k2, b) :: r')))) k ts' ops') := memJ_wf S1.wf
                have f0 := finished_ok G hlen1 L1.d L1.g (by omega) (by omega) (by omega) hj W2
                rw [self1] at f0
                have S2 : Stk mu₀ (memJ (mu.set lc (.list (lvls ((k2, b) :: r')))) k ts' ops') lc B ((k2, b) :: r') :=
                  S1.frame memJ_len (fun i h2 h3 => memJ_get h2 h3) kb.1 kb.2 (fun l hl => by have := ap12 l hl; unfold apartL at this; exact this) W2
                have S3 := S2.pushT (finM a.kd a.wd a.as t)
                have hle : mu.length ≤ ((memJ (mu.set lc (.list (lvls ((k2, b) :: r')))) k ts' ops').set (k2 + 2) (.list ((finM a.kd a.wd a.as t :: b.ts).reverse.map Tr.pv))).length := by rw [List.length_set, memJ_len, List.length_set]; exact Nat.le_refl _
                refine ⟨_, _, S3, hle, rfl, go hle S3.wf (by rfl) fun e => ?_⟩
                rw [e]
                have hst' : r'.length ≤ 100 := by simp at hst; omega
                have pp := popC (c := c) (n := 3) (mu := mu) (k := lc) (ps := lvls ((k2, b) :: r')) (p := .inst 232 k) (by rw [← lvls_cons (k, a)]; exact S.lst) (by simp [lvls] at hst' ⊢; omega)
                refine Exs.ifF (mu₁ := mu) f1 ?_
                refine Exs.ifF (mu₁ := mu) (Ts.eq (Ts.cmp (eK L) (by walk_at "ev") (by walk_at "op")) (decide_eq_false q2)) ?_
                refine Exs.ifF (mu₁ := mu) (Ts.eq t3 ((Bool.not_eq_true _).mp q3)) ?_
                refine Exs.cons (mu₁ := mu) (ρ₁ := ρor lc (i + 1) ts (some (.str kd)) (some (.str x)) (some (.inst 232 k))) (Ex.asg (Ev.fcall G.ok (by walk_at "ev") (by walk_at "callee") (by walk_at "evl") (Fn.op (expect_ok G W (by omega) (by omega) q4))) (by walk_at "upd")) ?_
                refine Exs.cons (mu₁ := mu.set lc (.list (lvls ((k2, b) :: r')))) (ρ₁ := ρor lc (i + 1) ts (some (.str kd)) (some (.str x)) (some (.inst 232 k))) (Ex.expr (Ev.meth G.ok (by walk_at "ev") (Meth.cell S.lst F.slot_list_pop F.type_list_pop) Callee.builtin EvL.nil pp)) ?_
                refine Exs.cons (mu₁ := (memJ (mu.set lc (.list (lvls ((k2, b) :: r')))) k ts' ops').set (k2 + 2) (.list ((finM a.kd a.wd a.as t :: b.ts).reverse.map Tr.pv))) (ρ₁ := ρor lc (i + 1) ts (some (.str kd)) (some (.str x)) (some (.inst 232 k)))
                  (Ex.expr (Ev.meth G.ok (Ev.attr G.ok (ak_operands G) (Ev.topL S1 hst' (by walk_at "mem")) S1.top.d (by rfl)) (pushT_m S1) Callee.builtin (EvL.cons (Ev.fcall G.ok (by walk_at "ev") (by walk_at "callee") (by walk_at "evl") (Fn.op f0)) EvL.nil) (pushT_op S2 (by omega) _))) ?_
                exact Exs.ret (Ex.ret (by walk_at "ev"))
              · cases h
          · cases h
end
-- text P25
section
variable {c : Cx}
noncomputable def RetX (c : Cx) (F : FS) (n : Nat) (mu₀ : Mem) (v : PV) (ρ : Loc) (mu : Mem) (sts : List Stmt) : Prop := ∃ nu, Exs c F n ρ mu sts (.ret v (mu₀ ++ nu))
section
variable {F : FS} {n : Nat} {ρ ρ₁ : Loc} {mu₀ mu mu₁ : Mem} {v : PV} {pos : Pos}
theorem RetX.cons {st : Stmt} {sts : List Stmt} (h : Ex c F n ρ mu st (.next ρ₁ mu₁)) (k : RetX c F n mu₀ v ρ₁ mu₁ sts) : RetX c F n mu₀ v ρ mu (st :: sts) := by
  obtain ⟨nu, k⟩ := k; exact ⟨nu, Exs.cons h k⟩
theorem RetX.while {test : Expr} {body sts : List Stmt} {ι : Type} (ρs : ι → Loc) (mus : ι → Mem) (P : ι → Prop) (meas : ι → Nat)
    (step : ∀ i, P i → (Ts c F n (ρs i) (mus i) test false (mus i) ∧ RetX c F n mu₀ v (ρs i) (mus i) sts) ∨ (∃ j mu', meas j < meas i ∧ P j ∧ Ts c F n (ρs i) (mus i) test true mu' ∧ Exs c F n (ρs i) mu' body (.next (ρs j) (mus j)))) :
    ∀ i, P i → RetX c F n mu₀ v (ρs i) (mus i) (.While test body [] pos :: sts) := by
  intro i hp
  obtain ⟨j, hq, hx⟩ := Ex.whileE (pos := pos) (Q := fun i => RetX c F n mu₀ v (ρs i) (mus i) sts) ρs mus P meas step i hp
  exact RetX.cons hx hq
theorem RetX.mk {sts : List Stmt} (h : Exs c F n ρ mu sts (.ret v mu₁)) (hlen : mu₀.length ≤ mu₁.length) (hp : ∀ i, i < mu₀.length → mu₁[i]? = mu₀[i]?) : RetX c F n mu₀ v ρ mu sts := by
  refine ⟨mu₁.drop mu₀.length, ?_⟩
  have : mu₀ ++ mu₁.drop mu₀.length = mu₁ := by
    have e : mu₁.take mu₀.length = mu₀ := by
      apply List.ext_getElem?
      intro i
      by_cases hi : i < mu₀.length
      · rw [List.getElem?_take, if_pos hi]; exact hp i hi
      · rw [List.getElem?_eq_none (by rw [List.length_take]; omega), List.getElem?_eq_none (by omega)]
    conv => lhs; lhs; rw [← e]
    exact List.take_append_drop _ _
  rw [this]; exact h
theorem Fn.junkX {fa : Addr} {fd : FuncData} {ps rest : List PySem.Str} {gl : List (PySem.Str × Value)} {body : List Stmt} {args : List PV} (ρ : Loc) (C : c.Ok) (I : FnAt c fa fd ps rest gl body) (W : Wf mu)
    (hb : RetX c (FSof ps rest gl) n mu v ρ mu body) (hv : v.under mu.length = true := by rfl) (hl : args.length = ps.length := by rfl) (hρ : start ps rest args = ρ := by rfl) : Fn c (n + 1) (.ref fa) args mu v mu := by
  obtain ⟨nu, hb⟩ := hb; exact Fn.junk ρ C I W hb hv hl hρ
end
noncomputable def runM (P : Params) (ts : Toks) : Nat → List AL → Nat → List Nat → Option (List AL × Nat)
  | 0, _, _, _ => Option.none
  | f + 1, st, i, due =>
    if due = T "end" then some (st, i)
    else if due = T "operand" then (match operandM P ts i st with
      | some (st', i', w) => if st'.length ≤ 61 then runM P ts f st' i' (if w then T "operator" else T "operand") else Option.none
      | Option.none => Option.none)
    else (match operatorM P ts i st with
      | some (st', i', due') => if st'.length ≤ 61 then runM P ts f st' i' due' else Option.none
      | Option.none => Option.none)
noncomputable def exprM (P : Params) (ts : Toks) (f : Nat) : Option (Tr × Nat) :=
  match runM P ts f [⟨T "top", T "", [], [], []⟩] 0 (T "operand") with
  | some ([a], i) => (match joinM 0 a.ts a.ops with
    | some (t :: _, _) => some (finM a.kd a.wd a.as t, i)
    | _ => Option.none)
  | _ => Option.none
theorem operandM_at {P : Params} {ts : Toks} {i i' : Nat} {st st' : List AL} {w : Bool} (h : operandM P ts i st = some (st', i', w)) : i' ≤ i + 2 := by
  unfold operandM at h
  repeat' split at h
  all_goals first | cases h | skip
  all_goals omega
theorem operatorM_at {P : Params} {ts : Toks} {i i' : Nat} {st st' : List AL} {w : List Nat} (h : operatorM P ts i st = some (st', i', w)) : i' ≤ i + 2 := by
  unfold operatorM at h
  repeat' split at h
  all_goals first | cases h | skip
  all_goals omega
structure EI where
  mu : Mem
  st : List LV
  i : Nat
  due : List Nat
  w : Option PV
  f : Nat
  B : Nat
noncomputable abbrev ρex (lc i : Nat) (ts : Toks) (kn : List PV) (due : List Nat) (w : Option PV) : Loc := [("tokens", some (.lst (tokL ts))), ("at", some (.int i)), ("levels", some (.cell lc)), ("due", some (.str due)), ("known", some (.lst kn)), ("is_whole", w)]
theorem expression_ok (G : Pg c) {ts : Toks} {f i : Nat} {t : Tr} {mu : Mem} (W : Wf mu) (hz : ts.length < 1000) (hf : f ≤ 1000) (hx : ∀ i, (tokG ts i).2.length < 10000) (h : exprM c.w.params ts f = some (t, i)) : Fn c 6 (.ref 285) [.lst (tokL ts), .int (0 : Nat)] mu (.tup [t.pv, .int i]) mu := by
  have hu : ∀ k, (PV.tup [t.pv, .int i]).under k = true := fun k => by simp [PV.under, PV.underL, Tr.under]
  refine Fn.junkX [("tokens", some (.lst (tokL ts))), ("at", some (.int (0 : Nat))), ("levels", Option.none), ("due", Option.none), ("known", Option.none), ("is_whole", Option.none)] G.ok (at_expression G) W ?_ (hv := hu _)
  have W1 : Wf (mu ++ lvNew (T "top") (T "") mu.length) := W.app (by simp [lvNew, lvKV, memBelow, Cell.under, kvBelow, PV.under, PV.underL])
  have l1 : (mu ++ lvNew (T "top") (T "") mu.length).length = mu.length + 4 := by simp [lvNew]
  have W2 : Wf (mu ++ lvNew (T "top") (T "") mu.length ++ [.list [.inst 232 mu.length]]) := W1.snoc (by simp [Cell.under, PV.under, PV.underL, l1]; omega)
  refine RetX.cons (mu₁ := mu ++ lvNew (T "top") (T "") mu.length ++ [.list [.inst 232 mu.length]]) (ρ₁ := ρex (mu.length + 4) 0 ts ((fwords c.w.params).map PV.str) (T "operand") Option.none)
    (Ex.asgD3 (v := .cell (mu.length + 4)) (w := .str (T "operand")) (u := .lst ((fwords c.w.params).map PV.str)) (EvL.cons (mu₁ := mu ++ lvNew (T "top") (T "") mu.length ++ [.list [.inst 232 mu.length]]) (Ev.eq (Ev.lstM (EvL.cons (Ev.fcall G.ok (by walk_at "ev") (by walk_at "callee") (by walk_at "evl") (Fn.op (level_new_ok G))) EvL.nil)) (by rw [l1])) (EvL.cons (by walk_at "ev") (EvL.cons (Ev.fcall G.ok (by walk_at "ev") (by walk_at "callee") (by walk_at "evl") (Fn.op (functions_ok G W2))) EvL.nil)))
      (by walk_at "upd") (by walk_at "upd") (by walk_at "upd") (by walk_at "upd") (by walk_at "upd") (by walk_at "upd")) ?_
  have S0 : Stk mu (mu ++ lvNew (T "top") (T "") mu.length ++ [.list [.inst 232 mu.length]]) (mu.length + 4) 0 [(mu.length, ⟨T "top", T "", [], [], []⟩)] := by
    have hg : ∀ j, j < 4 → (mu ++ lvNew (T "top") (T "") mu.length ++ [.list [.inst 232 mu.length]])[mu.length + j]? = (lvNew (T "top") (T "") mu.length)[j]? := fun j hj => by
      rw [List.append_assoc, List.getElem?_append_right (Nat.le_add_right _ _), Nat.add_sub_cancel_left, List.getElem?_append_left (by simp [lvNew]; omega)]
    refine ⟨by simp, fun i hi => by rw [List.append_assoc, List.getElem?_append_left hi], W2, ?_, Nat.le_add_right _ _, fun l hl => ?_, List.pairwise_singleton _ _, fun l hl => ?_⟩
    · rw [← l1, List.getElem?_append_right (Nat.le_refl _)]; simp [lvls]
    · rw [List.mem_singleton.mp hl]
      exact ⟨⟨by simp [lvNew], hg 0 (by omega), hg 1 (by omega), hg 2 (by omega), hg 3 (by omega)⟩, Nat.le_refl _, .inr (Nat.lt_succ_self _)⟩
    · rw [List.mem_singleton.mp hl]; exact Nat.le_refl _
  unfold exprM at h
  split at h
  · rename_i a i' hr
    split at h
    · rename_i t' r q hj
      cases h
      refine RetX.while (ι := EI) (fun e => ρex (mu.length + 4) e.i ts ((fwords c.w.params).map PV.str) e.due e.w) (fun e => e.mu)
        (fun e => Stk mu e.mu (mu.length + 4) e.B e.st ∧ runM c.w.params ts e.f (e.st.map (·.2)) e.i e.due = some ([a], i) ∧ e.B + e.f ≤ 1000 ∧ e.i + 2 * e.f ≤ 2000 ∧ e.st.length ≤ 61) (fun e => e.f) ?_
        ⟨_, [(mu.length, ⟨T "top", T "", [], [], []⟩)], 0, T "operand", Option.none, f, 0⟩ ⟨S0, hr, by dsimp only; omega, by dsimp only; omega, by simp⟩
      rintro ⟨mu', st, j, due, w, f, B⟩ ⟨S, hr, hB, hj', hl⟩
      dsimp only at S hr hB hj' hl ⊢
      cases f with
      | zero => cases hr
      | succ f =>
        unfold runM at hr
        split at hr
        · rename_i q1
          left
          refine ⟨Ts.eq (by walk_at "ts") (by rw [q1]; rfl), ?_⟩
          injection hr with hr
          injection hr with h1 h2
          subst h2
          match st, h1, S, hl with
          | [(k, a')], h1, S, hl =>
            injection h1 with h1 _
            dsimp only at h1
            subst h1
            have L := S.top
            have hsz := S.size _ List.mem_cons_self
            dsimp only at hsz
            have hsz' := joinM_size hj
            rw [List.length_cons] at hsz'
            have self : memJ mu' k a'.ts a'.ops = mu' := memJ_self L.t L.o
            have f0 := finished_ok G L.len L.d L.g (by omega) (by omega) (by omega) hj (memJ_wf S.wf)
            rw [self] at f0
            refine RetX.mk (mu₁ := memJ mu' k r q) (Exs.ret (Ex.ret (Ev.tup (EvL.cons (Ev.fcall G.ok (by walk_at "ev") (by walk_at "callee") (EvL.cons (Ev.sub (by walk_at "ev") (Ev.intN (m := 0) rfl) (Op2.idxCN (v := .inst 232 k) S.lst rfl (by decide))) EvL.nil) (Fn.op f0)) (by walk_at "evl"))))) (by rw [memJ_len]; exact S.len) (fun i hi => ?_)
            have kb := (S.lev _ List.mem_cons_self).2.1
            dsimp only at kb
            rw [memJ_get (by omega) (by omega)]; exact S.pre i hi
        · rename_i q1
          right
          have t1 : ∀ {p1 p2 p3 : Pos} {k1 : Nat}, Ts c (fs_expression c) 5 (ρex (mu.length + 4) j ts ((fwords c.w.params).map PV.str) due w) mu' (.Compare (.Name "due" p1) [.NotEq] [.Constant (.str "end") k1 p2] p3) true mu' := by
            intros; exact Ts.eq (by walk_at "ts") (by rw [decide_eq_false q1]; rfl)
          split at hr
          · rename_i q2
            split at hr
            · rename_i st' i' b ho
              split at hr
              · rename_i hlen
                obtain ⟨mu2, st2, S2, hle, he, fn⟩ := take_operand_ok G S (by omega) (by omega) (by omega) (hx j) (by omega) ho
                have hat := operandM_at ho
                subst he
                rw [List.length_map] at hlen
                refine ⟨⟨mu2, st2, i', if b then T "operator" else T "operand", some (.bool b), f, B + 1⟩, mu', Nat.lt_succ_self _, ⟨S2, hr, by dsimp only; omega, by dsimp only; omega, hlen⟩, t1, ?_⟩
                refine Exs.ifN (mu₁ := mu') (mu₂ := mu2) (ρ₁ := ρex (mu.length + 4) i' ts ((fwords c.w.params).map PV.str) (if b then T "operator" else T "operand") (some (.bool b))) (Ts.eq (by walk_at "ts") (decide_eq_true q2)) ?_ Exs.nil
                refine Exs.cons (mu₁ := mu2) (ρ₁ := ρex (mu.length + 4) i' ts ((fwords c.w.params).map PV.str) due (some (.bool b))) (Ex.asgT2 (Ev.fcall G.ok (by walk_at "ev") (by walk_at "callee") (by walk_at "evl") (Fn.op fn)) (by walk_at "upd") (by walk_at "upd")) ?_
                cases b with
                | true => exact Exs.cons (Ex.asg (v := .str (T "operator")) (Ev.ifT (mu₁ := mu2) (by walk_at "ts") (by walk_at "ev")) (by walk_at "upd")) Exs.nil
                | false => exact Exs.cons (Ex.asg (v := .str (T "operand")) (Ev.ifF (mu₁ := mu2) (by walk_at "ts") (by walk_at "ev")) (by walk_at "upd")) Exs.nil
              · cases hr
            · cases hr
          · rename_i q2
            split at hr
            · rename_i st' i' due' ho
              split at hr
              · rename_i hlen
                obtain ⟨mu2, st2, S2, hle, he, fn⟩ := take_operator_ok G S (by omega) (by omega) (by omega) (by omega) ho
                have hat := operatorM_at ho
                subst he
                rw [List.length_map] at hlen
                refine ⟨⟨mu2, st2, i', due', w, f, B + 1⟩, mu', Nat.lt_succ_self _, ⟨S2, hr, by dsimp only; omega, by dsimp only; omega, hlen⟩, t1, ?_⟩
                exact Exs.ifM (mu₁ := mu') (Ts.eq (by walk_at "ts") (decide_eq_false q2)) (Exs.cons (Ex.asgT2 (Ev.fcall G.ok (by walk_at "ev") (by walk_at "callee") (by walk_at "evl") (Fn.op fn)) (by walk_at "upd") (by walk_at "upd")) Exs.nil) Exs.nil
              · cases hr
            · cases hr
    · cases h
  · cases h
end
-- text P26
section
variable {c : Cx}
noncomputable def quo (x : List Nat) : List Nat := T "\"" ++ x ++ T "\""
theorem quoted_ok (G : Pg c) {x : List Nat} {mu : Mem} (W : Wf mu) (hz : x.length < 10000) : Fn c 1 (.ref 292) [.str x] mu (.str (quo x)) mu := by
  have e1 : (T "\"").length = 1 := rfl
  exact Fn.pure [("text", some (.str x))] G.ok (at_quoted G) W (Exs.ret (Ex.ret (Ev.bin (Ev.bin (by walk_at "ev") (by walk_at "ev") (Op2.addS (by rw [sizeLine_eq]; omega))) (by walk_at "ev") (Op2.addS (by rw [sizeLine_eq, List.length_append]; omega)))))
noncomputable def decT (a : Nat) (e : Int) : List Nat := T (toString (a : Int)) ++ (if e = 0 then T "!" else T "E" ++ T (toString e))
theorem decimal_text_ok (G : Pg c) {a : Nat} {e : Int} {mu : Mem} (W : Wf mu) (ha : (a : Int).natAbs.log2 < 1920) (he : e.natAbs.log2 < 1920) (h1 : (T (toString (a : Int))).length < 10000) (h2 : (T (toString e)).length < 10000) : Fn c 1 (.ref 299) [.tup [.int a, .int e]] mu (.str (decT a e)) mu := by
  have l1 : (T "E").length = 1 := rfl
  have l2 : (T "!").length = 1 := rfl
  refine Fn.pure [("value", some (.tup [.int a, .int e])), ("coefficient", Option.none), ("exponent", Option.none)] G.ok (at_decimal_text G) W ?_
  refine Exs.cons (mu₁ := mu) (ρ₁ := [("value", some (.tup [.int a, .int e])), ("coefficient", some (.int a)), ("exponent", some (.int e))]) (Ex.asgT2 (by walk_at "ev") (by walk_at "upd") (by walk_at "upd")) ?_
  unfold decT
  by_cases q : e = 0
  · rw [if_pos q]
    exact Exs.ret (Ex.ret (Ev.bin (Ev.fcall G.ok (by walk_at "ev") (by walk_at "callee") (by walk_at "evl") (strI ha)) (Ev.ifF (mu₁ := mu) (Ts.eq (by walk_at "ts") (by rw [show decide (e = ((0 : Nat) : Int)) = true from decide_eq_true q]; rfl)) (by walk_at "ev")) (Op2.addS (by rw [sizeLine_eq]; omega))))
  · rw [if_neg q]
    exact Exs.ret (Ex.ret (Ev.bin (Ev.fcall G.ok (by walk_at "ev") (by walk_at "callee") (by walk_at "evl") (strI ha)) (Ev.ifT (mu₁ := mu) (Ts.eq (by walk_at "ts") (by rw [show decide (e = ((0 : Nat) : Int)) = false from decide_eq_false q]; rfl)) (Ev.bin (by walk_at "ev") (Ev.fcall G.ok (by walk_at "ev") (by walk_at "callee") (by walk_at "evl") (strI he)) (Op2.addS (by rw [sizeLine_eq]; omega)))) (Op2.addS (by rw [sizeLine_eq, List.length_append]; omega))))
noncomputable def leafT : Tr → List Nat
  | .tx x => quo x
  | .dec a e => decT a.toNat e
  | .whole n => T (toString (n : Int))
  | .nm x => x
  | _ => []
noncomputable def leafOk : Tr → Bool
  | .tx x => Nat.blt x.length 1000
  | .dec a e => decide (0 ≤ a) && decide (a.natAbs.log2 < 1920) && decide (e.natAbs.log2 < 1920) && Nat.blt (T (toString a)).length 1000 && Nat.blt (T (toString e)).length 1000
  | .whole n => decide ((n : Int).natAbs.log2 < 1920)
  | .nm _ => true
  | _ => false
theorem leaf_text_ok (G : Pg c) {t : Tr} {mu : Mem} (W : Wf mu) (h : leafOk t = true) : Fn c 2 (.ref 306) [t.pv] mu (.str (leafT t)) mu := by
  refine Fn.pure [("tree", some t.pv)] G.ok (at_leaf_text G) W ?_
  cases t with
  | tx x =>
    simp only [Tr.pv]
    have hz : x.length < 1000 := by simpa [leafOk] using h
    exact Exs.ifT (mu₁ := mu) (Ts.eq (by walk_at "ts") (by rfl)) (Exs.ret (Ex.ret (Ev.fcall G.ok (by walk_at "ev") (by walk_at "callee") (by walk_at "evl") (Fn.op (quoted_ok G W (by omega))))))
  | dec a e =>
    simp only [Tr.pv]
    simp only [leafOk, Bool.and_eq_true, decide_eq_true_eq] at h
    obtain ⟨⟨⟨⟨h0, h1⟩, h2⟩, h3⟩, h4⟩ := h
    have h3 := (Nat.blt_eq).mp h3
    have h4 := (Nat.blt_eq).mp h4
    obtain ⟨n, rfl⟩ := Int.eq_ofNat_of_zero_le h0
    refine Exs.ifF (mu₁ := mu) (Ts.eq (by walk_at "ts") (by rfl)) ?_
    exact Exs.ifT (mu₁ := mu) (Ts.eq (by walk_at "ts") (by rfl)) (Exs.ret (Ex.ret (Ev.fcall G.ok (by walk_at "ev") (by walk_at "callee") (by walk_at "evl") (Fn.op (decimal_text_ok G W h1 h2 (Nat.lt_trans h3 (by decide)) (Nat.lt_trans h4 (by decide)))))))
  | whole n =>
    simp only [Tr.pv]
    have hl : (n : Int).natAbs.log2 < 1920 := by simpa [leafOk] using h
    refine Exs.ifF (mu₁ := mu) (Ts.eq (by walk_at "ts") (by rfl)) ?_
    refine Exs.ifF (mu₁ := mu) (Ts.eq (by walk_at "ts") (by rfl)) ?_
    exact Exs.ret (Ex.ret (Ev.fcall G.ok (by walk_at "ev") (by walk_at "callee") (by walk_at "evl") (strI hl)))
  | nm x =>
    simp only [Tr.pv]
    refine Exs.ifF (mu₁ := mu) (Ts.eq (by walk_at "ts") (by rfl)) ?_
    refine Exs.ifF (mu₁ := mu) (Ts.eq (by walk_at "ts") (by rfl)) ?_
    exact Exs.ret (Ex.ret (Ev.fcall G.ok (by walk_at "ev") (by walk_at "callee") (by walk_at "evl") strS))
  | app k w as => cases h
  | un k t => cases h
  | two w a b => cases h
/-! parts -/
noncomputable def isApp (k : List Nat) : Bool := [T "item", T "call", T "fn"].contains k
noncomputable def partsT : Tr → List Tr
  | .app _ _ as => as
  | .two _ a b => [a, b]
  | .un _ t => [t]
  | _ => []
noncomputable def headOk : Tr → Bool
  | .app k _ _ => isApp k
  | .un k _ => !isApp k && !decide (k = T "two") && [T "neg", T "not"].contains k
  | _ => true
theorem parts_ok (G : Pg c) {t : Tr} {mu : Mem} (W : Wf mu) (h : headOk t = true) : Fn c 1 (.ref 313) [t.pv] mu (.lst ((partsT t).map Tr.pv)) mu := by
  refine Fn.pure [("tree", some t.pv)] G.ok (at_parts_of_tree G) W ?_ (hv := by rw [PV.under]; exact under_trs _ _)
  cases t with
  | app k w as =>
    simp only [Tr.pv]
    have e : (partsT (.app k w as)).map Tr.pv = Tr.pvL as := (Tr.pvL_map as).symm
    rw [e]
    exact Exs.ifT (mu₁ := mu) (Ts.eq (by walk_at "ts") h) (Exs.ret (Ex.ret (by walk_at "ev")))
  | two w a b =>
    simp only [Tr.pv]
    refine Exs.ifF (mu₁ := mu) (Ts.eq (by walk_at "ts") (by rfl)) ?_
    exact Exs.ifT (mu₁ := mu) (Ts.eq (by walk_at "ts") (by rfl)) (Exs.ret (Ex.ret (Ev.lst (by walk_at "evl"))))
  | un k t =>
    simp only [Tr.pv]
    simp only [headOk, Bool.and_eq_true, Bool.not_eq_true'] at h
    obtain ⟨⟨h1, h2⟩, h3⟩ := h
    refine Exs.ifF (mu₁ := mu) (Ts.eq (by walk_at "ts") h1) ?_
    refine Exs.ifF (mu₁ := mu) (Ts.eq (by walk_at "ts") h2) ?_
    exact Exs.ret (Ex.ret (Ev.ifT (mu₁ := mu) (Ts.eq (by walk_at "ts") h3) (Ev.lst (by walk_at "evl"))))
  | tx x =>
    simp only [Tr.pv]
    refine Exs.ifF (mu₁ := mu) (Ts.eq (by walk_at "ts") (by rfl)) ?_
    refine Exs.ifF (mu₁ := mu) (Ts.eq (by walk_at "ts") (by rfl)) ?_
    exact Exs.ret (Ex.ret (Ev.ifF (mu₁ := mu) (Ts.eq (by walk_at "ts") (by rfl)) (Ev.lst (by walk_at "evl"))))
  | nm x =>
    simp only [Tr.pv]
    refine Exs.ifF (mu₁ := mu) (Ts.eq (by walk_at "ts") (by rfl)) ?_
    refine Exs.ifF (mu₁ := mu) (Ts.eq (by walk_at "ts") (by rfl)) ?_
    exact Exs.ret (Ex.ret (Ev.ifF (mu₁ := mu) (Ts.eq (by walk_at "ts") (by rfl)) (Ev.lst (by walk_at "evl"))))
  | whole x =>
    simp only [Tr.pv]
    refine Exs.ifF (mu₁ := mu) (Ts.eq (by walk_at "ts") (by rfl)) ?_
    refine Exs.ifF (mu₁ := mu) (Ts.eq (by walk_at "ts") (by rfl)) ?_
    exact Exs.ret (Ex.ret (Ev.ifF (mu₁ := mu) (Ts.eq (by walk_at "ts") (by rfl)) (Ev.lst (by walk_at "evl"))))
  | dec a e =>
    simp only [Tr.pv]
    refine Exs.ifF (mu₁ := mu) (Ts.eq (by walk_at "ts") (by rfl)) ?_
    refine Exs.ifF (mu₁ := mu) (Ts.eq (by walk_at "ts") (by rfl)) ?_
    exact Exs.ret (Ex.ret (Ev.ifF (mu₁ := mu) (Ts.eq (by walk_at "ts") (by rfl)) (Ev.lst (by walk_at "evl"))))
end
-- text P27
section
variable {c : Cx}
noncomputable def sPart : Tr → List (List Nat) → List Nat
  | .un k _, ps => T "(" ++ (if k = T "neg" then T "-" else T "NOT ") ++ ps.getD 0 [] ++ T ")"
  | .two w _ _, ps => T "(" ++ ps.getD 0 [] ++ T " " ++ w ++ T " " ++ ps.getD 1 [] ++ T ")"
  | .app _ w _, ps => w ++ (if 0 < ps.length then T "(" ++ joinL (T ",") ps ++ T ")" else T "")
  | t, _ => leafT t
noncomputable def lenS2 (ps : List (List Nat)) : Nat := (ps.map fun p => p.length + 1).sum
noncomputable def sOk (t : Tr) (ps : List (List Nat)) : Bool := headOk t && Nat.blt (lenS2 ps) 5000 && (match t with
  | .un _ _ => decide (ps.length = 1)
  | .two w _ _ => decide (ps.length = 2) && Nat.blt w.length 1000
  | .app _ w _ => Nat.blt w.length 1000
  | t => leafOk t)
theorem joinL_len (ps : List (List Nat)) : (joinL (T ",") ps).length ≤ lenS2 ps := by
  have h1 : (T ",").length = 1 := rfl
  cases ps with
  | nil => exact Nat.zero_le _
  | cons p ps =>
    rw [joinL_cons]
    have : ∀ qs : List (List Nat), ((qs.map (T "," ++ ·)).flatten).length = lenS2 qs := by
      intro qs
      induction qs with
      | nil => rfl
      | cons q qs ih =>
        rw [List.map_cons, List.flatten_cons, List.length_append, List.length_append, ih, h1]
        unfold lenS2
        rw [List.map_cons, List.sum_cons]; omega
    rw [List.length_append, this]
    unfold lenS2
    rw [List.map_cons, List.sum_cons]; omega
theorem len_lenS2 : ∀ ps : List (List Nat), ps.length ≤ lenS2 ps
  | [] => Nat.le_refl _
  | p :: ps => by
    have := len_lenS2 ps
    unfold lenS2 at this ⊢
    rw [List.map_cons, List.sum_cons, List.length_cons]; omega
noncomputable abbrev ρsp (t : Tr) (ps : List (List Nat)) (k : Option PV) : Loc := [("tree", some t.pv), ("texts", some (.lst (ps.map PV.str))), ("kind", k)]
theorem shown_part_ok (G : Pg c) {t : Tr} {ps : List (List Nat)} {mu : Mem} (W : Wf mu) (h : sOk t ps = true) : Fn c 3 (.ref 320) [t.pv, .lst (ps.map PV.str)] mu (.str (sPart t ps)) mu := by
  have l1 : (T "(").length = 1 := rfl
  have l2 : (T ")").length = 1 := rfl
  have l3 : (T " ").length = 1 := rfl
  have l4 : (T "-").length = 1 := rfl
  have l5 : (T "NOT ").length = 4 := rfl
  have l6 : (T "").length = 0 := rfl
  have m1 : (PySem.Str.ofString "(").cps.toList.length = 1 := rfl
  have m2 : (PySem.Str.ofString ")").cps.toList.length = 1 := rfl
  have m3 : (PySem.Str.ofString " ").cps.toList.length = 1 := rfl
  have m4 : (PySem.Str.ofString "-").cps.toList.length = 1 := rfl
  have m5 : (PySem.Str.ofString "NOT ").cps.toList.length = 4 := rfl
  have m6 : (PySem.Str.ofString "").cps.toList.length = 0 := rfl
  refine Fn.pure (ρsp t ps Option.none) G.ok (at_shown_part G) W ?_
  unfold sOk at h
  rw [Bool.and_eq_true, Bool.and_eq_true] at h
  obtain ⟨⟨hh, hl⟩, hs⟩ := h
  have hl := (Nat.blt_eq).mp hl
  have leaf : ∀ k t', t.pv = .tup (.str k :: t') → sPart t ps = leafT t → leafOk t = true → (decide (k = T "neg") || decide (k = T "not")) = false → decide (k = T "two") = false → isApp k = false → Exs c (fs_shown_part c) 2 (ρsp t ps Option.none) mu (bodyAt (KK c.w.params) 320) (.ret (.str (sPart t ps)) mu) := by
    intro k t' e1 e2 e3 q1 q2 q3
    rw [e2]
    have f0 := leaf_text_ok G W e3
    unfold ρsp
    rw [e1] at f0 ⊢
    refine Exs.cons (mu₁ := mu) (ρ₁ := [("tree", some (.tup (.str k :: t'))), ("texts", some (.lst (ps.map PV.str))), ("kind", some (.str k))]) (Ex.asg (by walk_at "ev") (by walk_at "upd")) ?_
    refine Exs.ifF (mu₁ := mu) (Ts.eq (by walk_at "ts") q1) ?_
    refine Exs.ifF (mu₁ := mu) (Ts.eq (by walk_at "ts") q2) ?_
    refine Exs.ifF (mu₁ := mu) (Ts.eq (by walk_at "ts") q3) ?_
    exact Exs.ret (Ex.ret (Ev.fcall G.ok (by walk_at "ev") (by walk_at "callee") (by walk_at "evl") (Fn.op f0)))
  cases t with
  | tx x => exact leaf (T "text") [.str x] (by rw [Tr.pv]) rfl hs rfl rfl rfl
  | nm x => exact leaf (T "name") [.str x] (by rw [Tr.pv]) rfl hs rfl rfl rfl
  | whole x => exact leaf (T "whole") [.int x] (by rw [Tr.pv]) rfl hs rfl rfl rfl
  | dec a e => exact leaf (T "decimal") [.tup [.int a, .int e]] (by rw [Tr.pv]) rfl hs rfl rfl rfl
  | un k t =>
    have hn := of_decide_eq_true hs
    match ps, hn, hl with
    | [p], _, hl =>
      have hp : p.length < 5000 := by simp [lenS2] at hl; omega
      simp only [headOk, Bool.and_eq_true, Bool.not_eq_true'] at hh
      obtain ⟨⟨h1, h2⟩, h3⟩ := hh
      have hk : (decide (k = T "neg") || decide (k = T "not")) = true := by
        have : [T "neg", T "not"].contains k = (k == T "neg" || (k == T "not" || false)) := rfl
        rw [this, Bool.or_false] at h3
        simpa using h3
      unfold ρsp
      simp only [Tr.pv, List.map_cons, List.map_nil]
      refine Exs.cons (mu₁ := mu) (ρ₁ := [("tree", some (.tup [.str k, t.pv])), ("texts", some (.lst [.str p])), ("kind", some (.str k))]) (Ex.asg (by walk_at "ev") (by walk_at "upd")) ?_
      refine Exs.ifT (mu₁ := mu) (Ts.eq (by walk_at "ts") hk) ?_
      show Exs _ _ _ _ _ _ (.ret (.str (T "(" ++ (if k = T "neg" then T "-" else T "NOT ") ++ p ++ T ")")) mu)
      by_cases q : k = T "neg"
      · rw [if_pos q]
        exact Exs.ret (Ex.ret (Ev.bin (Ev.bin (Ev.bin (by walk_at "ev") (Ev.ifT (mu₁ := mu) (Ts.eq (by walk_at "ts") (decide_eq_true q)) (by walk_at "ev")) (by walk_at "op")) (by walk_at "ev") (by walk_at "op")) (by walk_at "ev") (by walk_at "op")))
      · rw [if_neg q]
        exact Exs.ret (Ex.ret (Ev.bin (Ev.bin (Ev.bin (by walk_at "ev") (Ev.ifF (mu₁ := mu) (Ts.eq (by walk_at "ts") (decide_eq_false q)) (by walk_at "ev")) (by walk_at "op")) (by walk_at "ev") (by walk_at "op")) (by walk_at "ev") (by walk_at "op")))
  | two w a b =>
    simp only [Bool.and_eq_true] at hs
    obtain ⟨hn, hw⟩ := hs
    have hw := (Nat.blt_eq).mp hw
    have hn := of_decide_eq_true hn
    match ps, hn, hl with
    | [p, q], _, hl =>
      have hp : p.length + q.length < 5000 := by simp [lenS2] at hl; omega
      unfold ρsp
      simp only [Tr.pv, List.map_cons, List.map_nil]
      refine Exs.cons (mu₁ := mu) (ρ₁ := [("tree", some (.tup [.str (T "two"), .str w, a.pv, b.pv])), ("texts", some (.lst [.str p, .str q])), ("kind", some (.str (T "two")))]) (Ex.asg (by walk_at "ev") (by walk_at "upd")) ?_
      refine Exs.ifF (mu₁ := mu) (Ts.eq (by walk_at "ts") (by rfl)) ?_
      refine Exs.ifT (mu₁ := mu) (Ts.eq (by walk_at "ts") (by rfl)) ?_
      exact Exs.ret (Ex.ret (by walk_at "ev"))
  | app k w as =>
    have hw := (Nat.blt_eq).mp hs
    have hk : isApp k = true := hh
    have hk1 : (decide (k = T "neg") || decide (k = T "not")) = false := by
      cases e1 : decide (k = T "neg") with
      | true => rw [of_decide_eq_true e1] at hk; cases hk
      | false => cases e2 : decide (k = T "not") with
        | true => rw [of_decide_eq_true e2] at hk; cases hk
        | false => rfl
    have hk2 : decide (k = T "two") = false := by
      cases e1 : decide (k = T "two") with
      | true => rw [of_decide_eq_true e1] at hk; cases hk
      | false => rfl
    have hj := joinL_len ps
    have hj2 : (joinL (PySem.Str.ofString ",").cps.toList ps).length ≤ lenS2 ps := hj
    unfold ρsp
    simp only [Tr.pv]
    refine Exs.cons (mu₁ := mu) (ρ₁ := [("tree", some (.tup [.str k, .str w, .lst (Tr.pvL as)])), ("texts", some (.lst (ps.map PV.str))), ("kind", some (.str k))]) (Ex.asg (by walk_at "ev") (by walk_at "upd")) ?_
    refine Exs.ifF (mu₁ := mu) (Ts.eq (by walk_at "ts") hk1) ?_
    refine Exs.ifF (mu₁ := mu) (Ts.eq (by walk_at "ts") hk2) ?_
    refine Exs.ifT (mu₁ := mu) (Ts.eq (by walk_at "ts") hk) ?_
    show Exs _ _ _ _ _ _ (.ret (.str (w ++ (if 0 < ps.length then T "(" ++ joinL (T ",") ps ++ T ")" else T ""))) mu)
    have hpl := len_lenS2 ps
    by_cases q : 0 < ps.length
    · rw [if_pos q]
      exact Exs.ret (Ex.ret (Ev.bin (by walk_at "ev") (Ev.ifT (mu₁ := mu) (Ts.eq (Ts.cmp (Ev.fcall G.ok (by walk_at "ev") (by walk_at "callee") (by walk_at "evl") (lenL (by rw [List.length_map]; omega))) (by walk_at "ev") (by walk_at "op")) (decide_eq_true (by rw [List.length_map]; exact q)))
        (Ev.bin (Ev.bin (by walk_at "ev") (Ev.meth G.ok (by walk_at "ev") (Meth.str F.slot_str_join F.type_str_join) Callee.builtin (by walk_at "evl") (joined (by show lenS2 ps < 1000000; omega))) (by walk_at "op")) (by walk_at "ev") (by walk_at "op"))) (by walk_at "op")))
    · rw [if_neg q]
      exact Exs.ret (Ex.ret (Ev.bin (by walk_at "ev") (Ev.ifF (mu₁ := mu) (Ts.eq (Ts.cmp (Ev.fcall G.ok (by walk_at "ev") (by walk_at "callee") (by walk_at "evl") (lenL (by rw [List.length_map]; omega))) (by walk_at "ev") (by walk_at "op")) (decide_eq_false (by rw [List.length_map]; exact q))) (by walk_at "ev")) (by walk_at "op")))
end
-- text P28
section
variable {c : Cx}
section
variable {F : FS} {n : Nat} {ρ : Loc} {mu mu₁ mu₂ : Mem} {pos : Pos} {e : Expr} {ps : List PV} {b : Nat}
theorem Ev.slL_N {ea : Expr} {sp : Pos} (hv : Ev c F n ρ mu e (.lst ps) mu₁) (ha : Ev c F n ρ mu₁ ea (.int b) mu₂) (hz : ps.length ≤ sizeLine)
    (ht : ∀ o r, letTemporaryGo e o r = pure () := by intro _ _; rfl) : Ev c F n ρ mu (.Subscript e (.Slice (some ea) Option.none Option.none sp) pos) (.lst (ps.drop b)) mu₂ := Ev.slL_ hv ha (Int.natCast_nonneg b) hz ht
theorem Ev.sl_LN {ea : Expr} {sp : Pos} (hv : Ev c F n ρ mu e (.lst ps) mu₁) (ha : Ev c F n ρ mu₁ ea (.int b) mu₂) (hz : ps.length ≤ sizeLine)
    (ht : ∀ o r, letTemporaryGo e o r = pure () := by intro _ _; rfl) : Ev c F n ρ mu (.Subscript e (.Slice Option.none (some ea) Option.none sp) pos) (.lst (ps.take b)) mu₂ := Ev.sl_L hv ha (Int.natCast_nonneg b) hz ht
end
theorem Co.rev {F' : FS} {n : Nat} {mu : Mem} {xn : PySem.Str} {elt : Expr} {ps : List PV} (f : PV → PV) (W : Wf mu) (hz : ps.length < 100000) (hu : ∀ p ∈ ps, (f p).under mu.length = true) (h : ∀ p ∈ ps, ∀ mu', Ev c F' n [(xn, some p)] mu' elt (f p) mu') :
    ∀ (j : Nat) (acc : List PV) (w : Option PV), j + acc.length ≤ ps.length → PV.underL mu.length acc = true → Co c F' n mu.length xn elt w (mu ++ [.rit ps j, .list acc]) (acc ++ ((ps.take j).reverse.map f)) mu := by
  intro j
  induction j with
  | zero =>
    intro acc w hl hua
    rw [List.take_zero, List.reverse_nil, List.map_nil, List.append_nil]
    exact Co.stop (Lst.rit (get_app0 ..)) W.ok hua
  | succ j ih =>
    intro acc w hl hua
    have hj : j < ps.length := by omega
    have hp : ps[j]? = some ps[j] := List.getElem?_eq_getElem hj
    have hm : ps[j] ∈ ps := List.getElem_mem hj
    have ih := ih (acc ++ [f ps[j]]) (some ps[j]) (by rw [List.length_append]; simp; omega) (underL_append hua (by rw [PV.underL, hu _ hm]; rfl))
    refine Co.turn (v := ps[j]) (w := f ps[j]) (acc := acc) (mu₁ := mu ++ [.rit ps j, .list acc]) (mu₂ := mu ++ [.rit ps j, .list acc]) ?_ (h _ hm _) (get_app1 ..) (by rw [sizeLine_eq]; omega) ?_
    · have := Nxt.rit (c := c) (n := n) (mu := mu ++ [.rit ps (j + 1), .list acc]) (k := mu.length) (get_app0 ..) hp
      rwa [set_app0] at this
    · rw [set_app1]
      have e : acc ++ ((ps.take (j + 1)).reverse.map f) = acc ++ [f ps[j]] ++ ((ps.take j).reverse.map f) := by
        have : (ps.take (j + 1)).reverse = ps[j] :: (ps.take j).reverse := by rw [List.take_add_one, hp]; simp
        rw [this, List.map_cons, List.append_assoc]; rfl
      rw [e]
      exact ih
noncomputable def wPV (x : Tr × Bool) : PV := .tup [x.1.pv, .bool x.2]
noncomputable def showM : Nat → List (Tr × Bool) → List (List Nat) → Option (List (List Nat))
  | 0, _, _ => Option.none
  | _ + 1, [], tx => some tx
  | f + 1, (t, r) :: w, tx =>
    if Nat.blt (w.length + (partsT t).length) 5000 && Nat.blt tx.length 5000 && headOk t then
      if r || decide ((partsT t).length = 0) then
        (if Nat.ble (partsT t).length tx.length && sOk t (tx.drop (tx.length - (partsT t).length)) then showM f w (tx.take (tx.length - (partsT t).length) ++ [sPart t (tx.drop (tx.length - (partsT t).length))]) else Option.none)
      else showM f ((partsT t).map (·, false) ++ (t, true) :: w) tx
    else Option.none
structure TI where
  w : List (Tr × Bool)
  tx : List (List Nat)
  a : Option PV
  b : Option PV
  p : Option PV
  g : Option PV
  f : Nat
noncomputable abbrev ρsh (t : Tr) (k : Nat) (tx : List (List Nat)) (a b p g : Option PV) : Loc := [("tree", some t.pv), ("waiting", some (.cell k)), ("texts", some (.lst (tx.map PV.str))), ("here", a), ("is_ready", b), ("parts", p), ("begin", g)]
theorem under_w (k : Nat) : ∀ w : List (Tr × Bool), PV.underL k (w.map wPV) = true
  | [] => rfl
  | x :: w => by rw [List.map_cons, PV.underL, under_w k w]; simp [wPV, PV.under, PV.underL, Tr.under]
theorem shown_tree_ok (G : Pg c) {t : Tr} {f : Nat} {x : List Nat} {r : List (List Nat)} {mu : Mem} (W : Wf mu) (h : showM f [(t, false)] [] = some (x :: r)) : Fn c 5 (.ref 325) [t.pv] mu (.str x) mu := by
  refine Fn.junk (nu := [.list []]) [("tree", some t.pv), ("waiting", Option.none), ("texts", Option.none), ("here", Option.none), ("is_ready", Option.none), ("parts", Option.none), ("begin", Option.none)] G.ok (at_shown_tree G) W ?_
  have wf : ∀ w : List (Tr × Bool), Wf (mu ++ [.list (w.reverse.map wPV)]) := fun w => W.snoc (under_w _ _)
  have hcell : ∀ w : List (Tr × Bool), (mu ++ [.list (w.reverse.map wPV)])[mu.length]? = some (.list (w.reverse.map wPV)) := fun w => get_app0 ..
  have hset : ∀ w w' : List (Tr × Bool), (mu ++ [Cell.list (w.reverse.map wPV)]).set mu.length (Cell.list (w'.reverse.map wPV)) = mu ++ [Cell.list (w'.reverse.map wPV)] := fun w w' => set_app0 ..
  refine Exs.cons (mu₁ := mu ++ [.list ([(t, false)].reverse.map wPV)]) (ρ₁ := [("tree", some t.pv), ("waiting", some (.cell mu.length)), ("texts", some (.lst [])), ("here", Option.none), ("is_ready", Option.none), ("parts", Option.none), ("begin", Option.none)])
    (Ex.asgD2 (v := .cell mu.length) (w := .lst []) (EvL.cons (Ev.lstM (vs := [wPV (t, false)]) (EvL.cons (Ev.tup (by walk_at "evl")) EvL.nil)) (EvL.cons (Ev.lst EvL.nil) EvL.nil)) (by walk_at "upd") (by walk_at "upd") (by walk_at "upd") (by walk_at "upd")) ?_
  refine Exs.while (ι := TI) (fun i => ρsh t mu.length i.tx i.a i.b i.p i.g) (fun i => mu ++ [.list (i.w.reverse.map wPV)]) (fun i => showM i.f i.w i.tx = some (x :: r)) (fun i => i.f) ?_ ⟨[(t, false)], [], Option.none, Option.none, Option.none, Option.none, f⟩ h
  rintro ⟨w, tx, a, b, p, g, f⟩ h
  dsimp only at h ⊢
  cases f with
  | zero => cases h
  | succ f =>
    cases w with
    | nil =>
      left
      rw [showM] at h
      cases h
      refine ⟨Ts.eq (Ts.cmp (Ev.fcall G.ok (by walk_at "ev") (by walk_at "callee") (by walk_at "evl") (lenC (hcell []) (by simp))) (by walk_at "ev") (by walk_at "op")) (by rfl), ?_⟩
      exact Exs.ret (Ex.ret (Ev.sub (by walk_at "ev") (Ev.intN (m := 0) rfl) (Op2.idxLN rfl (by decide))))
    | cons y w =>
      obtain ⟨s, rd⟩ := y
      right
      unfold showM at h
      split at h
      · rename_i hq
        rw [Bool.and_eq_true, Bool.and_eq_true] at hq
        obtain ⟨⟨hw, htx⟩, hh⟩ := hq
        have hw := (Nat.blt_eq).mp hw
        have htx := (Nat.blt_eq).mp htx
        have hp0 : ∀ w : List (Tr × Bool), Fn c 1 (.ref 313) [s.pv] (mu ++ [.list (w.reverse.map wPV)]) (.lst ((partsT s).map Tr.pv)) (mu ++ [.list (w.reverse.map wPV)]) := fun w => parts_ok G (wf w) hh
        have pp := popC (c := c) (n := 4) (mu := mu ++ [.list (((s, rd) :: w).reverse.map wPV)]) (k := mu.length) (ps := w.reverse.map wPV) (p := wPV (s, rd)) (by rw [hcell]; simp) (by simp; omega)
        rw [hset] at pp
        have hpl : ((partsT s).map Tr.pv).length = (partsT s).length := List.length_map ..
        have htl : (tx.map PV.str).length = tx.length := List.length_map ..
        split at h
        · rename_i q1
          split at h
          · rename_i q2
            rw [Bool.and_eq_true] at q2
            have q3 := Nat.le_of_ble_eq_true q2.1
            refine ⟨⟨w, tx.take (tx.length - (partsT s).length) ++ [sPart s (tx.drop (tx.length - (partsT s).length))], some s.pv, some (.bool rd), some (.lst ((partsT s).map Tr.pv)), some (.int ((tx.length - (partsT s).length : Nat))), f⟩, _, Nat.lt_succ_self _, h,
              Ts.eq (Ts.cmp (Ev.fcall G.ok (by walk_at "ev") (by walk_at "callee") (by walk_at "evl") (lenC (hcell ((s, rd) :: w)) (by simp; omega))) (by walk_at "ev") (by walk_at "op")) (by simp), ?_⟩
            dsimp only
            refine Exs.cons (mu₁ := mu ++ [.list (w.reverse.map wPV)]) (ρ₁ := ρsh t mu.length tx (some s.pv) (some (.bool rd)) p g) (Ex.asgT2 (v := s.pv) (w := .bool rd) (Ev.meth G.ok (by walk_at "ev") (Meth.cell (hcell _) F.slot_list_pop F.type_list_pop) Callee.builtin EvL.nil pp) (by walk_at "upd") (by walk_at "upd")) ?_
            refine Exs.cons (mu₁ := mu ++ [.list (w.reverse.map wPV)]) (ρ₁ := ρsh t mu.length tx (some s.pv) (some (.bool rd)) (some (.lst ((partsT s).map Tr.pv))) g) (Ex.asg (Ev.fcall G.ok (by walk_at "ev") (by walk_at "callee") (by walk_at "evl") (Fn.op (hp0 w))) (by walk_at "upd")) ?_
            refine Exs.ifN (mu₁ := mu ++ [.list (w.reverse.map wPV)]) (Ts.eq (Ts.or2 (by walk_at "ts") (fun _ => by walk_at "ts")) (by rw [hpl]; exact q1)) ?_ Exs.nil
            refine Exs.cons (mu₁ := mu ++ [.list (w.reverse.map wPV)]) (ρ₁ := ρsh t mu.length tx (some s.pv) (some (.bool rd)) (some (.lst ((partsT s).map Tr.pv))) (some (.int ((tx.length - (partsT s).length : Nat))))) (Ex.asg (v := .int ((tx.length - (partsT s).length : Nat))) (Ev.eq (by walk_at "ev") (by rw [hpl, htl]; congr 1; omega)) (by walk_at "upd")) ?_
            have sp := shown_part_ok G (wf w) q2.2
            refine Exs.cons (Ex.asg (v := .lst ((tx.take (tx.length - (partsT s).length) ++ [sPart s (tx.drop (tx.length - (partsT s).length))]).map PV.str)) (Ev.eq (Ev.bin (Ev.sl_LN (by walk_at "ev") (by walk_at "ev") (by rw [htl, sizeLine_eq]; omega)) (Ev.lst (EvL.cons (Ev.fcall G.ok (by walk_at "ev") (by walk_at "callee") (EvL.cons (by walk_at "ev") (EvL.cons (p := .lst ((tx.drop (tx.length - (partsT s).length)).map PV.str)) (Ev.eq (Ev.slL_N (by walk_at "ev") (by walk_at "ev") (by rw [htl, sizeLine_eq]; omega)) (by rw [List.map_drop])) EvL.nil)) (Fn.op sp)) EvL.nil)) (Op2.addL (by rw [List.length_take, htl]; simp; omega))) (by rw [List.map_append, List.map_take]; rfl)) (by walk_at "upd")) Exs.nil
          · cases h
        · rename_i q1
          refine ⟨⟨(partsT s).map (·, false) ++ (s, true) :: w, tx, some s.pv, some (.bool rd), some (.lst ((partsT s).map Tr.pv)), g, f⟩, _, Nat.lt_succ_self _, h,
            Ts.eq (Ts.cmp (Ev.fcall G.ok (by walk_at "ev") (by walk_at "callee") (by walk_at "evl") (lenC (hcell ((s, rd) :: w)) (by simp; omega))) (by walk_at "ev") (by walk_at "op")) (by simp), ?_⟩
          dsimp only
          refine Exs.cons (mu₁ := mu ++ [.list (w.reverse.map wPV)]) (ρ₁ := ρsh t mu.length tx (some s.pv) (some (.bool rd)) p g) (Ex.asgT2 (v := s.pv) (w := .bool rd) (Ev.meth G.ok (by walk_at "ev") (Meth.cell (hcell _) F.slot_list_pop F.type_list_pop) Callee.builtin EvL.nil pp) (by walk_at "upd") (by walk_at "upd")) ?_
          refine Exs.cons (mu₁ := mu ++ [.list (w.reverse.map wPV)]) (ρ₁ := ρsh t mu.length tx (some s.pv) (some (.bool rd)) (some (.lst ((partsT s).map Tr.pv))) g) (Ex.asg (Ev.fcall G.ok (by walk_at "ev") (by walk_at "callee") (by walk_at "evl") (Fn.op (hp0 w))) (by walk_at "upd")) ?_
          refine Exs.ifM (mu₁ := mu ++ [.list (w.reverse.map wPV)]) (Ts.eq (Ts.or2 (by walk_at "ts") (fun _ => by walk_at "ts")) (by rw [hpl]; exact (Bool.not_eq_true _).mp q1)) ?_ Exs.nil
          have ap := appendC (c := c) (n := 4) (mu := mu ++ [.list (w.reverse.map wPV)]) (k := mu.length) (p := wPV (s, true)) (hcell w) (by simp; omega)
          rw [show w.reverse.map wPV ++ [wPV (s, true)] = ((s, true) :: w).reverse.map wPV by simp, hset] at ap
          refine Exs.cons (mu₁ := mu ++ [.list (((s, true) :: w).reverse.map wPV)]) (ρ₁ := ρsh t mu.length tx (some s.pv) (some (.bool rd)) (some (.lst ((partsT s).map Tr.pv))) g) (Ex.expr (Ev.meth G.ok (by walk_at "ev") (Meth.cell (hcell _) F.slot_list_append F.type_list_append) Callee.builtin (EvL.cons (p := wPV (s, true)) (Ev.tup (by walk_at "evl")) EvL.nil) ap)) ?_
          have ex := extendC (c := c) (n := 4) (mu := mu ++ [.list (((s, true) :: w).reverse.map wPV)]) (k := mu.length) (qs := ((partsT s).map (·, false)).reverse.map wPV) (hcell ((s, true) :: w)) (by simp; omega)
          rw [show ((s, true) :: w).reverse.map wPV ++ ((partsT s).map (·, false)).reverse.map wPV = ((partsT s).map (·, false) ++ (s, true) :: w).reverse.map wPV by simp, hset] at ex
          have cru : ∀ p ∈ (partsT s).map Tr.pv, (PV.tup [p, .bool false]).under (mu ++ [Cell.list (((s, true) :: w).reverse.map wPV)]).length = true := fun p hp => by
            obtain ⟨q, _, rfl⟩ := List.mem_map.mp hp
            simp [PV.under, PV.underL, Tr.under]
          refine Exs.cons (Ex.expr (Ev.meth G.ok (by walk_at "ev") (Meth.cell (hcell _) F.slot_list_extend F.type_list_extend) Callee.builtin (EvL.cons (p := .lst (((partsT s).map (·, false)).reverse.map wPV)) (mu₁ := mu ++ [.list (((s, true) :: w).reverse.map wPV)]) (Ev.eq (Ev.comp (F' := ⟨["part"], [], []⟩) (k := (mu ++ [Cell.list (((s, true) :: w).reverse.map wPV)]).length)
            (Src.self (Ev.fcall G.ok (by walk_at "ev") (by walk_at "callee") (by walk_at "evl") revL) (Slf.rit (get_app0 ..))) (Sc.pg G (gl := fun _ => []) (fun P => by kernel_rfl) (by kernel_rfl))
            (by rw [List.append_assoc]; exact Co.rev (ps := (partsT s).map Tr.pv) (fun p => .tup [p, .bool false]) (wf _) (by rw [hpl]; omega) cru (fun p _ mu' => by walk_at "ev") ((partsT s).map Tr.pv).length [] Option.none (by simp) rfl) (Slf.rit (by rw [List.append_assoc]; exact get_app0 ..)) (by simp)) (by simp only [List.nil_append, List.take_length, List.map_reverse, List.map_map]; rfl)) EvL.nil) ex)) Exs.nil
      · cases h
end
-- text P29
section
variable {c : Cx}
theorem tr_tup (t : Tr) : ∃ xs, t.pv = .tup xs := by cases t <;> exact ⟨_, by rw [Tr.pv]⟩
theorem is_back_ok (G : Pg c) {t : Tr} {x : List Nat} {r : List (List Nat)} {ts : Toks} {f f' : Nat} {mu : Mem} (W : Wf mu) (h1 : showM f [(t, false)] [] = some (x :: r)) (h2 : Lx c x (x.drop (nblank x)) (tokL ts)) (h3 : exprM c.w.params ts f' = some (t, ts.length))
    (hz : x.length ≤ 255) (hl : ts.length < 1000) (hf : f' ≤ 1000) (hx : ∀ i, (tokG ts i).2.length < 10000) (hp : PV.plain 301 t.pv = true) : Fn c 9 (.ref 351) [t.pv] mu (.bool true) mu := by
  have a1 := shown_tree_ok G W h1
  have a2 := tokens_of_ok G W hz h2
  have a3 := expression_ok G W hl hf hx h3
  have hlen : (tokL ts).length = ts.length := by unfold tokL; rw [List.length_map]
  obtain ⟨xs, hxs⟩ := tr_tup t
  rw [hxs] at a1 a3 hp ⊢
  rw [PV.plain] at hp
  refine Fn.pure [("tree", some (.tup xs)), ("text", Option.none), ("tokens", Option.none), ("found", Option.none), ("end", Option.none)] G.ok (at__law_is_back G) W ?_
  refine Exs.cons (mu₁ := mu) (ρ₁ := [("tree", some (.tup xs)), ("text", some (.str x)), ("tokens", Option.none), ("found", Option.none), ("end", Option.none)]) (Ex.asg (Ev.fcall G.ok (by walk_at "ev") (by walk_at "callee") (by walk_at "evl") (Fn.op a1)) (by walk_at "upd")) ?_
  refine Exs.cons (mu₁ := mu) (ρ₁ := [("tree", some (.tup xs)), ("text", some (.str x)), ("tokens", some (.lst (tokL ts))), ("found", Option.none), ("end", Option.none)]) (Ex.asg (Ev.fcall G.ok (by walk_at "ev") (by walk_at "callee") (by walk_at "evl") (Fn.op a2)) (by walk_at "upd")) ?_
  refine Exs.cons (mu₁ := mu) (ρ₁ := [("tree", some (.tup xs)), ("text", some (.str x)), ("tokens", some (.lst (tokL ts))), ("found", some (.tup xs)), ("end", some (.int ts.length))]) (Ex.asgT2 (Ev.fcall G.ok (by walk_at "ev") (by walk_at "callee") (by walk_at "evl") (Fn.op a3)) (by walk_at "upd") (by walk_at "upd")) ?_
  refine Exs.ret (Ex.ret (Ev.boolop (EvB.andT (Ev.cmp (by walk_at "ev") (by walk_at "ev") (Op2.eqT hp)) (EvB.andT (Ev.eq (Ev.cmp (by walk_at "ev") (Ev.fcall G.ok (by walk_at "ev") (by walk_at "callee") (by walk_at "evl") (lenL (by omega))) (by walk_at "op")) (by rw [hlen]; simp)) (EvB.one (Ev.eq (Ev.cmp (Ev.fcall G.ok (by walk_at "ev") (by walk_at "callee") (by walk_at "evl") (Fn.op a1)) (by walk_at "ev") (by walk_at "op")) (by simp)))))))
/-! the hand -/
noncomputable def natPV (n : Nat) : PV := .int (n : Int)
noncomputable def cardsPV (cs : List Nat) : PV := .lst (cs.map natPV)
noncomputable abbrev handKV (cs : List Nat) (d : Nat) : List (PySem.Str × PV) := [("cards", cardsPV cs), ("dealt", .int (d : Int))]
noncomputable abbrev handC (c : Cx) (cs : List Nat) (d : Nat) : Cell := dmap c (handKV cs d)
noncomputable def deal (cs : List Nat) (d m : Nat) : Nat := if d + 1 ≤ cs.length then cs.getD d 0 % m else (3 * (d + 1) + (d + 1) / 5) % m
theorem deal_lt {cs : List Nat} {d m : Nat} (h : 0 < m) : deal cs d m < m := by unfold deal; split <;> exact Nat.mod_lt _ h
section
variable {n : Nat} {mu : Mem} {a b : Nat}
theorem Op2.modG (h : 0 < b) : Op2 c n mu (binaryOp .Mod) (.int a) (.int b) (.int ((a % b : Nat))) mu := by
  have := Op2.modI (c := c) (n := n) (mu := mu) (a := (a : Int)) (b := (b : Int)) (by omega)
  rwa [show Int.fmod (a : Int) (b : Int) = ((a % b : Nat) : Int) by rw [Int.fmod_eq_emod_of_nonneg _ (by omega)]; exact (Int.natCast_emod a b).symm] at this
theorem Op2.divF : Op2 c n mu (binaryOp .FloorDiv) (.int a) (.int (5 : Nat)) (.int ((a / 5 : Nat))) mu := by
  have := Op2.divI (c := c) (n := n) (mu := mu) (a := (a : Int)) (b := ((5 : Nat) : Int)) (by decide) (PyProof.noPylong_small (by decide))
  rwa [show Int.fdiv (a : Int) ((5 : Nat) : Int) = ((a / 5 : Nat) : Int) by rw [Int.fdiv_eq_ediv_of_nonneg _ (by decide)]; exact (Int.natCast_ediv a 5).symm] at this
end
theorem cards_under (k : Nat) (cs : List Nat) : (cardsPV cs).under k = true := by
  unfold cardsPV
  rw [PV.under]
  induction cs with
  | nil => rfl
  | cons a l ih => exact ih
theorem handC_under {k : Nat} {cs : List Nat} {d : Nat} : (handC c cs d).under k = true := by
  show (PV.under k (cardsPV cs) && (PV.under k (.int d) && true)) = true
  rw [cards_under]; rfl
theorem dealt_ok (G : Pg c) {cs : List Nat} {d m k : Nat} {mu : Mem} (W : Wf mu) (hk : mu[k]? = some (handC c cs d)) (hm : 0 < m) (hcs : cs.length < 1000) : Fn c 1 (.ref 332) [.cell k, .int m] mu (.int (deal cs d m)) (mu.set k (handC c cs (d + 1))) := by
  have hlt : k < mu.length := by
    by_cases q : k < mu.length
    · exact q
    · rw [List.getElem?_eq_none (by omega)] at hk; cases hk
  have hk' : (mu.set k (handC c cs (d + 1)))[k]? = some (handC c cs (d + 1)) := List.getElem?_set_self hlt
  refine Fn.made [("hand", some (.cell k)), ("many", some (.int m))] G.ok (at__law_dealt G) ?_ (by rw [List.length_set]; exact Nat.le_refl _) (W.set handC_under) (by rfl)
  refine Exs.cons (mu₁ := mu.set k (handC c cs (d + 1))) (ρ₁ := [("hand", some (.cell k)), ("many", some (.int m))]) (Ex.to (Ex.setitem (v := .int ((d + 1 : Nat))) (Ev.bin (Ev.sub (by walk_at "ev") (by walk_at "ev") (Op2.idxM hk (v := .int (d : Int)) (by rfl))) (by walk_at "ev") (by walk_at "op")) (by walk_at "ev") (by walk_at "ev") hk (Nat.le_of_ble_eq_true rfl)) (by rfl)) ?_
  have hd : ∀ {p1 p2 p3 : Pos} {k1 : Nat}, Ev c (fs__law_dealt c) 0 [("hand", some (.cell k)), ("many", some (.int m))] (mu.set k (handC c cs (d + 1))) (.Subscript (.Name "hand" p1) (.Constant (.str "dealt") k1 p2) p3) (.int ((d + 1 : Nat))) (mu.set k (handC c cs (d + 1))) := fun {p1 p2 p3 k1} =>
    Ev.sub (by walk_at "ev") (by walk_at "ev") (Op2.idxM hk' (by rfl))
  have hc : ∀ {p1 p2 p3 : Pos} {k1 : Nat}, Ev c (fs__law_dealt c) 0 [("hand", some (.cell k)), ("many", some (.int m))] (mu.set k (handC c cs (d + 1))) (.Subscript (.Name "hand" p1) (.Constant (.str "cards") k1 p2) p3) (.lst (cs.map natPV)) (mu.set k (handC c cs (d + 1))) := fun {p1 p2 p3 k1} =>
    Ev.sub (by walk_at "ev") (by walk_at "ev") (Op2.idxM hk' (by rfl))
  have hl : (cs.map natPV).length = cs.length := List.length_map ..
  unfold deal
  split
  · rename_i q
    refine Exs.ifT (mu₁ := mu.set k (handC c cs (d + 1))) (Ts.eq (Ts.cmp hd (Ev.fcall G.ok (by walk_at "ev") (by walk_at "callee") (EvL.cons hc EvL.nil) (lenL (by omega))) (by walk_at "op")) (decide_eq_true (by rw [hl]; exact q))) ?_
    have hg : (cs.map natPV)[d]? = some (.int ((cs.getD d 0 : Nat))) := by
      rw [List.getElem?_map, List.getD_eq_getElem?_getD, List.getElem?_eq_getElem (by omega)]; rfl
    exact Exs.ret (Ex.ret (Ev.bin (Ev.sub hc (Ev.eq (v := .int (((d + 1 : Nat) : Int) - ((1 : Nat) : Int))) (w := .int (d : Int)) (Ev.bin hd (by walk_at "ev") (by walk_at "op")) (by congr 1; omega)) (Op2.idxLN hg (by omega))) (by walk_at "ev") (Op2.modG hm)))
  · rename_i q
    refine Exs.ifF (mu₁ := mu.set k (handC c cs (d + 1))) (Ts.eq (Ts.cmp hd (Ev.fcall G.ok (by walk_at "ev") (by walk_at "callee") (EvL.cons hc EvL.nil) (lenL (by omega))) (by walk_at "op")) (decide_eq_false (by rw [hl]; exact q))) ?_
    exact Exs.ret (Ex.ret (Ev.bin (Ev.bin (Ev.bin (by walk_at "ev") hd (Op2.mulN (IntMulOk.of_left (by decide)))) (Ev.bin hd (by walk_at "ev") Op2.divF) (by walk_at "op")) (by walk_at "ev") (Op2.modG hm)))
end
-- text P30
section
variable {c : Cx}
noncomputable def leaves0 : List Tr := [.whole 0, .whole 32767, .whole 40000, .dec 3 0, .dec 25 (0 - 1)]
noncomputable def leaves1 : List Tr := [.dec 7 12, .dec 0 0, .dec 999 (0 - 30)]
noncomputable def names2 : List (List Nat) := [T "A", T "B%", T "C$", T "D.1!"]
noncomputable def texts3 : List (List Nat) := [T "", T "a 'b", T "(1+2)"]
noncomputable def leaves4 : List Tr := [.app (T "call") (T "PI") [], .app (T "fn") (T "FNX$") []]
noncomputable def leafAll : List Tr := leaves0 ++ leaves1 ++ names2.map Tr.nm ++ texts3.map Tr.tx ++ leaves4
theorem hand_lt {cs : List Nat} {d k : Nat} {mu : Mem} (hk : mu[k]? = some (handC c cs d)) : k < mu.length := by
  by_cases q : k < mu.length
  · exact q
  · rw [List.getElem?_eq_none (by omega)] at hk; cases hk
theorem hand_get {cs : List Nat} {d d' k : Nat} {mu : Mem} (hk : mu[k]? = some (handC c cs d)) : (mu.set k (handC c cs d'))[k]? = some (handC c cs d') := List.getElem?_set_self (hand_lt hk)
theorem leaf_ok (G : Pg c) {cs : List Nat} {d k : Nat} {mu : Mem} (W : Wf mu) (hk : mu[k]? = some (handC c cs d)) (hcs : cs.length < 1000) : ∃ t d', t ∈ leafAll ∧ Fn c 2 (.ref 339) [.cell k] mu t.pv (mu.set k (handC c cs d')) := by
  have D1 := dealt_ok G (m := 5) W hk (by decide) hcs
  have hk1 := hand_get (d' := d + 1) hk
  have W1 : Wf (mu.set k (handC c cs (d + 1))) := W.set handC_under
  have D2 : ∀ m : Nat, 0 < m → Fn c 1 (.ref 332) [.cell k, .int m] (mu.set k (handC c cs (d + 1))) (.int (deal cs (d + 1) m)) (mu.set k (handC c cs (d + 1 + 1))) := fun m hm => by
    have := dealt_ok G (m := m) W1 hk1 hm hcs
    rwa [List.set_set] at this
  have hlt := deal_lt (cs := cs) (d := d) (m := 5) (by decide)
  have W2 : Wf (mu.set k (handC c cs (d + 1 + 1))) := W.set handC_under
  generalize hf : deal cs d 5 = f at D1 hlt
  have fin : ∀ (t : Tr), t ∈ leafAll → Exs c (fs__law_leaf c) 1 [("hand", some (.cell k)), ("form", some (.int f))] (mu.set k (handC c cs (d + 1))) ((bodyAt (KK c.w.params) 339).drop 1) (.ret t.pv (mu.set k (handC c cs (d + 1 + 1)))) → ∃ t d', t ∈ leafAll ∧ Fn c 2 (.ref 339) [.cell k] mu t.pv (mu.set k (handC c cs d')) := by
    intro t ht h
    refine ⟨t, d + 1 + 1, ht, Fn.made [("hand", some (.cell k)), ("form", Option.none)] G.ok (at__law_leaf G) ?_ (by rw [List.length_set]; exact Nat.le_refl _) W2 (Tr.under _ _)⟩
    exact Exs.cons (mu₁ := mu.set k (handC c cs (d + 1))) (ρ₁ := [("hand", some (.cell k)), ("form", some (.int f))]) (Ex.asg (Ev.fcall G.ok (by walk_at "ev") (by walk_at "callee") (by walk_at "evl") (Fn.op D1)) (by walk_at "upd")) h
  by_cases q0 : f = 0
  · have hj := deal_lt (cs := cs) (d := d + 1) (m := 5) (by decide)
    have hm : leaves0[deal cs (d + 1) 5] ∈ leaves0 := List.getElem_mem hj
    refine fin leaves0[deal cs (d + 1) 5] (by unfold leafAll; simp [hm]) ?_
    exact Exs.ifT (mu₁ := mu.set k (handC c cs (d + 1))) (Ts.eq (by walk_at "ts") (decide_eq_true q0)) (Exs.ret (Ex.ret (Ev.sub (Ev.eq (w := .lst (leaves0.map Tr.pv)) (Ev.lst (by walk_at "evl")) (by rfl)) (Ev.fcall G.ok (by walk_at "ev") (by walk_at "callee") (by walk_at "evl") (Fn.op (D2 5 (by decide)))) (Op2.idxLN (by rw [List.getElem?_map, List.getElem?_eq_getElem hj]; rfl) (by omega)))))
  by_cases q1 : f = 1
  · have hj := deal_lt (cs := cs) (d := d + 1) (m := 3) (by decide)
    have hm : leaves1[deal cs (d + 1) 3] ∈ leaves1 := List.getElem_mem hj
    refine fin leaves1[deal cs (d + 1) 3] (by unfold leafAll; simp [hm]) ?_
    refine Exs.ifF (mu₁ := mu.set k (handC c cs (d + 1))) (Ts.eq (by walk_at "ts") (decide_eq_false q0)) ?_
    exact Exs.ifT (mu₁ := mu.set k (handC c cs (d + 1))) (Ts.eq (by walk_at "ts") (decide_eq_true q1)) (Exs.ret (Ex.ret (Ev.sub (Ev.eq (w := .lst (leaves1.map Tr.pv)) (Ev.lst (by walk_at "evl")) (by rfl)) (Ev.fcall G.ok (by walk_at "ev") (by walk_at "callee") (by walk_at "evl") (Fn.op (D2 3 (by decide)))) (Op2.idxLN (by rw [List.getElem?_map, List.getElem?_eq_getElem hj]; rfl) (by omega)))))
  by_cases q2 : f = 2
  · have hj := deal_lt (cs := cs) (d := d + 1) (m := 4) (by decide)
    have hm : names2[deal cs (d + 1) 4] ∈ names2 := List.getElem_mem hj
    refine fin (.nm names2[deal cs (d + 1) 4]) (by unfold leafAll; simp [hm]) ?_
    refine Exs.ifF (mu₁ := mu.set k (handC c cs (d + 1))) (Ts.eq (by walk_at "ts") (decide_eq_false q0)) ?_
    refine Exs.ifF (mu₁ := mu.set k (handC c cs (d + 1))) (Ts.eq (by walk_at "ts") (decide_eq_false q1)) ?_
    rw [Tr.pv]
    exact Exs.ifT (mu₁ := mu.set k (handC c cs (d + 1))) (Ts.eq (by walk_at "ts") (decide_eq_true q2)) (Exs.ret (Ex.ret (Ev.tup (EvL.cons (by walk_at "ev") (EvL.cons (Ev.sub (Ev.eq (w := .lst (names2.map PV.str)) (Ev.lst (by walk_at "evl")) (by rfl)) (Ev.fcall G.ok (by walk_at "ev") (by walk_at "callee") (by walk_at "evl") (Fn.op (D2 4 (by decide)))) (Op2.idxLN (by rw [List.getElem?_map, List.getElem?_eq_getElem hj]; rfl) (by omega))) EvL.nil)))))
  by_cases q3 : f = 3
  · have hj := deal_lt (cs := cs) (d := d + 1) (m := 3) (by decide)
    have hm : texts3[deal cs (d + 1) 3] ∈ texts3 := List.getElem_mem hj
    refine fin (.tx texts3[deal cs (d + 1) 3]) (by unfold leafAll; simp [hm]) ?_
    refine Exs.ifF (mu₁ := mu.set k (handC c cs (d + 1))) (Ts.eq (by walk_at "ts") (decide_eq_false q0)) ?_
    refine Exs.ifF (mu₁ := mu.set k (handC c cs (d + 1))) (Ts.eq (by walk_at "ts") (decide_eq_false q1)) ?_
    refine Exs.ifF (mu₁ := mu.set k (handC c cs (d + 1))) (Ts.eq (by walk_at "ts") (decide_eq_false q2)) ?_
    rw [Tr.pv]
    exact Exs.ifT (mu₁ := mu.set k (handC c cs (d + 1))) (Ts.eq (by walk_at "ts") (decide_eq_true q3)) (Exs.ret (Ex.ret (Ev.tup (EvL.cons (by walk_at "ev") (EvL.cons (Ev.sub (Ev.eq (w := .lst (texts3.map PV.str)) (Ev.lst (by walk_at "evl")) (by rfl)) (Ev.fcall G.ok (by walk_at "ev") (by walk_at "callee") (by walk_at "evl") (Fn.op (D2 3 (by decide)))) (Op2.idxLN (by rw [List.getElem?_map, List.getElem?_eq_getElem hj]; rfl) (by omega))) EvL.nil)))))
  · have hj := deal_lt (cs := cs) (d := d + 1) (m := 2) (by decide)
    have hm : leaves4[deal cs (d + 1) 2] ∈ leaves4 := List.getElem_mem hj
    refine fin leaves4[deal cs (d + 1) 2] (by unfold leafAll; simp [hm]) ?_
    refine Exs.ifF (mu₁ := mu.set k (handC c cs (d + 1))) (Ts.eq (by walk_at "ts") (decide_eq_false q0)) ?_
    refine Exs.ifF (mu₁ := mu.set k (handC c cs (d + 1))) (Ts.eq (by walk_at "ts") (decide_eq_false q1)) ?_
    refine Exs.ifF (mu₁ := mu.set k (handC c cs (d + 1))) (Ts.eq (by walk_at "ts") (decide_eq_false q2)) ?_
    refine Exs.ifF (mu₁ := mu.set k (handC c cs (d + 1))) (Ts.eq (by walk_at "ts") (decide_eq_false q3)) ?_
    exact Exs.ret (Ex.ret (Ev.sub (Ev.eq (w := .lst (leaves4.map Tr.pv)) (Ev.lst (EvL.cons (Ev.tup (EvL.cons (by walk_at "ev") (EvL.cons (by walk_at "ev") (EvL.cons (Ev.lst EvL.nil) EvL.nil)))) (EvL.cons (Ev.tup (EvL.cons (by walk_at "ev") (EvL.cons (by walk_at "ev") (EvL.cons (Ev.lst EvL.nil) EvL.nil)))) EvL.nil))) (by rfl)) (Ev.fcall G.ok (by walk_at "ev") (by walk_at "callee") (by walk_at "evl") (Fn.op (D2 2 (by decide)))) (Op2.idxLN (by rw [List.getElem?_map, List.getElem?_eq_getElem hj]; rfl) (by omega))))
end
-- text P31
section
variable {c : Cx}
end
local macro_rules | `(tactic| walk_at "name") => `(tactic| exact Ev.clo (by walk_at "mem"))
section
variable {c : Cx}
noncomputable def grownB (K : Frag) (a : Addr) (x1 x2 : PySem.Str) (rest : List PySem.Str) (gl : List (PySem.Str × Value)) : Bool :=
  isFnB K a && isStmts (fdAt K a).body && codeIn K (fdAt K a).code (fdAt K a).qualname && ((fdAt K a).scope.names.lookup x1 == some .cell) && ((fdAt K a).scope.names.lookup x2 == some .cell) && ((fdAt K a).scope.kind == .function) && !(fdAt K a).scope.isCoroutine && !(fdAt K a).scope.isGenerator &&
  Nat.beq (fdAt K a).globals mainGlobals && Nat.beq (fdAt K a).builtins builtinsNs && (rest.all fun x => (fdAt K a).scope.names.lookup x == some .local && !(x == ("__debug__" : Str))) && nodupB rest && gl.all (glbB K (fdAt K a).scope.names)
theorem FnAtC.of {c : Cx} {fa : Addr} {x1 x2 : PySem.Str} {rest : List PySem.Str} {gl : List (PySem.Str × Value)} (h : grownB c.K fa x1 x2 rest gl = true) (bind : ∀ v1 v2 : Value, bindArgs (fdAt c.K fa) ⟨[v1, v2], []⟩ = pure [(x1, v1), (x2, v2)])
    (cells : ∀ n, cellsFrom n (fdAt c.K fa).scope.names [] = [(x2, n + 1), (x1, n)]) (clo : (fdAt c.K fa).closure = []) (d1 : (x1 == ("__debug__" : Str)) = false ∧ (x1 == ("__classdict__" : Str)) = false) (d2 : (x2 == ("__debug__" : Str)) = false ∧ (x2 == ("__classdict__" : Str)) = false) (ne : (x1 == x2) = false) :
    FnAtC c fa (fdAt c.K fa) x1 x2 rest gl (bodyAt c.K fa) := by
  unfold grownB at h
  simp only [Bool.and_eq_true] at h
  obtain ⟨⟨⟨⟨⟨⟨⟨⟨⟨⟨⟨⟨h1, h2⟩, h3⟩, h4⟩, h5⟩, h6⟩, h7⟩, h8⟩, h9⟩, h10⟩, h11⟩, h12⟩, h13⟩ := h
  refine ⟨?_, h3, ?_, bind, cells, clo, by simpa using h4, by simpa using h5, d1, d2, ne, by simpa using h6, by simpa using h7, by simpa using h8, Nat.eq_of_beq_eq_true h9, Nat.eq_of_beq_eq_true h10, fun x hx => ?_, nodupB_ok h12, fun x v m => ?_⟩
  · unfold isFnB at h1
    unfold fdAt
    split at h1
    · rename_i q; rw [q]; exact ⟨_, _, _, rfl⟩
    · cases h1
  · unfold bodyAt
    revert h2
    cases (fdAt c.K fa).body with
    | stmts b => intro _; rfl
    | expr e => intro h; cases h
  · have := List.all_eq_true.mp h11 x hx
    simpa using this
  · have := List.all_eq_true.mp h13 (x, v) m
    unfold glbB at this
    simp only [Bool.and_eq_true, Bool.or_eq_true] at this
    obtain ⟨⟨a1, a2⟩, a3⟩ := this
    refine ⟨by simpa using a1, by simpa using a2, ?_⟩
    rcases a3 with a3 | ⟨⟨b1, b2⟩, b3⟩
    · exact .inl (by simpa using a3)
    · exact .inr ⟨by simpa using b1, by simpa using b2, by simpa using b3⟩
noncomputable abbrev grownRest : List PySem.Str := ["form", "kind", "word", "words", "one_side"]
theorem at_grown (G : Pg c) : FnAtC c 344 (fdAt (KK c.w.params) 344) "hand" "deep" grownRest (gl__law_grown c.w.params) (bodyAt (KK c.w.params) 344) := by
  have := FnAtC.of (c := c) (fa := 344) (x1 := "hand") (x2 := "deep") (rest := grownRest) (gl := gl__law_grown c.w.params)
    (by rw [G.K]; exact (fun P => by kernel_rfl : ∀ P, grownB (KK P) 344 "hand" "deep" grownRest (gl__law_grown P) = true) _)
    (by rw [G.K]; exact (fun P v1 v2 => by kernel_rfl : ∀ P, ∀ v1 v2 : Value, bindArgs (fdAt (KK P) 344) ⟨[v1, v2], []⟩ = pure [(("hand" : PySem.Str), v1), (("deep" : PySem.Str), v2)]) _)
    (by rw [G.K]; exact (fun P n => by kernel_rfl : ∀ P, ∀ n : Nat, cellsFrom n (fdAt (KK P) 344).scope.names [] = [(("deep" : PySem.Str), (n + 1 : Nat)), (("hand" : PySem.Str), n)]) _)
    (by rw [G.K]; exact (fun P => by kernel_rfl : ∀ P, (fdAt (KK P) 344).closure = []) _) (by decide) (by decide) (by decide)
  rw [G.K] at this
  exact this
noncomputable def heads4 : List (List Nat × List Nat) := [(T "item", T "A"), (T "call", T "MID$"), (T "fn", T "FNB"), (T "item", T "C$")]
noncomputable def words18 : List (List Nat) := [T "+", T "-", T "*", T "/", T "\\", T "^", T "MOD", T "=", T "<>", T "<", T ">", T "<=", T ">=", T "AND", T "OR", T "XOR", T "EQV", T "IMP"]
inductive Gd : Nat → Tr → Prop
  | leaf {n : Nat} {t : Tr} : t ∈ leafAll → Gd n t
  | un {n : Nat} {k : List Nat} {t : Tr} : k ∈ [T "neg", T "not"] → Gd n t → Gd (n + 1) (.un k t)
  | app1 {n : Nat} {h : List Nat × List Nat} {a : Tr} : h ∈ heads4 → Gd n a → Gd (n + 1) (.app h.1 h.2 [a])
  | app2 {n : Nat} {h : List Nat × List Nat} {a b : Tr} : h ∈ heads4 → Gd n a → Gd n b → Gd (n + 1) (.app h.1 h.2 [a, b])
  | two {n : Nat} {w : List Nat} {a b : Tr} : w ∈ words18 → Gd n a → Gd n b → Gd (n + 1) (.two w a b)
theorem set_left {mu nu : Mem} {k : Nat} {x : Cell} (h : k < mu.length) : (mu ++ nu).set k x = mu.set k x ++ nu := List.set_append_left _ _ h
theorem Co.grown {F' : FS} {N n m k : Nat} {cs : List Nat} {xn : PySem.Str} {args : List PV} (hG : ∀ (mu : Mem) (d : Nat), Wf mu → mu[k]? = some (handC c cs d) → ∃ t d', Gd n t ∧ Fn c m (.ref 344) args mu t.pv (mu.set k (handC c cs d'))) :
    ∀ (j : Nat) (i : Int) (acc : List Tr) (d : Nat) (mu : Mem), Wf mu → mu[k]? = some (handC c cs d) → acc.length + j ≤ 10 → ∃ as d', as.length = j ∧ (∀ a ∈ as, Gd n a) ∧ ∀ (elt : Expr) (w : Option PV),
      (∀ (i : Int) (mu : Mem) (t : Tr) (d' : Nat), Fn c m (.ref 344) args mu t.pv (mu.set k (handC c cs d')) → Ev c F' N [(xn, some (.int i))] mu elt t.pv (mu.set k (handC c cs d'))) →
      Co c F' N mu.length xn elt w (mu ++ [.git i j, .list (acc.map Tr.pv)]) ((acc ++ as).map Tr.pv) (mu.set k (handC c cs d')) := by
  intro j
  induction j with
  | zero =>
    intro i acc d mu W hk _
    refine ⟨[], d, rfl, fun a h => (nomatch h), fun elt w _ => ?_⟩
    have e : mu.set k (handC c cs d) = mu := by
      apply List.ext_getElem?
      intro i
      by_cases q : i = k
      · subst q; rw [List.getElem?_set_self (hand_lt hk), hk]
      · rw [List.getElem?_set_ne (Ne.symm q)]
    rw [e, List.append_nil]
    exact Co.stop (Lst.git (get_app0 ..)) W.ok (under_trs _ _)
  | succ j ih =>
    intro i acc d mu W hk hl
    have hkl := hand_lt hk
    have Wc : Wf (mu ++ [.git (i + 1) ((j : Int)), .list (acc.map Tr.pv)]) := W.app (by simp [memBelow, Cell.under, under_trs])
    obtain ⟨t, d1, gt, fn⟩ := hG (mu ++ [.git (i + 1) ((j : Int)), .list (acc.map Tr.pv)]) d Wc (by rw [List.getElem?_append_left hkl]; exact hk)
    obtain ⟨as, d2, ha, hg, co⟩ := ih (i + 1) (acc ++ [t]) d1 (mu.set k (handC c cs d1)) (W.set handC_under) (hand_get hk) (by rw [List.length_append]; simp; omega)
    refine ⟨t :: as, d2, by rw [List.length_cons, ha], fun a h => ?_, fun elt w hE => ?_⟩
    · rcases List.mem_cons.mp h with rfl | h
      · exact gt
      · exact hg a h
    · have ev := hE i _ t d1 fn
      rw [set_left hkl] at ev
      have co := co elt (some (.int i)) hE
      rw [List.length_set, List.set_set, List.append_assoc, List.singleton_append] at co
      refine Co.turn (v := .int i) (w := t.pv) (acc := acc.map Tr.pv) (mu₁ := mu ++ [.git (i + 1) ((j : Int)), .list (acc.map Tr.pv)]) (mu₂ := mu.set k (handC c cs d1) ++ [.git (i + 1) ((j : Int)), .list (acc.map Tr.pv)]) ?_ ev ?_ ?_ ?_
      · have := Nxt.git (c := c) (n := N) (mu := mu ++ [.git i ((j + 1 : Nat) : Int), .list (acc.map Tr.pv)]) (k := mu.length) (get_app0 ..) (by omega)
        rw [set_app0, show (((j + 1 : Nat) : Int) - 1) = (j : Int) by omega] at this
        exact this
      · have := get_app1 (mu.set k (handC c cs d1)) (.git (i + 1) ((j : Int))) (.list (acc.map Tr.pv)) []
        rwa [List.length_set] at this
      · rw [List.length_map, sizeLine_eq]; omega
      · have := set_app1 (mu.set k (handC c cs d1)) (.git (i + 1) ((j : Int))) (.list (acc.map Tr.pv)) (.list (acc.map Tr.pv ++ [t.pv])) []
        rw [List.length_set] at this
        rw [this]
        rw [List.map_append] at co
        exact co
end
-- text P32
section
variable {c : Cx}
theorem clo2 {env : Env} {sc : Scope} (h : sc.names = [((".0" : PySem.Str), NameKind.local), (("turn" : PySem.Str), NameKind.local), (("_law_grown" : PySem.Str), NameKind.globalImplicit), (("deep" : PySem.Str), NameKind.free), (("hand" : PySem.Str), NameKind.free)]) :
    closureFor sc env = (do let a ← cellOf env "deep"; let b ← cellOf env "hand"; pure [("hand", b), ("deep", a)]) := by
  unfold closureFor
  rw [h]
  have e : ∀ x : PySem.Str, cellOf env x = match env.cells.lookup x with | some a => pure a | Option.none => unsupported "internal:no-cell-for-name" := fun _ => rfl
  cases h1 : env.cells.lookup ("deep" : PySem.Str) with
  | none =>
    have e1 : cellOf env "deep" = unsupported "internal:no-cell-for-name" := by rw [e, h1]
    simp only [List.forIn_cons, List.forIn_nil, e1]
    rfl
  | some a =>
    have e1 : cellOf env "deep" = pure a := by rw [e, h1]
    cases h2 : env.cells.lookup ("hand" : PySem.Str) with
    | none =>
      have e2 : cellOf env "hand" = unsupported "internal:no-cell-for-name" := by rw [e, h2]
      simp only [List.forIn_cons, List.forIn_nil, e1, e2]
      rfl
    | some b =>
      have e2 : cellOf env "hand" = pure b := by rw [e, h2]
      simp only [List.forIn_cons, List.forIn_nil, e1, e2]
      rfl
theorem Sc.pg2 (G : Pg c) {F : FS} {scope : Scope} {x x1 x2 : PySem.Str} {v1 v2 : PV} {gl : Params → List (PySem.Str × Value)} (h : ∀ P, scB (KK P) scope x (gl P) = true) (hf : ∀ env : Env, closureFor scope env = (do let a ← cellOf env x1; let b ← cellOf env x2; pure [(x2, b), (x1, a)]))
    (h1 : scope.names.lookup x1 = some .free) (h2 : scope.names.lookup x2 = some .free) (h12 : (x1 == x2) = false) (m1 : (x1, v1) ∈ F.kp) (m2 : (x2, v2) ∈ F.kp) : Sc c F ⟨[x], gl c.w.params, [(x1, v1), (x2, v2)]⟩ scope x :=
  Sc.of2 G.ok (by rw [G.K]; exact h _) hf h1 h2 h12 m1 m2
noncomputable abbrev gF (c : Cx) (k n : Nat) : FS := ⟨grownRest, gl__law_grown c.w.params, [("hand", .cell k), ("deep", .int (n : Int))]⟩
noncomputable abbrev ρg (a b d e f : Option PV) : Loc := [("form", a), ("kind", b), ("word", d), ("words", e), ("one_side", f)]
noncomputable def Grows (c : Cx) (cs : List Nat) (n : Nat) : Prop := ∀ (k d : Nat) (mu : Mem), Wf mu → mu[k]? = some (handC c cs d) → ∃ t d', Gd n t ∧ Fn c (n + 3) (.ref 344) [.cell k, .int (n : Int)] mu t.pv (mu.set k (handC c cs d'))
theorem grown_fin (G : Pg c) {cs : List Nat} {k n N d' : Nat} {t : Tr} {mu nu : Mem} (W : Wf mu) (hb : Exs c (gF c k n) N (ρg Option.none Option.none Option.none Option.none Option.none) mu (bodyAt (KK c.w.params) 344) (.ret t.pv (mu.set k (handC c cs d') ++ nu))) :
    Fn c (N + 1) (.ref 344) [.cell k, .int (n : Int)] mu t.pv (mu.set k (handC c cs d')) := by
  have W' : Wf (mu.set k (handC c cs d')) := W.set handC_under
  exact Fn.ofC (p1 := .cell k) (p2 := .int (n : Int)) G.ok (at_grown G) (muB := mu.set k (handC c cs d') ++ nu) hb (by rw [List.take_left]) (by rw [List.length_set]; exact Nat.le_refl _) (by unfold memNarrow; rw [Tr.under, List.take_left, W'.ok]; rfl)
theorem grown0 (G : Pg c) {cs : List Nat} (hcs : cs.length < 1000) : Grows c cs 0 := by
  intro k d mu W hk
  obtain ⟨t, d', ht, fl⟩ := leaf_ok G W hk hcs
  refine ⟨t, d', .leaf ht, grown_fin (nu := []) G W ?_⟩
  rw [List.append_nil]
  refine Exs.cons (mu₁ := mu) (ρ₁ := ρg (some (.int (0 : Nat))) Option.none Option.none Option.none Option.none) (Ex.asg (Ev.ifF (mu₁ := mu) (Ts.eq (by walk_at "ts") (by rfl)) (by walk_at "ev")) (by walk_at "upd")) ?_
  exact Exs.ifT (mu₁ := mu) (Ts.eq (by walk_at "ts") (by rfl)) (Exs.ret (Ex.ret (Ev.fcall G.ok (by walk_at "ev") (by walk_at "callee") (by walk_at "evl") (Fn.op fl))))
theorem grownS (G : Pg c) {cs : List Nat} {n : Nat} (hcs : cs.length < 1000) (ih : Grows c cs n) : Grows c cs (n + 1) := by
  intro k d mu W hk
  have hkl := hand_lt hk
  have D1 := dealt_ok G (m := 7) W hk (by decide) hcs
  have hk1 := hand_get (d' := d + 1) hk
  have W1 : Wf (mu.set k (handC c cs (d + 1))) := W.set handC_under
  generalize hf : deal cs d 7 = f at D1
  have gk : ∀ d, (mu.set k (handC c cs d))[k]? = some (handC c cs d) := fun d => hand_get hk
  have gw : ∀ d, Wf (mu.set k (handC c cs d)) := fun d => W.set handC_under
  have dl : ∀ (e m : Nat), 0 < m → Fn c 1 (.ref 332) [.cell k, .int (m : Int)] (mu.set k (handC c cs e)) (.int (deal cs e m : Nat)) (mu.set k (handC c cs (e + 1))) := fun e m hm => by
    have := dealt_ok G (m := m) (gw e) (gk e) hm hcs
    rwa [List.set_set] at this
  have gr : ∀ e, ∃ t d', Gd n t ∧ Fn c (n + 3) (.ref 344) [.cell k, .int (n : Int)] (mu.set k (handC c cs e)) t.pv (mu.set k (handC c cs d')) := fun e => by
    obtain ⟨t, d', h1, h2⟩ := ih k e _ (gw e) (gk e)
    exact ⟨t, d', h1, by rwa [List.set_set] at h2⟩
  have pre : ∀ {t : Tr} {d' : Nat} {nu : Mem}, Exs c (gF c k (n + 1)) (n + 3) (ρg (some (.int f)) Option.none Option.none Option.none Option.none) (mu.set k (handC c cs (d + 1))) ((bodyAt (KK c.w.params) 344).drop 1) (.ret t.pv (mu.set k (handC c cs d') ++ nu)) →
      Fn c (n + 1 + 3) (.ref 344) [.cell k, .int ((n + 1 : Nat) : Int)] mu t.pv (mu.set k (handC c cs d')) := fun {t d' nu} h => by
    refine grown_fin (nu := nu) G W ?_
    exact Exs.cons (mu₁ := mu.set k (handC c cs (d + 1))) (ρ₁ := ρg (some (.int f)) Option.none Option.none Option.none Option.none) (Ex.asg (Ev.ifT (mu₁ := mu) (Ts.eq (by walk_at "ts") (decide_eq_true (Nat.succ_pos n))) (Ev.fcall G.ok (by walk_at "ev") (by walk_at "callee") (by walk_at "evl") (Fn.op D1 (by omega)))) (by walk_at "upd")) h
  -- what is one less deep
  have less : ∀ {ρ mu} {p1 p2 p3 : Pos} {k1 : Nat}, Ev c (gF c k (n + 1)) (n + 3) ρ mu (.BinOp (.Name "deep" p1) .Sub (.Constant (.int 1) k1 p2) p3) (.int (n : Int)) mu := fun {ρ mu p1 p2 p3 k1} =>
    Ev.eq (v := .int (((n + 1 : Nat) : Int) - ((1 : Nat) : Int))) (Ev.bin (Ev.clo (by walk_at "mem")) (Ev.intN rfl) Op2.subI) (by congr 1; omega)
  by_cases q0 : f < 2
  · obtain ⟨t, d', ht, fl⟩ := leaf_ok G (gw (d + 1)) (gk (d + 1)) hcs
    rw [List.set_set] at fl
    refine ⟨t, d', .leaf ht, pre (nu := []) ?_⟩
    rw [List.append_nil]
    exact Exs.ifT (mu₁ := mu.set k (handC c cs (d + 1))) (Ts.eq (by walk_at "ts") (decide_eq_true q0)) (Exs.ret (Ex.ret (Ev.fcall G.ok (by walk_at "ev") (by walk_at "callee") (by walk_at "evl") (Fn.op fl (by omega)))))
  by_cases q1 : f = 2
  · obtain ⟨t, d', ht, fl⟩ := gr (d + 1 + 1)
    have hj := deal_lt (cs := cs) (d := d + 1) (m := 2) (by decide)
    have hj' : deal cs (d + 1) 2 < [T "neg", T "not"].length := hj
    have hm : [T "neg", T "not"][deal cs (d + 1) 2] ∈ [T "neg", T "not"] := List.getElem_mem hj'
    refine ⟨_, d', .un hm ht, pre (nu := []) ?_⟩
    rw [List.append_nil, Tr.pv]
    refine Exs.ifF (mu₁ := mu.set k (handC c cs (d + 1))) (Ts.eq (by walk_at "ts") (decide_eq_false q0)) ?_
    exact Exs.ifT (mu₁ := mu.set k (handC c cs (d + 1))) (Ts.eq (by walk_at "ts") (decide_eq_true q1)) (Exs.ret (Ex.ret (Ev.tup (EvL.cons (Ev.sub (Ev.eq (w := .lst ([T "neg", T "not"].map PV.str)) (Ev.lst (by walk_at "evl")) (by rfl)) (Ev.fcall G.ok (by walk_at "ev") (by walk_at "callee") (by walk_at "evl") (Fn.op (dl (d + 1) 2 (by decide)) (by omega))) (Op2.idxLN (by rw [List.getElem?_map, List.getElem?_eq_getElem hj']; rfl) (by omega)))
      (EvL.cons (Ev.fcall G.ok (by walk_at "ev") (by walk_at "callee") (EvL.cons (by walk_at "ev") (EvL.cons less EvL.nil)) (Fn.op fl (by omega))) EvL.nil)))))
  by_cases q2 : f = 3
  · have hj := deal_lt (cs := cs) (d := d + 1) (m := 4) (by decide)
    have hm : heads4[deal cs (d + 1) 4] ∈ heads4 := List.getElem_mem hj
    generalize hh : heads4[deal cs (d + 1) 4] = hd at hm
    have hj2 := deal_lt (cs := cs) (d := d + 1 + 1) (m := 2) (by decide)
    generalize hjv : deal cs (d + 1 + 1) 2 = j at hj2
    have D3 := dl (d + 1 + 1) 2 (by decide)
    rw [hjv] at D3
    have W3 : Wf (mu.set k (handC c cs (d + 1 + 1 + 1)) ++ [.obj (rngObj ((1 + j : Nat) : Int))]) := (gw _).snoc (by rfl)
    have hk3 : (mu.set k (handC c cs (d + 1 + 1 + 1)) ++ [.obj (rngObj ((1 + j : Nat) : Int))])[k]? = some (handC c cs (d + 1 + 1 + 1)) := by rw [List.getElem?_append_left (by rw [List.length_set]; exact hkl)]; exact gk _
    obtain ⟨as, d', hal, hag, co⟩ := Co.grown (F' := ⟨["turn"], [("_law_grown", .ref 344)], [("deep", .int ((n + 1 : Nat) : Int)), ("hand", .cell k)]⟩) (N := n + 3) (xn := "turn") (fun mu' e W' h' => ih k e mu' W' h') (1 + j) 0 [] (d + 1 + 1 + 1) _ W3 hk3 (by simp; omega)
    have good : Gd (n + 1) (.app hd.1 hd.2 as) := by
      match as, hal, hag with
      | [a], _, hag => exact .app1 hm (hag a (by simp))
      | [a, b], _, hag => exact .app2 hm (hag a (by simp)) (hag b (by simp))
      | [], h, _ => exact absurd h (by rw [List.length_nil]; omega)
      | a :: b :: e :: r, h, _ => exact absurd h (by simp only [List.length_cons]; omega)
    refine ⟨_, d', good, pre (nu := [.obj (rngObj ((1 + j : Nat) : Int))]) ?_⟩
    have e1 : (Tr.app hd.1 hd.2 as).pv = .tup [.str hd.1, .str hd.2, .lst (as.map Tr.pv)] := by rw [Tr.pv, Tr.pvL_map]
    rw [e1]
    refine Exs.ifF (mu₁ := mu.set k (handC c cs (d + 1))) (Ts.eq (by walk_at "ts") (decide_eq_false q0)) ?_
    refine Exs.ifF (mu₁ := mu.set k (handC c cs (d + 1))) (Ts.eq (by walk_at "ts") (decide_eq_false q1)) ?_
    refine Exs.ifT (mu₁ := mu.set k (handC c cs (d + 1))) (Ts.eq (by walk_at "ts") (decide_eq_true q2)) ?_
    refine Exs.cons (mu₁ := mu.set k (handC c cs (d + 1 + 1))) (ρ₁ := ρg (some (.int f)) (some (.str hd.1)) (some (.str hd.2)) Option.none Option.none) (Ex.asgT2 (v := .str hd.1) (w := .str hd.2) (Ev.sub (Ev.eq (w := .lst (heads4.map fun h => tk h.1 h.2)) (Ev.lst (by walk_at "evl")) (by rfl)) (Ev.fcall G.ok (by walk_at "ev") (by walk_at "callee") (by walk_at "evl") (Fn.op (dl (d + 1) 4 (by decide)) (by omega))) (Op2.idxLN (by rw [List.getElem?_map, List.getElem?_eq_getElem hj, hh]; rfl) (by omega))) (by walk_at "upd") (by walk_at "upd")) ?_
    have hset : (mu.set k (handC c cs (d + 1 + 1 + 1)) ++ [Cell.obj (rngObj ((1 + j : Nat) : Int))]).set k (handC c cs d') = mu.set k (handC c cs d') ++ [Cell.obj (rngObj ((1 + j : Nat) : Int))] := by rw [set_left (by rw [List.length_set]; exact hkl), List.set_set]
    rw [hset] at co
    refine Exs.ret (Ex.ret (Ev.tup (EvL.cons (by walk_at "ev") (EvL.cons (by walk_at "ev") (EvL.cons (Ev.comp (k := (mu.set k (handC c cs (d + 1 + 1 + 1)) ++ [Cell.obj (rngObj ((1 + j : Nat) : Int))]).length) (F' := ⟨["turn"], [("_law_grown", .ref 344)], [("deep", .int ((n + 1 : Nat) : Int)), ("hand", .cell k)]⟩)
      (Src.new (Ev.fcall G.ok (by walk_at "ev") (by walk_at "callee") (EvL.cons (Ev.bin (Ev.intN (m := 1) rfl) (Ev.fcall G.ok (by walk_at "ev") (by walk_at "callee") (by walk_at "evl") (Fn.op D3 (by omega))) Op2.addN) EvL.nil) rng1) (iterG (by omega) (get_app0 ..)))
      (Sc.pg2 G (gl := fun _ => [("_law_grown", .ref 344)]) (fun P => by kernel_rfl) (fun env => clo2 (by rfl)) (by rfl) (by rfl) (by decide) (by walk_at "mem") (by walk_at "mem"))
      (by rw [List.append_assoc]; exact co _ _ (fun i mu' t d' fn => Ev.fcall G.ok (by walk_at "ev") (by walk_at "callee") (EvL.cons (by walk_at "ev") (EvL.cons (Ev.eq (v := .int (((n + 1 : Nat) : Int) - ((1 : Nat) : Int))) (Ev.bin (Ev.clo (by walk_at "mem")) (Ev.intN rfl) Op2.subI) (by congr 1; omega)) EvL.nil)) (Fn.op fn (Nat.le_refl _))))
      (Slf.git (i := 0) (j := ((1 + j : Nat) : Int)) (by rw [List.append_assoc]; exact get_app0 ..)) (by simp)) EvL.nil)))))
  · obtain ⟨t, d', ht, fl⟩ := gr (d + 1 + 1)
    obtain ⟨t2, d2, ht2, fl2⟩ := gr d'
    have hj := deal_lt (cs := cs) (d := d + 1) (m := 18) (by decide)
    have hm : words18[deal cs (d + 1) 18] ∈ words18 := List.getElem_mem hj
    refine ⟨_, d2, .two hm ht ht2, pre (nu := []) ?_⟩
    rw [List.append_nil, Tr.pv]
    refine Exs.ifF (mu₁ := mu.set k (handC c cs (d + 1))) (Ts.eq (by walk_at "ts") (decide_eq_false q0)) ?_
    refine Exs.ifF (mu₁ := mu.set k (handC c cs (d + 1))) (Ts.eq (by walk_at "ts") (decide_eq_false q1)) ?_
    refine Exs.ifF (mu₁ := mu.set k (handC c cs (d + 1))) (Ts.eq (by walk_at "ts") (decide_eq_false q2)) ?_
    refine Exs.cons (mu₁ := mu.set k (handC c cs (d + 1))) (ρ₁ := ρg (some (.int f)) Option.none Option.none (some (.lst (words18.map PV.str))) Option.none) (Ex.asg (v := .lst (words18.map PV.str)) (Ev.eq (Ev.lst (by walk_at "evl")) (by rfl)) (by walk_at "upd")) ?_
    refine Exs.cons (mu₁ := mu.set k (handC c cs d')) (ρ₁ := ρg (some (.int f)) Option.none (some (.str words18[deal cs (d + 1) 18])) (some (.lst (words18.map PV.str))) (some t.pv))
      (Ex.asgD2 (v := .str words18[deal cs (d + 1) 18]) (w := t.pv) (EvL.cons (Ev.sub (by walk_at "ev") (Ev.fcall G.ok (by walk_at "ev") (by walk_at "callee") (by walk_at "evl") (Fn.op (dl (d + 1) 18 (by decide)) (by omega))) (Op2.idxLN (by rw [List.getElem?_map, List.getElem?_eq_getElem hj]; rfl) (by omega))) (EvL.cons (Ev.fcall G.ok (by walk_at "ev") (by walk_at "callee") (EvL.cons (by walk_at "ev") (EvL.cons less EvL.nil)) (Fn.op fl (by omega))) EvL.nil)) (by walk_at "upd") (by walk_at "upd") (by walk_at "upd") (by walk_at "upd")) ?_
    exact Exs.ret (Ex.ret (Ev.tup (EvL.cons (by walk_at "ev") (EvL.cons (by walk_at "ev") (EvL.cons (by walk_at "ev") (EvL.cons (Ev.fcall G.ok (by walk_at "ev") (by walk_at "callee") (EvL.cons (by walk_at "ev") (EvL.cons less EvL.nil)) (Fn.op fl2 (by omega))) EvL.nil))))))
end
-- text P33
section
variable {c : Cx}
theorem Co.list {F' : FS} {n : Nat} {mu : Mem} {xn : PySem.Str} {elt : Expr} {ps : List PV} (f : PV → PV) (W : Wf mu) (hz : ps.length < 10000) (hu : ∀ p ∈ ps, (f p).under mu.length = true) (h : ∀ p ∈ ps, ∀ mu', Ev c F' n [(xn, some p)] mu' elt (f p) mu') :
    ∀ (r d : List PV) (w : Option PV), ps = d ++ r → Co c F' n mu.length xn elt w (mu ++ [.lit ps d.length, .list (d.map f)]) (ps.map f) mu := by
  intro r
  induction r with
  | nil =>
    intro d w hx
    have : d = ps := by rw [hx, List.append_nil]
    subst this
    exact Co.stop (Lst.lit (get_app0 ..) (Nat.le_refl _)) W.ok (by
      have : ∀ l : List PV, (∀ p ∈ l, p ∈ d) → PV.underL mu.length (l.map f) = true := by
        intro l; induction l with
        | nil => intro _; rfl
        | cons a l ih => intro hl; show ((f a).under mu.length && PV.underL mu.length (l.map f)) = true; rw [hu a (hl a (List.mem_cons_self)), ih (fun p hp => hl p (List.mem_cons_of_mem _ hp))]; rfl
      exact this _ (fun _ h => h))
  | cons k r ih =>
    intro d w hx
    have hk : ps[d.length]? = some k := by rw [hx]; simp
    have hm : k ∈ ps := by rw [hx]; simp
    have ih := ih (d ++ [k]) (some k) (by rw [hx]; simp)
    refine Co.turn (v := k) (w := f k) (acc := d.map f) (mu₁ := mu ++ [.lit ps (d.length + 1), .list (d.map f)]) (mu₂ := mu ++ [.lit ps (d.length + 1), .list (d.map f)]) ?_ (h k hm _) (get_app1 ..) ?_ ?_
    · have := Nxt.lit (c := c) (n := n) (mu := mu ++ [.lit ps d.length, .list (d.map f)]) (k := mu.length) (get_app0 ..) hk
      rwa [set_app0] at this
    · rw [List.length_map, sizeLine_eq]
      have := congrArg List.length hx
      rw [List.length_append] at this; omega
    · rw [set_app1]
      have e1 : (d ++ [k]).length = d.length + 1 := by simp
      have e2 : (d ++ [k]).map f = d.map f ++ [f k] := by simp
      rw [e1, e2] at ih
      exact ih
noncomputable def rowT : Nat → Tr
  | 0 => .nm (T "A")
  | n + 1 => .two (if n % 2 = 0 then T "-" else T "AND") (rowT n) (.whole n)
end
local macro_rules | `(tactic| walk_at "opn") => `(tactic| first
  | ((with_reducible show OpN _ _ _ (fun vs => call (.builtin "abs") vs) _ _ _); exact absI)
  | ((with_reducible show OpN _ _ _ (fun vs => call (.type "int") vs) [.int _] _ _); exact intI))
section
variable {c : Cx}
noncomputable def absPV : PV → PV
  | .int i => .int (i.natAbs : Int)
  | p => p
noncomputable abbrev ρlaw (sc : List PV) (h r t : Option PV) : Loc := [("script", some (.lst sc)), ("hand", h), ("row", r), ("turn", t)]
noncomputable def lastT : Nat → Option PV
  | 0 => Option.none
  | n + 1 => some (.int n)
theorem row_loop {F : FS} {sc : List PV} {h : Option PV} {m1 : Mem} {px : Pos} {body : List Stmt} {j : Nat} (hF : F.kp = []) (hl : m1.length = 2) (hb : memBelow m1.length m1 = true) (hr : ∀ y w r t, r.under 2 = true → (∀ q, t = some q → q.under 2 = true) → (y, some w) ∈ ρlaw sc h (some r) t → w.under m1.length = true)
    (hbody : ∀ a b, a < j → Exs c F 12 (ρlaw sc h (some (rowT a).pv) (some (.int a))) (m1 ++ [.git (a + 1) b]) body (.next (ρlaw sc h (some (rowT (a + 1)).pv) (some (.int a))) (m1 ++ [.git (a + 1) b]))) :
    ∀ b a, a + b = j → Fo c F 12 2 (ρlaw sc h (some (rowT a).pv) (lastT a)) (m1 ++ [.git a b]) "turn" px body (.next (ρlaw sc h (some (rowT j).pv) (lastT j)) m1) := by
  intro b
  induction b with
  | zero =>
    intro a e
    obtain rfl : a = j := e
    exact Fo.stop (Lst.git (get_app0 ..)) hb (fun y w m => hr y w _ _ (Tr.under _ _) (fun q e => by cases a with | zero => cases e | succ a => cases e; rfl) m) hF hl
  | succ b ih =>
    intro a e
    refine Fo.turn (v := .int a) (mu₁ := m1 ++ [.git (a + 1) b]) (mu₂ := m1 ++ [.git (a + 1) b]) (ρ₁ := ρlaw sc h (some (rowT a).pv) (some (.int a))) (ρ₂ := ρlaw sc h (some (rowT (a + 1)).pv) (some (.int a))) ?_ (by walk_at "upd") (hbody a b (by omega)) ?_
    · have := Nxt.git (c := c) (n := 12) (mu := m1 ++ [.git a (b + 1)]) (k := m1.length) (get_app0 ..) (by omega)
      rw [set_app0, hl, show ((b : Int) + 1 - 1) = b by omega] at this
      exact this
    · exact ih (a + 1) (by omega)
theorem law_ok (G : Pg c) {xs : List Int} (hx : xs.length < 100)
    (hB : ∀ t, Gd 3 t → ∀ mu, Wf mu → Fn c 9 (.ref 351) [t.pv] mu (.bool true) mu) (hR : ∀ n, n ≤ 20 → ∀ mu, Wf mu → Fn c 9 (.ref 351) [(rowT n).pv] mu (.bool true) mu)
    (hN : ∀ k d cs mu, cs.length < 1000 → Wf mu → mu[k]? = some (handC c cs d) → ∃ d', Fn c 12 (.ref 358) [.cell k] mu (.bool true) (mu.set k (handC c cs d'))) :
    Fn c 13 (.ref 363) [.lst (xs.map PV.int)] [] (.bool true) [] := by
  have W0 : Wf [] := ⟨rfl⟩
  have hcl : ((xs.take 30).map Int.natAbs).length < 1000 := by rw [List.length_map, List.length_take]; omega
  generalize hcs : (xs.take 30).map Int.natAbs = cs at hcl
  have wfh : ∀ d, Wf [handC c cs d] := fun d => W0.snoc handC_under
  obtain ⟨t, d1, gt, ft⟩ := (grownS G hcl (grownS G hcl (grownS G hcl (grown0 G hcl)))) 0 0 [handC c cs 0] (wfh 0) rfl
  have ft : Fn c 6 (.ref 344) [.cell 0, .int ((3 : Nat) : Int)] [handC c cs 0] t.pv [handC c cs d1] := ft
  have D := dealt_ok G (m := 21) (wfh d1) (k := 0) rfl (by decide) hcl
  have D : Fn c 1 (.ref 332) [.cell 0, .int ((21 : Nat) : Int)] [handC c cs d1] (.int (deal cs d1 21 : Nat)) [handC c cs (d1 + 1)] := D
  have hj := deal_lt (cs := cs) (d := d1) (m := 21) (by decide)
  generalize deal cs d1 21 = j at D hj
  have W2 : Wf [handC c cs (d1 + 1), .obj (rngObj (j : Int))] := (wfh _).snoc (by rfl)
  obtain ⟨d2, n1⟩ := hN 0 (d1 + 1) cs [handC c cs (d1 + 1), .obj (rngObj (j : Int))] hcl W2 rfl
  have n1 : Fn c 12 (.ref 358) [.cell 0] [handC c cs (d1 + 1), .obj (rngObj (j : Int))] (.bool true) [handC c cs d2, .obj (rngObj (j : Int))] := n1
  have W3 : Wf [handC c cs d2, .obj (rngObj (j : Int))] := (wfh _).snoc (by rfl)
  obtain ⟨d3, n2⟩ := hN 0 d2 cs [handC c cs d2, .obj (rngObj (j : Int))] hcl W3 rfl
  have n2 : Fn c 12 (.ref 358) [.cell 0] [handC c cs d2, .obj (rngObj (j : Int))] (.bool true) [handC c cs d3, .obj (rngObj (j : Int))] := n2
  refine Fn.junk (nu := [handC c cs d3, .obj (rngObj (j : Int))]) (ρlaw (xs.map PV.int) Option.none Option.none Option.none) G.ok (at_law G) W0 ?_
  rw [List.nil_append]
  have comp : ∀ p ∈ (xs.map PV.int).take 30, (absPV p).under 1 = true := fun p hp => by
    obtain ⟨q, _, rfl⟩ := List.mem_map.mp (List.mem_of_mem_take hp)
    rfl
  have hcards : ((xs.map PV.int).take 30).map absPV = cs.map natPV := by
    rw [← hcs, ← List.map_take, List.map_map, List.map_map]; rfl
  refine Exs.cons (mu₁ := [handC c cs 0]) (ρ₁ := ρlaw (xs.map PV.int) (some (.cell 0)) Option.none Option.none) (Ex.asg (v := .cell 0) ?_ (by walk_at "upd")) ?_
  · refine Ev.dict (mu₁ := [dmap c []]) (kv := handKV cs 0) G.ok (EvP.cons (j := 0) (kp := ⟨344, 12, 344, 19⟩) (mu₁ := [dmap c []]) (v := cardsPV cs) ?_ (EvP.cons (j := 0) (kp := ⟨344, 63, 344, 70⟩) (Ev.intN (m := 0) rfl) EvP.nil)) rfl (fun env => rfl) (fun env => by simp) (fun env => by simp)
    refine Ev.eq (v := .lst (((xs.map PV.int).take 30).map absPV)) ?_ (by rw [hcards]; rfl)
    refine Ev.comp (mu₁ := [dmap c []] ++ [.lit ((xs.map PV.int).take 30) 0]) (k := 1) (F' := ⟨["card"], [("abs", .builtin "abs"), ("int", .type "int")], []⟩) (Src.new (mu₁ := [dmap c []]) (Ev.sl_LN (by walk_at "ev") (Ev.intN (m := 30) rfl) (by rw [List.length_map, sizeLine_eq]; omega)) iterL) (Sc.pg G (gl := fun _ => [("abs", .builtin "abs"), ("int", .type "int")]) (fun P => by kernel_rfl) (by kernel_rfl)) ?_ (Slf.lit (j := 0) (ps := (xs.map PV.int).take 30) rfl) rfl
    exact Co.list (mu := [dmap c []]) absPV (W0.snoc (by rfl)) (by rw [List.length_take, List.length_map]; omega) comp (fun p hp mu' => by
      obtain ⟨q, _, rfl⟩ := List.mem_map.mp (List.mem_of_mem_take hp)
      exact Ev.fcall G.ok (by walk_at "ev") (by walk_at "callee") (by walk_at "evl") (by walk_at "opn")) _ [] Option.none rfl
  refine Exs.ifF (mu₁ := [handC c cs d1]) (Ts.not (t := true) (Ts.of (p := .bool true) (mu₁ := [handC c cs d1]) (Ev.fcall (mu₂ := [handC c cs d1]) (ps := [t.pv]) G.ok (by walk_at "ev") (by walk_at "callee") (EvL.cons (mu₁ := [handC c cs d1]) (Ev.fcall G.ok (by walk_at "ev") (by walk_at "callee") (by walk_at "evl") (Fn.op ft)) EvL.nil) (Fn.op (hB t gt _ (wfh d1)))) OpB.bool)) ?_
  have hr0 : PV.tup [.str (T "name"), .str (T "A")] = (rowT 0).pv := by
    show _ = Tr.pv (.nm (T "A")); rw [Tr.pv]
  refine Exs.cons (mu₁ := [handC c cs d1]) (ρ₁ := ρlaw (xs.map PV.int) (some (.cell 0)) (some (rowT 0).pv) Option.none) (Ex.asg (Ev.eq (by walk_at "ev") hr0) (by walk_at "upd")) ?_
  refine Exs.cons (mu₁ := [handC c cs (d1 + 1), .obj (rngObj (j : Int))]) (ρ₁ := ρlaw (xs.map PV.int) (some (.cell 0)) (some (rowT j).pv) (lastT j)) (Ex.for (k := 2) (mu₁ := [handC c cs (d1 + 1), .obj (rngObj (j : Int))] ++ [.git (0 : Nat) j]) (Src.new (mu₁ := [handC c cs (d1 + 1), .obj (rngObj (j : Int))]) (p := .cell 1) (Ev.fcall (mu₂ := [handC c cs (d1 + 1)]) G.ok (by walk_at "ev") (by walk_at "callee") (EvL.cons (mu₁ := [handC c cs (d1 + 1)]) (Ev.fcall G.ok (by walk_at "ev") (by walk_at "callee") (by walk_at "evl") (Fn.op D)) EvL.nil) rng1) (iterG (by omega) rfl)) (row_loop rfl rfl W2.ok ?_ ?_ j 0 (by omega))) ?_
  · intro y w r t h1 h2 m
    have hsc : ∀ l : List Int, PV.underL 2 (l.map PV.int) = true := by
      intro l; induction l with
      | nil => rfl
      | cons a l ih => show ((PV.int a).under 2 && _) = true; rw [ih]; rfl
    rcases List.mem_cons.mp m with e | m
    · cases e; exact hsc xs
    rcases List.mem_cons.mp m with e | m
    · cases e; rfl
    rcases List.mem_cons.mp m with e | m
    · cases e; exact h1
    rcases List.mem_cons.mp m with e | m
    · injection e with e1 e2; exact h2 w e2.symm
    · cases m
  · intro a b hab
    have hrow : ∀ x, x = (if a % 2 = 0 then T "-" else T "AND") → PV.tup [.str (T "two"), .str x, (rowT a).pv, .tup [.str (T "whole"), .int a]] = (rowT (a + 1)).pv := by
      intro x hx
      rw [rowT, Tr.pv, Tr.pv, hx]
    by_cases q : a % 2 = 0
    · exact Exs.cons (ρ₁ := ρlaw (xs.map PV.int) (some (.cell 0)) (some (rowT (a + 1)).pv) (some (.int a))) (Ex.asg (Ev.eq (Ev.tup (EvL.cons (by walk_at "ev") (EvL.cons (Ev.ifT (Ts.eq (Ts.cmp (Ev.bin (by walk_at "ev") (by walk_at "ev") (Op2.modG (by decide))) (by walk_at "ev") (by walk_at "op")) (decide_eq_true q)) (by walk_at "ev")) (by walk_at "evl")))) (hrow _ (by rw [if_pos q]))) (by walk_at "upd")) Exs.nil
    · exact Exs.cons (ρ₁ := ρlaw (xs.map PV.int) (some (.cell 0)) (some (rowT (a + 1)).pv) (some (.int a))) (Ex.asg (Ev.eq (Ev.tup (EvL.cons (by walk_at "ev") (EvL.cons (Ev.ifF (Ts.eq (Ts.cmp (Ev.bin (by walk_at "ev") (by walk_at "ev") (Op2.modG (by decide))) (by walk_at "ev") (by walk_at "op")) (decide_eq_false q)) (by walk_at "ev")) (by walk_at "evl")))) (hrow _ (by rw [if_neg q]))) (by walk_at "upd")) Exs.nil
  refine Exs.ifF (mu₁ := [handC c cs (d1 + 1), .obj (rngObj (j : Int))]) (Ts.not (t := true) (Ts.of (p := .bool true) (mu₁ := [handC c cs (d1 + 1), .obj (rngObj (j : Int))]) (Ev.fcall (mu₂ := [handC c cs (d1 + 1), .obj (rngObj (j : Int))]) (ps := [(rowT j).pv]) G.ok (by walk_at "ev") (by walk_at "callee") (by walk_at "evl") (Fn.op (hR j (by omega) _ W2))) OpB.bool)) ?_
  exact Exs.ret (Ex.ret (Ev.boolop (EvB.andT (mu₁ := [handC c cs d2, .obj (rngObj (j : Int))]) (Ev.fcall G.ok (by walk_at "ev") (by walk_at "callee") (by walk_at "evl") (Fn.op n1)) (EvB.one (Ev.fcall G.ok (by walk_at "ev") (by walk_at "callee") (by walk_at "evl") (Fn.op n2))))))
end
-- text P34
section
variable {c : Cx}
noncomputable def fronts : List (List Nat) := [T "", T "0", T "7", T "120", T "00450", T "65536"]
noncomputable def behinds : List (List Nat) := [T "", T ".", T ".5", T ".250", T ".007", T ".0"]
noncomputable def powers : List (List Nat) := [T "", T "E2", T "e-3", T "E+01", T "!", T "%"]
noncomputable def earlyB (fr be po : List Nat) : Bool := (decide (fr = T "") && decide (be.length < 2)) || (decide (po = T "%") && !decide (be = T ""))
noncomputable def figsV : Nat → List Nat → Nat
  | a, [] => a
  | a, k :: r => figsV (a * 10 + (k - 48)) r
noncomputable def stripN : Nat → Nat → Int → Option (Nat × Int)
  | 0, _, _ => Option.none
  | f + 1, a, p => if decide (0 < a) && decide (a % 10 = 0) then stripN f (a / 10) (p - ((1 : Nat) : Int)) else some (a, p)
noncomputable def expP (po : List Nat) : Int := if po = T "E2" then 2 else if po = T "e-3" then 0 - 3 else if po = T "E+01" then 1 else 0
noncomputable def wantTr (fr be po : List Nat) : Option Tr :=
  if decide (be = T "") && [T "", T "%"].contains po then some (.whole (figsV 0 (fr ++ be.drop 1)))
  else match stripN 30 (figsV 0 (fr ++ be.drop 1)) (((be.length - 1 : Nat) : Int) - expP po) with
    | some (a, p) => some (.dec a (if 0 < a then ((0 : Nat) : Int) - p else ((0 : Nat) : Int)))
    | Option.none => Option.none
noncomputable def sameT : Tr → Option Tr → Bool
  | .whole a, some (.whole b) => Nat.beq a b
  | .dec a e, some (.dec b d) => decide (a = b) && decide (e = d)
  | _, _ => false
theorem sameT_eq : ∀ {a : Tr} {b : Option Tr}, sameT a b = true → b = some a
  | .whole a, some (.whole b), h => by rw [Nat.eq_of_beq_eq_true h]
  | .dec a e, some (.dec b d), h => by
    unfold sameT at h
    rw [Bool.and_eq_true, decide_eq_true_iff, decide_eq_true_iff] at h
    rw [h.1, h.2]
noncomputable def plOf (row : List Nat) : Bool := decide (find4v row (T ".") 0 (0 + endM row) < 0)
noncomputable def numOkB (fr be po : List Nat) : Bool :=
  earlyB fr be po || match fr ++ be ++ po with
    | [] => false
    | k :: r => startsNum k r && decide (nblank (k :: r) = 0) && match numM (plOf (k :: r)) (k :: r) with
      | some (x, m) => decide (m = (k :: r).length) && decide (0 < m) && (match numT x with | some t => sameT t (wantTr fr be po) | Option.none => false)
      | Option.none => false
example : plOf (T "120.5E2") = false := by decide +kernel
example : plOf (T "120%") = true := by decide +kernel
example : numOkB (T "00450") (T ".250") (T "e-3") = true := by decide +kernel
theorem numOk : ∀ fr ∈ fronts, ∀ be ∈ behinds, ∀ po ∈ powers, numOkB fr be po = true := by decide +kernel
theorem exprM_num {P : Params} {x : List Nat} {t : Tr} (h : numT x = some t) : exprM P [(T "number", x)] 10 = some (t, 1) := by
  have h0 : plainM P [(T "number", x)] 0 = some (some t) := by
    unfold plainM
    rw [if_pos (show (tokG [(T "number", x)] 0).1 = T "number" from rfl)]
    show (match numT x with | some t => some (some t) | Option.none => Option.none) = _
    rw [h]
  have h1 : operandM P [(T "number", x)] 0 [⟨T "top", T "", [], [], []⟩] = some ([⟨T "top", T "", [], [t], []⟩], 1, true) := by
    unfold operandM
    rw [h0]
  have h2 : operatorM P [(T "number", x)] 1 [⟨T "top", T "", [], [t], []⟩] = some ([⟨T "top", T "", [], [t], []⟩], 1, T "end") := by
    unfold operatorM
    dsimp only
    rw [if_neg (by rw [show [T "sign", T "word"].contains (tokG [(T "number", x)] 1).1 = false by rfl, Bool.false_and]; decide), if_pos rfl]
  have h3 : runM P [(T "number", x)] 10 [⟨T "top", T "", [], [], []⟩] 0 (T "operand") = some ([⟨T "top", T "", [], [t], []⟩], 1) := by
    rw [runM, if_neg (by decide), if_pos rfl, h1]
    show (if 1 ≤ 61 then runM P [(T "number", x)] 9 [⟨T "top", T "", [], [t], []⟩] 1 (T "operator") else Option.none) = _
    rw [if_pos (by decide), runM, if_neg (by decide), if_neg (by decide), h2]
    show (if 1 ≤ 61 then runM P [(T "number", x)] 8 [⟨T "top", T "", [], [t], []⟩] 1 (T "end") else Option.none) = _
    rw [if_pos (by decide), runM, if_pos rfl]
  unfold exprM
  rw [h3]
  show some (finM (T "top") (T "") [] t, 1) = _
  rfl
end
-- text P35
section
variable {c : Cx}
theorem Fn.junkM {n : Nat} {fa : Addr} {fd : FuncData} {ps rest : List PySem.Str} {gl : List (PySem.Str × Value)} {body : List Stmt} {args : List PV} {mu mu' nu : Mem} {v : PV} (ρ : Loc) (C : c.Ok) (I : FnAt c fa fd ps rest gl body) (hle : mu.length ≤ mu'.length) (W : Wf mu')
    (hb : Exs c (FSof ps rest gl) n ρ mu body (.ret v (mu' ++ nu))) (hv : v.under mu'.length = true := by rfl) (hl : args.length = ps.length := by rfl) (hρ : start ps rest args = ρ := by rfl) : Fn c (n + 1) (.ref fa) args mu v mu' :=
  Fn.of C I (muB := mu' ++ nu) (hρ ▸ hb) hl (by simp) hle (by unfold memNarrow; rw [hv, List.take_left, W.ok]; rfl)
noncomputable abbrev ρnr (k : Nat) (fr be po fo en si fi pl : Option PV) : Loc := [("hand", some (.cell k)), ("front", fr), ("behind", be), ("power", po), ("found", fo), ("end", en), ("size", si), ("figure", fi), ("places", pl)]
theorem idx_fig : ∀ a ∈ T "0123456789", ∃ l, Builtin.Str.occurrences (S (T "0123456789")) (S [a]) 0 (S (T "0123456789")).length 1 = (a - 48) :: l := by
  intro a ha
  have : ∀ a ∈ T "0123456789", (match Builtin.Str.occurrences (S (T "0123456789")) (S [a]) 0 (S (T "0123456789")).length 1 with | m :: _ => decide (m = a - 48) | [] => false) = true := by decide +kernel
  have := this a ha
  split at this
  · rename_i m l q; exact ⟨l, by rw [q, of_decide_eq_true this]⟩
  · cases this
theorem figs_ok : ∀ fr ∈ fronts, ∀ be ∈ behinds, (fr ++ be.drop 1).all (fun a => (T "0123456789").contains a) = true := by decide +kernel
theorem frl : ∀ fr ∈ fronts, fr.length ≤ 5 := by decide +kernel
theorem bel : ∀ be ∈ behinds, be.length ≤ 4 := by decide +kernel
theorem pol : ∀ po ∈ powers, po.length ≤ 4 := by decide +kernel
noncomputable def kvP : List (PySem.Str × PV) := mergedP [] [("E2", .int 2), ("e-3", .int (((0 : Nat) : Int) - ((3 : Nat) : Int))), ("E+01", .int 1)]
theorem get_pow : ∀ po ∈ powers, (atP kvP (S po)).getD (.int ((0 : Nat) : Int)) = .int (expP po) := by
  intro po h
  have : ∀ po ∈ powers, (match (atP kvP (S po)).getD (.int ((0 : Nat) : Int)) with | .int i => decide (i = expP po) | _ => false) = true := by decide +kernel
  have := this po h
  split at this
  · rename_i q; rw [q, of_decide_eq_true this]
  · cases this
structure NI where
  f : Nat
  a : Nat
  p : Int
noncomputable def lastF : Option PV → List Nat → Option PV
  | fi, [] => fi
  | _, a :: r => lastF (some (.str [a])) r
theorem size_loop (G : Pg c) {k : Nat} {fr be po fo en : Option PV} {mu : Mem} {px : Pos} {body : List Stmt} {x : List Nat} (W : Wf mu) (hu : ∀ y w si fi, si.under mu.length = true → (∀ q, fi = some q → q.under mu.length = true) → (y, some w) ∈ ρnr k fr be po fo en (some si) fi Option.none → w.under mu.length = true)
    (hbody : ∀ (a j i : Nat), x[i]? = some a → ∀ mu', Exs c (fs__law_number_right c) 11 (ρnr k fr be po fo en (some (.int (j : Nat))) (some (.str [a])) Option.none) mu' body (.next (ρnr k fr be po fo en (some (.int ((j * 10 + (a - 48) : Nat)))) (some (.str [a])) Option.none) mu')) :
    ∀ r i j fi, x.drop i = r → (∀ q, fi = some q → q.under mu.length = true) → Fo c (fs__law_number_right c) 11 mu.length (ρnr k fr be po fo en (some (.int (j : Nat))) fi Option.none) (mu ++ [.sit x i]) "figure" px body (.next (ρnr k fr be po fo en (some (.int ((figsV j r : Nat)))) (lastF fi r) Option.none) mu) := by
  intro r
  induction r with
  | nil =>
    intro i j fi hd hfi
    refine Fo.stop (Lst.sit (get_app0 ..) ?_) W.ok (fun y w m => hu y w _ fi (by rfl) hfi m) rfl rfl
    have := congrArg List.length hd
    rw [List.length_drop, List.length_nil] at this; omega
  | cons a r ih =>
    intro i j fi hd hfi
    have hg : x[i]? = some a := head_get hd
    have h := ih (i + 1) (j * 10 + (a - 48)) (some (.str [a])) (by rw [← List.drop_drop, hd]; rfl) (fun q e => by cases e; rfl)
    refine Fo.turn (v := .str [a]) (mu₁ := mu ++ [.sit x (i + 1)]) (mu₂ := mu ++ [.sit x (i + 1)]) (ρ₁ := ρnr k fr be po fo en (some (.int (j : Nat))) (some (.str [a])) Option.none) (ρ₂ := ρnr k fr be po fo en (some (.int ((j * 10 + (a - 48) : Nat)))) (some (.str [a])) Option.none) ?_ (by walk_at "upd") (hbody a j i hg _) h
    have := Nxt.sit (c := c) (n := 11) (mu := mu ++ [.sit x i]) (k := mu.length) (get_app0 ..) hg
    rwa [set_app0] at this
end
-- text P36
section
variable {c : Cx}
theorem Ev.toM {F : FS} {n : Nat} {ρ : Loc} {mu mu' nu : Mem} {e : Expr} {v : PV} (h : Ev c F n ρ mu e v mu') (q : mu' = nu) : Ev c F n ρ mu e v nu := q ▸ h
theorem Op2.eqT' {n : Nat} {mu : Mem} {xs ys : List PV} (q : ys = xs) (h : PV.plainL 300 xs = true) : Op2 c n mu (compareOp .Eq) (.tup xs) (.tup ys) (.bool true) mu := by subst q; exact Op2.eqT h
theorem right_tail (G : Pg c) {k : Nat} {fr be po : List Nat} (hfr : fr ∈ fronts) (hbe : be ∈ behinds) (hpo : po ∈ powers) {mu : Mem} (W : Wf mu) (hk : k < mu.length) :
    ∃ nu, Exs c (fs__law_number_right c) 11 (ρnr k (some (.str fr)) (some (.str be)) (some (.str po)) Option.none Option.none Option.none Option.none Option.none) mu ((bodyAt (KK c.w.params) 358).drop 3) (.ret (.bool true) (mu ++ nu)) := by
  have ok := numOk fr hfr be hbe po hpo
  have l1 := frl fr hfr
  have l2 := bel be hbe
  have l3 := pol po hpo
  have fg := figs_ok fr hfr be hbe
  unfold numOkB at ok
  cases he : earlyB fr be po with
  | true => exact ⟨[], by rw [List.append_nil]; exact Exs.ifT (mu₁ := mu) (Ts.eq (by walk_at "ts") he) (Exs.ret (Ex.ret (by walk_at "ev")))⟩
  | false =>
    rw [he, Bool.false_or] at ok
    split at ok
    · cases ok
    rename_i a r hrow
    rw [Bool.and_eq_true, Bool.and_eq_true] at ok
    obtain ⟨⟨h1, h2⟩, h3⟩ := ok
    split at h3
    case h_2 => cases h3
    rename_i x m hm
    rw [Bool.and_eq_true, Bool.and_eq_true] at h3
    obtain ⟨⟨h4, h5⟩, h6⟩ := h3
    split at h6
    case h_2 => cases h6
    rename_i t ht
    have hw := sameT_eq h6
    have h2 := of_decide_eq_true h2
    have h4 := of_decide_eq_true h4
    have h5 := of_decide_eq_true h5
    have hlen : (fr ++ be ++ po).length ≤ 13 := by rw [List.length_append, List.length_append]; omega
    have hx : x.length < 10000 := by
      unfold numM at hm
      split at hm
      · cases hm
      split at hm
      · cases hm
      cases hm
      rw [List.length_map, List.length_take]
      have : (a :: r).length ≤ 13 := hrow ▸ hlen
      omega
    have lx : Lx c (fr ++ be ++ po) ((fr ++ be ++ po).drop (nblank (fr ++ be ++ po))) (tokL [(T "number", x)]) := by
      rw [hrow, h2, List.drop_zero]
      refine Lx.cons (ts := [tk (T "number") x]) (ts' := []) (m := m) (tok_number G (by rw [← hrow]; omega) h1 ?_) h5 (by intro q; cases q) (Nat.le_refl 1) rfl ?_
      · intro at_ hd
        have h0 : at_ = 0 := by
          have := congrArg List.length hd
          rw [List.length_drop, List.length_cons] at this; omega
        subst h0
        exact hm
      · rw [h4, List.drop_length]; exact Lx.nil
    have f1 := tokens_of_ok G (mu := mu) W (by omega) lx
    have f2 := expression_ok G (ts := [(T "number", x)]) (f := 10) (mu := mu) W (Nat.le_of_ble_eq_true rfl) (by decide) (fun i => by
      cases i with
      | zero => exact hx
      | succ i => unfold tokG; rw [List.getElem?_eq_none (by simp)]; decide) (exprM_num (P := c.w.params) ht)
    generalize hV : figsV 0 (fr ++ be.drop 1) = V at *
    refine (?_ : ∃ nu, Exs c (fs__law_number_right c) 11 (ρnr k (some (.str fr)) (some (.str be)) (some (.str po)) (some t.pv) (some (.int (1 : Nat))) (some (.int V)) (lastF Option.none (fr ++ be.drop 1)) Option.none) mu ((bodyAt (KK c.w.params) 358).drop 7) (.ret (.bool true) (mu ++ nu))).imp fun nu hnu => ?_
    · unfold wantTr at hw
      rw [hV] at hw
      by_cases q : (decide (be = T "") && [T "", T "%"].contains po) = true
      · rw [if_pos q] at hw
        cases hw
        refine ⟨[], ?_⟩
        rw [List.append_nil]
        have e1 : (Tr.whole V).pv = .tup [.str (T "whole"), .int V] := by rw [Tr.pv]
        rw [e1]
        exact Exs.ifT (mu₁ := mu) (Ts.eq (by walk_at "ts") q) (Exs.ret (Ex.ret (Ev.cmp (Ev.tup (by walk_at "evl")) (Ev.tup (by walk_at "evl")) (Op2.eqT' rfl rfl))))
      · rw [if_neg q] at hw
        split at hw
        case h_2 => cases hw
        rename_i b p hs
        cases hw
        refine ⟨[dmap c kvP], ?_⟩
        have e1 : (Tr.dec b (if 0 < b then ((0 : Nat) : Int) - p else ((0 : Nat) : Int))).pv = .tup [.str (T "decimal"), .tup [.int b, .int (if 0 < b then ((0 : Nat) : Int) - p else ((0 : Nat) : Int))]] := by rw [Tr.pv]
        rw [e1]
        have Wd : Wf (mu ++ [dmap c kvP]) := W.snoc (by rfl)
        have hdk : (mu ++ [dmap c kvP])[mu.length]? = some (dmap c kvP) := get_app0 ..
        have hmx : (if ((be.length : Nat) : Int) - ((1 : Nat) : Int) < ((0 : Nat) : Int) then ((0 : Nat) : Int) else ((be.length : Nat) : Int) - ((1 : Nat) : Int)) = ((be.length - 1 : Nat) : Int) := by split <;> omega
        refine Exs.ifF (mu₁ := mu) (Ts.eq (by walk_at "ts") ((Bool.not_eq_true _).mp q)) ?_
        refine Exs.cons (mu₁ := mu ++ [dmap c kvP]) (ρ₁ := ρnr k (some (.str fr)) (some (.str be)) (some (.str po)) (some (.tup [.str (T "decimal"), .tup [.int b, .int (if 0 < b then ((0 : Nat) : Int) - p else ((0 : Nat) : Int))]])) (some (.int (1 : Nat))) (some (.int V)) (lastF Option.none (fr ++ be.drop 1)) (some (.int (((be.length - 1 : Nat) : Int) - expP po)))) (Ex.asg (Ev.bin (mu₁ := mu) (mu₂ := mu ++ [dmap c kvP]) (p := .int ((be.length - 1 : Nat) : Int)) (q := .int (expP po)) ?_ ?_ (by walk_at "op")) (by walk_at "upd")) ?_
        · exact Ev.eq (Ev.fcall G.ok (by walk_at "ev") (by walk_at "callee") (by walk_at "evl") maxI) (by rw [hmx])
        · refine Ev.meth (p := .cell mu.length) (mu₁ := mu ++ [dmap c kvP]) (mu₂ := mu ++ [dmap c kvP]) (ps := [.str po, .int ((0 : Nat) : Int)]) G.ok ?_ (Meth.map hdk F.slot_dict_get F.type_dict_get) Callee.builtin (by walk_at "evl") (get2 hdk (get_pow po hpo))
          exact Ev.toM (Ev.dict (mu₁ := mu ++ [dmap c []]) (kv := [("E2", .int ((2 : Nat) : Int)), ("e-3", .int (((0 : Nat) : Int) - ((3 : Nat) : Int))), ("E+01", .int ((1 : Nat) : Int))]) G.ok (EvP.cons (j := 0) (kp := ⟨339, 40, 339, 44⟩) (mu₁ := mu ++ [dmap c []]) (by walk_at "ev") (EvP.cons (j := 0) (kp := ⟨339, 49, 339, 54⟩) (mu₁ := mu ++ [dmap c []]) (by walk_at "ev") (EvP.cons (j := 0) (kp := ⟨339, 63, 339, 69⟩) (mu₁ := mu ++ [dmap c []]) (by walk_at "ev") EvP.nil))) (get_app0 ..) (fun env => rfl) (fun env => by simp) (fun env => by simp)) (set_app0 ..)
        refine Exs.while (ι := NI) (fun i => ρnr k (some (.str fr)) (some (.str be)) (some (.str po)) (some (.tup [.str (T "decimal"), .tup [.int b, .int (if 0 < b then ((0 : Nat) : Int) - p else ((0 : Nat) : Int))]])) (some (.int (1 : Nat))) (some (.int i.a)) (lastF Option.none (fr ++ be.drop 1)) (some (.int i.p))) (fun _ => mu ++ [dmap c kvP]) (fun i => stripN i.f i.a i.p = some (b, p)) (fun i => i.f) ?_ ⟨30, V, ((be.length - 1 : Nat) : Int) - expP po⟩ hs
        rintro ⟨f, a, e⟩ h
        dsimp only at h ⊢
        cases f with
        | zero => cases h
        | succ f =>
          unfold stripN at h
          split at h
          · rename_i hb
            right
            refine ⟨⟨f, a / 10, e - ((1 : Nat) : Int)⟩, mu ++ [dmap c kvP], Nat.lt_succ_self _, h, Ts.eq (by walk_at "ts") hb, Exs.cons (Ex.asgD2 (EvL.cons (by walk_at "ev") (EvL.cons (by walk_at "ev") EvL.nil)) (by walk_at "upd") (by walk_at "upd") (by walk_at "upd") (by walk_at "upd")) Exs.nil⟩
          · rename_i hb
            left
            cases h
            refine ⟨Ts.eq (by walk_at "ts") ((Bool.not_eq_true _).mp hb), ?_⟩
            by_cases hz : 0 < b
            · exact Exs.ret (Ex.ret (Ev.cmp (Ev.tup (by walk_at "evl")) (Ev.tup (EvL.cons (Ev.tup (EvL.cons (by walk_at "ev") (EvL.cons (Ev.tup (EvL.cons (by walk_at "ev") (EvL.cons (Ev.ifT (mu₁ := mu ++ [dmap c kvP]) (Ts.eq (by walk_at "ts") (decide_eq_true hz)) (by walk_at "ev")) EvL.nil))) EvL.nil))) (by walk_at "evl"))) (Op2.eqT' (by rw [if_pos hz]) rfl)))
            · exact Exs.ret (Ex.ret (Ev.cmp (Ev.tup (by walk_at "evl")) (Ev.tup (EvL.cons (Ev.tup (EvL.cons (by walk_at "ev") (EvL.cons (Ev.tup (EvL.cons (by walk_at "ev") (EvL.cons (Ev.ifF (mu₁ := mu ++ [dmap c kvP]) (Ts.eq (by walk_at "ts") (decide_eq_false hz)) (by walk_at "ev")) EvL.nil))) EvL.nil))) (by walk_at "evl"))) (Op2.eqT' (by rw [if_neg hz]) rfl)))
    · refine Exs.ifF (mu₁ := mu) (Ts.eq (by walk_at "ts") he) ?_
      refine Exs.cons (mu₁ := mu) (ρ₁ := ρnr k (some (.str fr)) (some (.str be)) (some (.str po)) (some t.pv) (some (.int (1 : Nat))) Option.none Option.none Option.none) (Ex.asgT2 (Ev.fcall G.ok (by walk_at "ev") (by walk_at "callee") (EvL.cons (mu₁ := mu) (Ev.fcall G.ok (by walk_at "ev") (by walk_at "callee") (by walk_at "evl") (Fn.op f1)) (by walk_at "evl")) (Fn.op f2)) (by walk_at "upd") (by walk_at "upd")) ?_
      refine Exs.cons (mu₁ := mu) (ρ₁ := ρnr k (some (.str fr)) (some (.str be)) (some (.str po)) (some t.pv) (some (.int (1 : Nat))) (some (.int (0 : Nat))) Option.none Option.none) (by walk_at "st") ?_
      refine Exs.cons (mu₁ := mu) (ρ₁ := ρnr k (some (.str fr)) (some (.str be)) (some (.str po)) (some t.pv) (some (.int (1 : Nat))) (some (.int V)) (lastF Option.none (fr ++ be.drop 1)) Option.none) (Ex.for (k := mu.length) (mu₁ := mu ++ [.sit (fr ++ be.drop 1) 0]) (Src.new (mu₁ := mu) (p := .str (fr ++ be.drop 1)) (by walk_at "ev") iterS) (hV ▸ size_loop G W ?_ ?_ (fr ++ be.drop 1) 0 0 Option.none rfl (fun q e => by cases e))) hnu
      · intro y w si fi h1 h2 m
        rcases List.mem_cons.mp m with e | m
        · cases e; simp [PV.under, hk]
        rcases List.mem_cons.mp m with e | m
        · cases e; rfl
        rcases List.mem_cons.mp m with e | m
        · cases e; rfl
        rcases List.mem_cons.mp m with e | m
        · cases e; rfl
        rcases List.mem_cons.mp m with e | m
        · cases e; exact Tr.under _ t
        rcases List.mem_cons.mp m with e | m
        · cases e; rfl
        rcases List.mem_cons.mp m with e | m
        · cases e; exact h1
        rcases List.mem_cons.mp m with e | m
        · injection e with e1 e2; exact h2 w e2.symm
        rcases List.mem_cons.mp m with e | m
        · cases e
        · cases m
      · intro a j i ha mu'
        have hm : a ∈ T "0123456789" := by
          have := List.all_eq_true.mp fg a (List.mem_of_getElem? ha)
          exact List.contains_iff_mem.mp this
        obtain ⟨l, hl⟩ := idx_fig a hm
        exact Exs.cons (ρ₁ := ρnr k (some (.str fr)) (some (.str be)) (some (.str po)) (some t.pv) (some (.int (1 : Nat))) (some (.int ((j * 10 + (a - 48) : Nat)))) (some (.str [a])) Option.none) (Ex.asg (Ev.bin (Ev.bin (by walk_at "ev") (by walk_at "ev") (by walk_at "op")) (Ev.meth G.ok (by walk_at "ev") (Meth.str F.slot_str_index F.type_str_index) Callee.builtin (by walk_at "evl") (index1 hl)) (by walk_at "op")) (by walk_at "upd")) Exs.nil
theorem number_right_ok (G : Pg c) : ∀ k d cs mu, cs.length < 1000 → Wf mu → mu[k]? = some (handC c cs d) → ∃ d', Fn c 12 (.ref 358) [.cell k] mu (.bool true) (mu.set k (handC c cs d')) := by
  intro k d cs mu hcs W hk
  refine ⟨d + 1 + 1 + 1, ?_⟩
  have D1 := dealt_ok G (m := 6) W hk (by decide) hcs
  have W1 : Wf (mu.set k (handC c cs (d + 1))) := W.set handC_under
  have D2 := dealt_ok G (m := 6) W1 (hand_get (d' := d + 1) hk) (by decide) hcs
  rw [List.set_set] at D2
  have W2 : Wf (mu.set k (handC c cs (d + 1 + 1))) := W.set handC_under
  have D3 := dealt_ok G (m := 6) W2 (hand_get (d' := d + 1 + 1) hk) (by decide) hcs
  rw [List.set_set] at D3
  have W3 : Wf (mu.set k (handC c cs (d + 1 + 1 + 1))) := W.set handC_under
  have j1 := deal_lt (cs := cs) (d := d) (m := 6) (by decide)
  have j2 := deal_lt (cs := cs) (d := d + 1) (m := 6) (by decide)
  have j3 := deal_lt (cs := cs) (d := d + 1 + 1) (m := 6) (by decide)
  have hlt := hand_lt hk
  obtain ⟨nu, tail⟩ := right_tail G (k := k) (fr := fronts[deal cs d 6]) (be := behinds[deal cs (d + 1) 6]) (po := powers[deal cs (d + 1 + 1) 6]) (List.getElem_mem j1) (List.getElem_mem j2) (List.getElem_mem j3) W3 (by rw [List.length_set]; exact hlt)
  refine Fn.junkM (nu := nu) (ρnr k Option.none Option.none Option.none Option.none Option.none Option.none Option.none Option.none) G.ok (at__law_number_right G) (by rw [List.length_set]; exact Nat.le_refl _) W3 ?_
  refine Exs.cons (mu₁ := mu.set k (handC c cs (d + 1))) (ρ₁ := ρnr k (some (.str fronts[deal cs d 6])) Option.none Option.none Option.none Option.none Option.none Option.none Option.none) (Ex.asg (Ev.sub (Ev.eq (w := .lst (fronts.map PV.str)) (Ev.lst (by walk_at "evl")) (by rfl)) (Ev.fcall G.ok (by walk_at "ev") (by walk_at "callee") (by walk_at "evl") (Fn.op D1)) (Op2.idxLN (by rw [List.getElem?_map, List.getElem?_eq_getElem j1]; rfl) (by omega))) (by walk_at "upd")) ?_
  refine Exs.cons (mu₁ := mu.set k (handC c cs (d + 1 + 1))) (ρ₁ := ρnr k (some (.str fronts[deal cs d 6])) (some (.str behinds[deal cs (d + 1) 6])) Option.none Option.none Option.none Option.none Option.none Option.none) (Ex.asg (Ev.sub (Ev.eq (w := .lst (behinds.map PV.str)) (Ev.lst (by walk_at "evl")) (by rfl)) (Ev.fcall G.ok (by walk_at "ev") (by walk_at "callee") (by walk_at "evl") (Fn.op D2)) (Op2.idxLN (by rw [List.getElem?_map, List.getElem?_eq_getElem j2]; rfl) (by omega))) (by walk_at "upd")) ?_
  refine Exs.cons (mu₁ := mu.set k (handC c cs (d + 1 + 1 + 1))) (ρ₁ := ρnr k (some (.str fronts[deal cs d 6])) (some (.str behinds[deal cs (d + 1) 6])) (some (.str powers[deal cs (d + 1 + 1) 6])) Option.none Option.none Option.none Option.none Option.none) (Ex.asg (Ev.sub (Ev.eq (w := .lst (powers.map PV.str)) (Ev.lst (by walk_at "evl")) (by rfl)) (Ev.fcall G.ok (by walk_at "ev") (by walk_at "callee") (by walk_at "evl") (Fn.op D3)) (Op2.idxLN (by rw [List.getElem?_map, List.getElem?_eq_getElem j3]; rfl) (by omega))) (by walk_at "upd")) ?_
  exact tail
end
-- text P37
section
variable {c : Cx}
inductive Sh : Nat → Tr → List Nat → Toks → Prop
  | leaf {n : Nat} {t : Tr} {k x : List Nat} : leafOk t = true → Sh n t (leafT t) [(k, x)]
  | app0 {n : Nat} {k w kd : List Nat} : isApp k = true → w.length ≤ 6 → Sh n (.app k w []) w [(kd, w)]
  | un {n : Nat} {k o : List Nat} {tk : List Nat × List Nat} {t : Tr} {x : List Nat} {ts : Toks} : (k = T "neg" ∧ o = T "-" ∧ tk = (T "sign", T "-")) ∨ (k = T "not" ∧ o = T "NOT " ∧ tk = (T "word", T "NOT")) → Sh n t x ts →
      Sh (n + 1) (.un k t) (T "(" ++ o ++ x ++ T ")") ((T "sign", T "(") :: tk :: (ts ++ [(T "sign", T ")")]))
  | app1 {n : Nat} {k w kd : List Nat} {a : Tr} {x : List Nat} {ts : Toks} : isApp k = true → w.length ≤ 6 → Sh n a x ts →
      Sh (n + 1) (.app k w [a]) (w ++ (T "(" ++ x ++ T ")")) ((kd, w) :: (T "sign", T "(") :: (ts ++ [(T "sign", T ")")]))
  | app2 {n : Nat} {k w kd : List Nat} {a b : Tr} {x y : List Nat} {ts us : Toks} : isApp k = true → w.length ≤ 6 → Sh n a x ts → Sh n b y us →
      Sh (n + 1) (.app k w [a, b]) (w ++ (T "(" ++ (x ++ T "," ++ y) ++ T ")")) ((kd, w) :: (T "sign", T "(") :: (ts ++ (T "sign", T ",") :: (us ++ [(T "sign", T ")")])))
  | two {n : Nat} {w kd : List Nat} {a b : Tr} {x y : List Nat} {ts us : Toks} : w.length ≤ 3 → Sh n a x ts → Sh n b y us →
      Sh (n + 1) (.two w a b) (T "(" ++ x ++ T " " ++ w ++ T " " ++ y ++ T ")") ((T "sign", T "(") :: (ts ++ (kd, w) :: (us ++ [(T "sign", T ")")])))
theorem blt5 {a b : Nat} (h : a < b) : Nat.blt a b = true := Nat.ble_eq_true_of_le h
theorem show_push {f : Nat} {t : Tr} {w : List (Tr × Bool)} {tx : List (List Nat)} (h1 : w.length + (partsT t).length < 5000) (h2 : tx.length < 5000) (hh : headOk t = true) (hp : (partsT t).length ≠ 0) :
    showM (f + 1) ((t, false) :: w) tx = showM f ((partsT t).map (·, false) ++ (t, true) :: w) tx := by
  rw [showM, blt5 h1, blt5 h2, hh]
  simp [hp]
theorem show_join {f : Nat} {t : Tr} {r : Bool} {w : List (Tr × Bool)} {tx ps : List (List Nat)} (h1 : w.length + (partsT t).length < 5000) (h2 : tx.length + ps.length < 5000) (hh : headOk t = true) (hp : (partsT t).length = ps.length) (hr : (r || decide ((partsT t).length = 0)) = true) (hs : sOk t ps = true) :
    showM (f + 1) ((t, r) :: w) (tx ++ ps) = showM f w (tx ++ [sPart t ps]) := by
  have e : (tx ++ ps).length - (partsT t).length = tx.length := by rw [List.length_append, hp]; omega
  have h2' : (tx ++ ps).length < 5000 := by rw [List.length_append]; exact h2
  rw [showM, blt5 h1, blt5 h2', hh, if_pos (show (true && true && true) = true from rfl), if_pos hr, e, List.drop_left, List.take_left, if_pos]
  rw [Bool.and_eq_true]
  exact ⟨Nat.ble_eq_true_of_le (by rw [hp, List.length_append]; omega), hs⟩
theorem len1 (x : List Nat) : lenS2 [x] = x.length + 1 := by simp [lenS2]
theorem len2 (x y : List Nat) : lenS2 [x, y] = x.length + y.length + 2 := by simp [lenS2]; omega
theorem sok_un {k : List Nat} {t : Tr} {x : List Nat} (hh : headOk (.un k t) = true) (h : x.length ≤ 1000) : sOk (.un k t) [x] = true := by
  unfold sOk; rw [hh, len1, blt5 (show x.length + 1 < 5000 by omega)]; rfl
theorem sok_app1 {k w : List Nat} {a : Tr} {x : List Nat} (hk : isApp k = true) (hw : w.length ≤ 6) (h : x.length ≤ 1000) : sOk (.app k w [a]) [x] = true := by
  unfold sOk; rw [show headOk (.app k w [a]) = true from hk, len1, blt5 (show x.length + 1 < 5000 by omega)]; exact blt5 (show w.length < 1000 by omega)
theorem sok_app2 {k w : List Nat} {a b : Tr} {x y : List Nat} (hk : isApp k = true) (hw : w.length ≤ 6) (h : x.length ≤ 1000) (h' : y.length ≤ 1000) : sOk (.app k w [a, b]) [x, y] = true := by
  unfold sOk; rw [show headOk (.app k w [a, b]) = true from hk, len2, blt5 (show x.length + y.length + 2 < 5000 by omega)]; exact blt5 (show w.length < 1000 by omega)
theorem sok_two {w : List Nat} {a b : Tr} {x y : List Nat} (hw : w.length ≤ 3) (h : x.length ≤ 1000) (h' : y.length ≤ 1000) : sOk (.two w a b) [x, y] = true := by
  unfold sOk; rw [show headOk (.two w a b) = true from rfl, len2, blt5 (show x.length + y.length + 2 < 5000 by omega)]; exact blt5 (show w.length < 1000 by omega)
theorem show_Sh {n : Nat} {t : Tr} {x : List Nat} {ts : Toks} (h : Sh n t x ts) : x.length ≤ 1000 → ∃ m, ∀ f w tx, w.length + 3 * n < 4000 → tx.length + 3 * n < 4000 → showM (f + m) ((t, false) :: w) tx = showM f w (tx ++ [x]) := by
  have lo : (T "(").length = 1 := rfl
  have lc : (T ")").length = 1 := rfl
  have lm : (T ",").length = 1 := rfl
  have lb : (T " ").length = 1 := rfl
  induction h with
  | @leaf n t k x h =>
    intro _
    have hp : partsT t = [] := by cases t <;> first | rfl | cases h
    have hs : sPart t [] = leafT t := by cases t <;> first | rfl | cases h
    have hh : headOk t = true := by cases t <;> first | rfl | cases h
    have ho : sOk t [] = true := by
      unfold sOk
      rw [hh]
      cases t <;> first | exact h | cases h
    refine ⟨1, fun f w tx h1 h2 => ?_⟩
    have := show_join (f := f) (r := false) (w := w) (tx := tx) (ps := []) (t := t) (by rw [hp]; simp; omega) (by simp; omega) hh (by rw [hp]; rfl) (by rw [hp]; rfl) ho
    rwa [List.append_nil, hs] at this
  | @app0 n k w kd hk hw =>
    intro _
    refine ⟨1, fun f w' tx h1 h2 => ?_⟩
    have hs : sPart (.app k w []) [] = w := by
      show w ++ (if 0 < 0 then _ else T "") = w
      rw [if_neg (Nat.lt_irrefl 0)]; exact List.append_nil w
    have := show_join (f := f) (r := false) (w := w') (tx := tx) (ps := []) (t := .app k w []) (by simp [partsT]; omega) (by simp; omega) hk rfl rfl (by unfold sOk; simp only [headOk, hk]; exact blt5 (by omega))
    rwa [List.append_nil, hs] at this
  | @un n k o tk t x ts hk h ih =>
    intro hx
    simp only [List.length_append] at hx
    obtain ⟨m, ih⟩ := ih (by omega)
    have hh : headOk (.un k t) = true := by rcases hk with ⟨rfl, _⟩ | ⟨rfl, _⟩ <;> kernel_rfl
    have hs : sPart (.un k t) [x] = T "(" ++ o ++ x ++ T ")" := by
      rcases hk with ⟨rfl, rfl, _⟩ | ⟨rfl, rfl, _⟩
      · show T "(" ++ (if T "neg" = T "neg" then T "-" else T "NOT ") ++ x ++ T ")" = _
        rw [if_pos rfl]
      · show T "(" ++ (if T "not" = T "neg" then T "-" else T "NOT ") ++ x ++ T ")" = _
        rw [if_neg (by decide)]
    refine ⟨m + 2, fun f w tx h1 h2 => ?_⟩
    rw [show f + (m + 2) = (f + 1 + m) + 1 by omega, show_push (t := .un k t) (w := w) (tx := tx) (show w.length + 1 < 5000 by omega) (show tx.length < 5000 by omega) hh (show 1 ≠ 0 by decide)]
    show showM (f + 1 + m) ((t, false) :: (.un k t, true) :: w) tx = _
    rw [ih _ _ _ (by simp only [List.length_cons]; omega) (by omega), show_join (t := .un k t) (w := w) (ps := [x]) (tx := tx) (show w.length + 1 < 5000 by omega) (show tx.length + 1 < 5000 by omega) hh rfl rfl (sok_un hh (by omega)), hs]
  | @app1 n k w kd a x ts hk hw h ih =>
    intro hx
    simp only [List.length_append] at hx
    obtain ⟨m, ih⟩ := ih (by omega)
    have hs : sPart (.app k w [a]) [x] = w ++ (T "(" ++ x ++ T ")") := rfl
    refine ⟨m + 2, fun f w' tx h1 h2 => ?_⟩
    rw [show f + (m + 2) = (f + 1 + m) + 1 by omega, show_push (t := .app k w [a]) (w := w') (tx := tx) (show w'.length + 1 < 5000 by omega) (show tx.length < 5000 by omega) hk (show 1 ≠ 0 by decide)]
    show showM (f + 1 + m) ((a, false) :: (.app k w [a], true) :: w') tx = _
    rw [ih _ _ _ (by simp only [List.length_cons]; omega) (by omega), show_join (t := .app k w [a]) (w := w') (ps := [x]) (tx := tx) (show w'.length + 1 < 5000 by omega) (show tx.length + 1 < 5000 by omega) hk rfl rfl (sok_app1 hk hw (by omega)), hs]
  | @app2 n k w kd a b x y ts us hk hw h h' ih ih' =>
    intro hx
    simp only [List.length_append] at hx
    obtain ⟨m, ih⟩ := ih (by omega)
    obtain ⟨m', ih'⟩ := ih' (by omega)
    have hs : sPart (.app k w [a, b]) [x, y] = w ++ (T "(" ++ (x ++ T "," ++ y) ++ T ")") := by
      show w ++ (T "(" ++ (x ++ T "," ++ y) ++ T ")") = _
      rfl
    refine ⟨m + m' + 2, fun f w' tx h1 h2 => ?_⟩
    rw [show f + (m + m' + 2) = (f + 1 + m' + m) + 1 by omega, show_push (t := .app k w [a, b]) (w := w') (tx := tx) (show w'.length + 2 < 5000 by omega) (show tx.length < 5000 by omega) hk (show 2 ≠ 0 by decide)]
    show showM (f + 1 + m' + m) ((a, false) :: (b, false) :: (.app k w [a, b], true) :: w') tx = _
    rw [ih _ _ _ (by simp only [List.length_cons]; omega) (by omega), ih' _ _ _ (by simp only [List.length_cons]; omega) (by simp only [List.length_append, List.length_cons, List.length_nil]; omega), List.append_assoc, List.singleton_append]
    rw [show_join (t := .app k w [a, b]) (w := w') (ps := [x, y]) (tx := tx) (show w'.length + 2 < 5000 by omega) (show tx.length + 2 < 5000 by omega) hk rfl rfl (sok_app2 hk hw (by omega) (by omega)), hs]
  | @two n w kd a b x y ts us hw h h' ih ih' =>
    intro hx
    simp only [List.length_append] at hx
    obtain ⟨m, ih⟩ := ih (by omega)
    obtain ⟨m', ih'⟩ := ih' (by omega)
    have hs : sPart (.two w a b) [x, y] = T "(" ++ x ++ T " " ++ w ++ T " " ++ y ++ T ")" := rfl
    refine ⟨m + m' + 2, fun f w' tx h1 h2 => ?_⟩
    rw [show f + (m + m' + 2) = (f + 1 + m' + m) + 1 by omega, show_push (t := .two w a b) (w := w') (tx := tx) (show w'.length + 2 < 5000 by omega) (show tx.length < 5000 by omega) rfl (show 2 ≠ 0 by decide)]
    show showM (f + 1 + m' + m) ((a, false) :: (b, false) :: (.two w a b, true) :: w') tx = _
    rw [ih _ _ _ (by simp only [List.length_cons]; omega) (by omega), ih' _ _ _ (by simp only [List.length_cons]; omega) (by simp only [List.length_append, List.length_cons, List.length_nil]; omega), List.append_assoc, List.singleton_append]
    rw [show_join (t := .two w a b) (w := w') (ps := [x, y]) (tx := tx) (show w'.length + 2 < 5000 by omega) (show tx.length + 2 < 5000 by omega) rfl rfl rfl (sok_two hw (by omega) (by omega)), hs]
end
-- text P39
section
variable {c : Cx}
noncomputable def NoOpen (post : Toks) : Prop := ∀ x r, post = x :: r → x ≠ (T "sign", T "(")
theorem runM_operand {P : Params} {ts : Toks} {f i i' : Nat} {st st' : List AL} {w : Bool} (h : operandM P ts i st = some (st', i', w)) (hl : st'.length ≤ 61) :
    runM P ts (f + 1) st i (T "operand") = runM P ts f st' i' (if w then T "operator" else T "operand") := by
  rw [runM, if_neg (by decide), if_pos rfl, h]
  show (if st'.length ≤ 61 then _ else _) = _
  rw [if_pos hl]
theorem runM_operator {P : Params} {ts : Toks} {f i i' : Nat} {st st' : List AL} {due : List Nat} (h : operatorM P ts i st = some (st', i', due)) (hl : st'.length ≤ 61) :
    runM P ts (f + 1) st i (T "operator") = runM P ts f st' i' due := by
  rw [runM, if_neg (by decide), if_neg (by decide), h]
  show (if st'.length ≤ 61 then _ else _) = _
  rw [if_pos hl]
theorem plainM_sign {P : Params} {ts : Toks} {i : Nat} (h : (tokG ts i).1 = T "sign") : plainM P ts i = some Option.none := by
  unfold plainM
  rw [h, if_neg (by decide), if_neg (by decide)]
  split
  · rfl
  · rw [if_neg (by decide), if_neg (by rw [show decide (T "sign" = T "word") = false by decide, Bool.false_and]; decide)]
theorem plainM_not {P : Params} {ts : Toks} {i : Nat} (h : (tokG ts i).1 = T "word") (hn : (noArgs P).contains (tokG ts i).2 = false) : plainM P ts i = some Option.none := by
  unfold plainM
  rw [h, hn, if_neg (by decide), if_neg (by decide)]
  split
  · rfl
  · rw [if_neg (by decide), if_neg (by rw [Bool.and_false]; decide)]
theorem operandM_open {P : Params} {ts : Toks} {i : Nat} {st : List AL} (h : tokG ts i = (T "sign", T "(")) (hl : st.length ≤ 60) : operandM P ts i st = some (⟨T "group", T "", [], [], []⟩ :: st, i + 1, false) := by
  unfold operandM
  rw [plainM_sign (by rw [h]), h]
  dsimp only
  rw [if_neg (by decide), if_neg (by decide), if_pos (by decide), if_pos hl]
theorem operandM_neg {P : Params} {ts : Toks} {i : Nat} {a : AL} {r : List AL} (h : tokG ts i = (T "sign", T "-")) : operandM P ts i (a :: r) = some (⟨a.kd, a.wd, a.as, a.ts, (T "neg", 12) :: a.ops⟩ :: r, i + 1, false) := by
  unfold operandM
  rw [plainM_sign (by rw [h]), h]
  dsimp only
  rw [if_pos (by decide)]
theorem operandM_not {P : Params} {ts : Toks} {i : Nat} {a : AL} {r : List AL} (h : tokG ts i = (T "word", T "NOT")) (hn : (noArgs P).contains (T "NOT") = false) : operandM P ts i (a :: r) = some (⟨a.kd, a.wd, a.as, a.ts, (T "not", 6) :: a.ops⟩ :: r, i + 1, false) := by
  unfold operandM
  rw [plainM_not (by rw [h]) (by rw [h]; exact hn), h]
  dsimp only
  rw [if_neg (by decide), if_pos (by decide)]
theorem operandM_plain {P : Params} {ts : Toks} {i : Nat} {a : AL} {r : List AL} {t : Tr} (h : plainM P ts i = some (some t)) : operandM P ts i (a :: r) = some (⟨a.kd, a.wd, a.as, t :: a.ts, a.ops⟩ :: r, i + 1, true) := by
  unfold operandM
  rw [h]
theorem operatorM_op {P : Params} {ts : Toks} {i s : Nat} {a : AL} {r : List AL} {k w : List Nat} (h : tokG ts i = (k, w)) (hk : [T "sign", T "word"].contains k = true) (hs : strD P w = some (.int (s : Int))) {ts' : List Tr} {ops' : List Op} (hj : joinM s a.ts a.ops = some (ts', ops')) :
    operatorM P ts i (a :: r) = some (⟨a.kd, a.wd, a.as, ts', (w, s) :: ops'⟩ :: r, i + 1, T "operand") := by
  unfold operatorM
  dsimp only
  rw [h, hk, hs, if_pos (show (true && (some (PV.int (s : Int))).isSome) = true from rfl)]
  show (match joinM s a.ts a.ops with | some (ts', ops') => some ((⟨a.kd, a.wd, a.as, ts', (w, s) :: ops'⟩ : AL) :: r, i + 1, T "operand") | Option.none => Option.none) = _
  rw [hj]
theorem operatorM_close {P : Params} {ts : Toks} {i : Nat} {a b : AL} {r : List AL} {t : Tr} {ts' : List Tr} {ops' : List Op} (h : tokG ts i = (T "sign", T ")")) (hs : strD P (T ")") = Option.none) (hk : a.kd ≠ T "top") (hj : joinM 0 a.ts a.ops = some (t :: ts', ops')) :
    operatorM P ts i (a :: b :: r) = some (⟨b.kd, b.wd, b.as, finM a.kd a.wd a.as t :: b.ts, b.ops⟩ :: r, i + 1, T "operator") := by
  unfold operatorM isSg
  dsimp only
  rw [h, hs, if_neg (by decide), if_neg hk, if_neg (by rw [show decide (T ")" = T ",") = false by decide, Bool.false_and, Bool.and_false]; decide), if_pos (by decide)]
  rw [hj]
theorem operatorM_comma {P : Params} {ts : Toks} {i : Nat} {a : AL} {r : List AL} {t : Tr} {ts' : List Tr} {ops' : List Op} (h : tokG ts i = (T "sign", T ",")) (hs : strD P (T ",") = Option.none) (hk : a.kd ≠ T "top") (hg : a.kd ≠ T "group") (hj : joinM 0 a.ts a.ops = some (t :: ts', ops')) :
    operatorM P ts i (a :: r) = some (⟨a.kd, a.wd, a.as ++ [t], ts', ops'⟩ :: r, i + 1, T "operand") := by
  unfold operatorM
  dsimp only
  rw [h, hs, if_neg (by decide), if_neg hk, if_pos (by simp [hg]), hj]
end
-- text P40
section
variable {c : Cx}
theorem operandM_head {P : Params} {ts : Toks} {i : Nat} {st : List AL} {k w : List Nat} (h : tokG ts i = (k, w)) (h' : tokG ts (i + 1) = (T "sign", T "(")) (hk : k = T "name" ∨ (k = T "word" ∧ w ≠ T "NOT" ∧ (fwords P).contains w = true)) (hl : st.length ≤ 60) :
    operandM P ts i st = some (⟨opKd k w, w, [], [], []⟩ :: st, i + 1 + 1, false) := by
  have hs : isSg ts (i + 1) (T "(") = true := by unfold isSg; rw [h']; decide
  have hp : plainM P ts i = some Option.none := by
    unfold plainM
    rw [h, hs]
    dsimp only
    rcases hk with rfl | ⟨rfl, _⟩
    · rw [if_neg (by decide), if_neg (by decide), if_pos rfl]
    · rw [if_neg (by decide), if_neg (by decide), if_pos rfl]
  unfold operandM
  rw [hp, h, hs]
  dsimp only
  rcases hk with rfl | ⟨rfl, hn, hf⟩
  · rw [if_neg (by rw [show decide (T "name" = T "sign") = false by decide, Bool.false_and]; decide), if_neg (by rw [show decide (T "name" = T "word") = false by decide, Bool.false_and]; decide), if_neg (by rw [show decide (T "name" = T "sign") = false by decide, Bool.false_and]; decide), if_pos (by rw [show decide (T "name" = T "name") = true by decide, Bool.true_or]), if_pos (by rw [Bool.true_and]; exact decide_eq_true hl)]
  · rw [if_neg (by rw [show decide (T "word" = T "sign") = false by decide, Bool.false_and]; decide), if_neg (by rw [decide_eq_false hn, Bool.and_false]; decide), if_neg (by rw [show decide (T "word" = T "sign") = false by decide, Bool.false_and]; decide), if_pos (by rw [hf, show decide (T "word" = T "name") = false by decide, show decide (T "word" = T "word") = true by decide]; rfl), if_pos (by rw [Bool.true_and]; exact decide_eq_true hl)]
inductive PSh (P : Params) : Nat → Tr → Toks → Prop
  | leaf {n : Nat} {t : Tr} {x : List Nat × List Nat} : (∀ (all post : Toks) (i : Nat), all.drop i = x :: post → NoOpen post → plainM P all i = some (some t)) → PSh P n t [x]
  | un {n s : Nat} {k : List Nat} {tk : List Nat × List Nat} {t : Tr} {ts : Toks} : (k = T "neg" ∧ s = 12 ∧ tk = (T "sign", T "-")) ∨ (k = T "not" ∧ s = 6 ∧ tk = (T "word", T "NOT")) → PSh P n t ts →
      PSh P (n + 1) (.un k t) ((T "sign", T "(") :: tk :: (ts ++ [(T "sign", T ")")]))
  | app1 {n : Nat} {k w kd : List Nat} {a : Tr} {ts : Toks} : (kd = T "name" ∨ (kd = T "word" ∧ w ≠ T "NOT" ∧ (fwords P).contains w = true)) → opKd kd w = k → isPlainLevel k = false → PSh P n a ts →
      PSh P (n + 1) (.app k w [a]) ((kd, w) :: (T "sign", T "(") :: (ts ++ [(T "sign", T ")")]))
  | app2 {n : Nat} {k w kd : List Nat} {a b : Tr} {ts us : Toks} : (kd = T "name" ∨ (kd = T "word" ∧ w ≠ T "NOT" ∧ (fwords P).contains w = true)) → opKd kd w = k → isPlainLevel k = false → PSh P n a ts → PSh P n b us →
      PSh P (n + 1) (.app k w [a, b]) ((kd, w) :: (T "sign", T "(") :: (ts ++ (T "sign", T ",") :: (us ++ [(T "sign", T ")")])))
  | two {n s : Nat} {w kd : List Nat} {a b : Tr} {ts us : Toks} : [T "sign", T "word"].contains kd = true → (kd, w) ≠ (T "sign", T "(") → strD P w = some (.int (s : Int)) → isUn w = false → PSh P n a ts → PSh P n b us →
      PSh P (n + 1) (.two w a b) ((T "sign", T "(") :: (ts ++ (kd, w) :: (us ++ [(T "sign", T ")")])))
theorem tokG_drop {all post : Toks} {i : Nat} {x : List Nat × List Nat} (h : all.drop i = x :: post) : tokG all i = x := by
  unfold tokG
  have : all[i]? = some x := by rw [← List.head?_drop, h]; rfl
  rw [this]; rfl
theorem drop_next {all post : Toks} {i : Nat} {x : List Nat × List Nat} (h : all.drop i = x :: post) : all.drop (i + 1) = post := by
  rw [← List.drop_drop, h]; rfl
theorem drop_app {all ts post : Toks} {i : Nat} (h : all.drop i = ts ++ post) : all.drop (i + ts.length) = post := by
  rw [← List.drop_drop, h, List.drop_left]
theorem noOpen_close {post : Toks} : NoOpen ((T "sign", T ")") :: post) := by
  intro x r e; cases e; decide
theorem parse_PSh {P : Params} (c1 : (noArgs P).contains (T "NOT") = false) (c2 : strD P (T ")") = Option.none) (c3 : strD P (T ",") = Option.none) {n : Nat} {t : Tr} {ts : Toks} (h : PSh P n t ts) :
    ∃ m, m ≤ ts.length ∧ ∀ f i all post a r, all.drop i = ts ++ post → NoOpen post → r.length + n ≤ 59 → runM P all (f + m) (a :: r) i (T "operand") = runM P all f (⟨a.kd, a.wd, a.as, t :: a.ts, a.ops⟩ :: r) (i + ts.length) (T "operator") := by
  induction h with
  | @leaf n t x h =>
    refine ⟨1, Nat.le_refl _, fun f i all post a r hd hn hl => ?_⟩
    rw [runM_operand (operandM_plain (h all post i hd hn)) (by simp; omega)]
    rfl
  | @un n s k tk t ts hk h ih =>
    obtain ⟨m, hm, ih⟩ := ih
    refine ⟨m + 3, by simp; omega, fun f i all post a r hd hn hl => ?_⟩
    have d0 : all.drop i = (T "sign", T "(") :: (tk :: (ts ++ ((T "sign", T ")") :: post))) := by rw [hd]; simp
    have d1 := drop_next d0
    have d2 := drop_next d1
    have d3 := drop_app d2
    have o2 : operandM P all (i + 1) (⟨T "group", T "", [], [], []⟩ :: a :: r) = some (⟨T "group", T "", [], [], [(k, s)]⟩ :: a :: r, i + 1 + 1, false) := by
      rcases hk with ⟨rfl, rfl, rfl⟩ | ⟨rfl, rfl, rfl⟩
      · exact operandM_neg (tokG_drop d1)
      · exact operandM_not (tokG_drop d1) c1
    have hu : isUn k = true := by rcases hk with ⟨rfl, _⟩ | ⟨rfl, _⟩ <;> decide
    rw [show f + (m + 3) = (f + 1 + m + 1) + 1 by omega, runM_operand (operandM_open (tokG_drop d0) (by simp; omega)) (by simp; omega)]
    show runM P all (f + 1 + m + 1) _ (i + 1) (T "operand") = _
    rw [runM_operand o2 (by simp; omega)]
    show runM P all (f + 1 + m) _ (i + 1 + 1) (T "operand") = _
    rw [ih _ _ _ _ _ _ d2 noOpen_close (by simp; omega)]
    rw [runM_operator (operatorM_close (ts' := []) (ops' := []) (t := .un k t) (tokG_drop d3) c2 (show T "group" ≠ T "top" by decide) (by
      show joinM 0 [t] [(k, s)] = _
      rw [joinM, if_pos (Nat.zero_le _), hu]; rfl)) (by simp; omega)]
    rw [show i + 1 + 1 + ts.length + 1 = i + ((T "sign", T "(") :: tk :: (ts ++ [(T "sign", T ")")])).length by simp; omega]
    rfl
  | @app1 n k w kd a0 ts hk ho hp h ih =>
    obtain ⟨m, hm, ih⟩ := ih
    refine ⟨m + 2, by simp; omega, fun f i all post a r hd hn hl => ?_⟩
    have d0 : all.drop i = (kd, w) :: ((T "sign", T "(") :: (ts ++ ((T "sign", T ")") :: post))) := by rw [hd]; simp
    have d1 := drop_next d0
    have d2 := drop_next d1
    have d3 := drop_app d2
    have hk1 : k ≠ T "top" := by rintro rfl; exact absurd hp (by decide)
    rw [show f + (m + 2) = (f + 1 + m) + 1 by omega, runM_operand (operandM_head (tokG_drop d0) (tokG_drop d1) hk (by simp; omega)) (by simp; omega), ho]
    show runM P all (f + 1 + m) _ (i + 1 + 1) (T "operand") = _
    rw [ih _ _ _ _ _ _ d2 noOpen_close (by simp; omega)]
    rw [runM_operator (operatorM_close (ts' := []) (ops' := []) (t := a0) (tokG_drop d3) c2 hk1 rfl) (by simp; omega)]
    rw [show i + 1 + 1 + ts.length + 1 = i + ((kd, w) :: (T "sign", T "(") :: (ts ++ [(T "sign", T ")")])).length by simp; omega]
    show runM P all f (⟨a.kd, a.wd, a.as, finM k w [] a0 :: a.ts, a.ops⟩ :: r) _ _ = _
    unfold finM
    rw [hp]
    rfl
  | @app2 n k w kd a0 b0 ts us hk ho hp h h' ih ih' =>
    obtain ⟨m, hm, ih⟩ := ih
    obtain ⟨m', hm', ih'⟩ := ih'
    refine ⟨m + m' + 3, by simp; omega, fun f i all post a r hd hn hl => ?_⟩
    have d0 : all.drop i = (kd, w) :: ((T "sign", T "(") :: (ts ++ ((T "sign", T ",") :: (us ++ ((T "sign", T ")") :: post))))) := by rw [hd]; simp
    have d1 := drop_next d0
    have d2 := drop_next d1
    have d3 := drop_app d2
    have d4 := drop_next d3
    have d5 := drop_app d4
    have hk1 : k ≠ T "top" := by rintro rfl; exact absurd hp (by decide)
    have hk2 : k ≠ T "group" := by rintro rfl; exact absurd hp (by decide)
    rw [show f + (m + m' + 3) = (f + 1 + m' + 1 + m) + 1 by omega, runM_operand (operandM_head (tokG_drop d0) (tokG_drop d1) hk (by simp; omega)) (by simp; omega), ho]
    show runM P all (f + 1 + m' + 1 + m) _ (i + 1 + 1) (T "operand") = _
    rw [ih _ _ _ _ _ _ d2 (by intro x r e; cases e; decide) (by simp; omega)]
    rw [runM_operator (operatorM_comma (ts' := []) (ops' := []) (t := a0) (tokG_drop d3) c3 hk1 hk2 rfl) (by simp; omega)]
    rw [ih' _ _ _ _ _ _ d4 noOpen_close (by simp; omega)]
    rw [runM_operator (operatorM_close (ts' := []) (ops' := []) (t := b0) (tokG_drop d5) c2 hk1 rfl) (by simp; omega)]
    rw [show i + 1 + 1 + ts.length + 1 + us.length + 1 = i + ((kd, w) :: (T "sign", T "(") :: (ts ++ (T "sign", T ",") :: (us ++ [(T "sign", T ")")]))).length by simp; omega]
    show runM P all f (⟨a.kd, a.wd, a.as, finM k w ([] ++ [a0]) b0 :: a.ts, a.ops⟩ :: r) _ _ = _
    unfold finM
    rw [hp]
    rfl
  | @two n s w kd a0 b0 ts us hk hne hs hu h h' ih ih' =>
    obtain ⟨m, hm, ih⟩ := ih
    obtain ⟨m', hm', ih'⟩ := ih'
    refine ⟨m + m' + 3, by simp; omega, fun f i all post a r hd hn hl => ?_⟩
    have d0 : all.drop i = (T "sign", T "(") :: (ts ++ ((kd, w) :: (us ++ ((T "sign", T ")") :: post)))) := by rw [hd]; simp
    have d1 := drop_next d0
    have d2 := drop_app d1
    have d3 := drop_next d2
    have d4 := drop_app d3
    rw [show f + (m + m' + 3) = (f + 1 + m' + 1 + m) + 1 by omega, runM_operand (operandM_open (tokG_drop d0) (by simp; omega)) (by simp; omega)]
    show runM P all (f + 1 + m' + 1 + m) _ (i + 1) (T "operand") = _
    rw [ih _ _ _ _ _ _ d1 (by intro x r e; cases e; exact hne) (by simp; omega)]
    rw [runM_operator (operatorM_op (ts' := [a0]) (ops' := []) (tokG_drop d2) hk hs rfl) (by simp; omega)]
    rw [ih' _ _ _ _ _ _ d3 noOpen_close (by simp; omega)]
    rw [runM_operator (operatorM_close (ts' := []) (ops' := []) (t := .two w a0 b0) (tokG_drop d4) c2 (show T "group" ≠ T "top" by decide) (by
      show joinM 0 [b0, a0] [(w, s)] = _
      rw [joinM, if_pos (Nat.zero_le _), hu]; rfl)) (by simp; omega)]
    rw [show i + 1 + ts.length + 1 + us.length + 1 = i + ((T "sign", T "(") :: (ts ++ (kd, w) :: (us ++ [(T "sign", T ")")]))).length by simp; omega]
    rfl
end
-- text P41
section
variable {c : Cx}
theorem expr_PSh {P : Params} (c1 : (noArgs P).contains (T "NOT") = false) (c2 : strD P (T ")") = Option.none) (c3 : strD P (T ",") = Option.none) {n : Nat} {t : Tr} {ts : Toks} (h : PSh P n t ts) (hn : n ≤ 59) (hl : ts.length ≤ 900) :
    ∃ f, f ≤ 1000 ∧ exprM P ts f = some (t, ts.length) := by
  obtain ⟨m, hm, h⟩ := parse_PSh c1 c2 c3 h
  refine ⟨2 + m, by omega, ?_⟩
  have h1 := h 2 0 ts [] ⟨T "top", T "", [], [], []⟩ [] (by simp) (by intro x r e; cases e) (by simp; omega)
  have e0 : tokG ts ts.length = (T "end", T "") := by unfold tokG; rw [List.getElem?_eq_none (Nat.le_refl _)]; rfl
  have h2 : operatorM P ts ts.length [⟨T "top", T "", [], [t], []⟩] = some ([⟨T "top", T "", [], [t], []⟩], ts.length, T "end") := by
    unfold operatorM
    dsimp only
    rw [e0, if_neg (by rw [show [T "sign", T "word"].contains (T "end") = false by decide, Bool.false_and]; decide), if_pos rfl]
  rw [Nat.zero_add] at h1
  unfold exprM
  rw [h1, runM_operator h2 (by simp), runM, if_pos rfl]
  rfl
end
-- text P42
section
variable {c : Cx}
inductive Fol : List Nat → Prop
  | nil : Fol []
  | blank {r : List Nat} : Fol (32 :: r)
  | close {r : List Nat} : Fol (41 :: r)
  | comma {r : List Nat} : Fol (44 :: r)
noncomputable def K0 : List Nat := T "0123456789\"(ABCDFMP"
noncomputable def startK (k : Nat) : Bool := K0.contains k
theorem k0_all {q : Nat → Bool} (h : K0.all q = true) {k : Nat} (hk : startK k = true) : q k = true :=
  List.all_eq_true.mp h k (List.contains_iff_mem.mp hk)
theorem k0_blank {k : Nat} (hk : startK k = true) {r : List Nat} : nblank (k :: r) = 0 := by
  have h : decide (k ∈ T " \t") = false := by
    have := k0_all (q := fun k => !decide (k ∈ T " \t")) (by kernel_rfl) hk
    simpa using this
  rw [nblank, if_neg (by rw [h]; decide)]
theorem Lx.one {row d : List Nat} {ts' : List PV} {k x : List Nat} {m : Nat} (h : TokAt c row d [tk k x] m) (hm : 0 < m) (hd : d ≠ []) (h' : Lx c row ((d.drop m).drop (nblank (d.drop m))) ts') : Lx c row d (tk k x :: ts') :=
  Lx.cons (ts := [tk k x]) h hm hd (Nat.le_refl _) rfl h'
structure Lexes (c : Cx) (x : List Nat) (ts : Toks) : Prop where
  start : ∃ k r, x = k :: r ∧ startK k = true
  lex : ∀ row rest ts', row.length < 10000 → Fol rest → Lx c row (rest.drop (nblank rest)) ts' → Lx c row (x ++ rest) (tokL ts ++ ts')
theorem Lexes.nb {x : List Nat} {ts : Toks} (h : Lexes c x ts) (r : List Nat) : (x ++ r).drop (nblank (x ++ r)) = x ++ r := by
  obtain ⟨k, s, rfl, hk⟩ := h.start
  rw [List.cons_append, k0_blank hk]; rfl
noncomputable def NumLex (s x : List Nat) : Prop := ∀ rest, Fol rest → ∀ pl, numM pl (s ++ rest) = some (x, s.length)
theorem lexes_num (G : Pg c) {k : Nat} {r x : List Nat} (hk : startK k = true) (hf : figB [k] = true) (h : NumLex (k :: r) x) : Lexes c (k :: r) [(T "number", x)] := by
  refine ⟨⟨k, r, rfl, hk⟩, fun row rest ts' hz hr hl => ?_⟩
  refine Lx.one (m := (k :: r).length) (tok_number G hz (by unfold startsNum; rw [hf]; rfl) (fun at_ _ => h rest hr _)) (by simp) (by simp) ?_
  show Lx c row ((((k :: r) ++ rest).drop (k :: r).length).drop (nblank (((k :: r) ++ rest).drop (k :: r).length))) ts'
  rw [List.drop_left]; exact hl
theorem lx_word (G : Pg c) {k : Nat} {r rest row : List Nat} {kd : List Nat} {ts' : List PV} (hz : row.length < 10000) (h0 : figB [k] = false) (h1 : decide ([k] = T ".") = false) (hl : letB [k] = true) (hm : nameM ((k :: r) ++ rest) = (k :: r).length)
    (hc : (k :: r).map cap1 = k :: r) (n1 : k :: r ≠ T "REM") (n2 : k :: r ≠ T "DATA") (hw : (if isWord c.w.params (k :: r) then T "word" else T "name") = kd)
    (h : Lx c row (rest.drop (nblank rest)) ts') : Lx c row ((k :: r) ++ rest) (tk kd (k :: r) :: ts') := by
  subst hw
  have e : ((k :: r) ++ rest).take (k :: r).length = k :: r := List.take_left
  refine Lx.one (m := (k :: r).length) (tok_word G (r := r ++ rest) hz (by unfold startsNum; rw [h0, h1]; rfl) hl hm (by show (((k :: r) ++ rest).take (k :: r).length).map cap1 = _; rw [e, hc]) n1 n2) (by simp) (by simp) ?_
  rw [List.drop_left]; exact h
theorem lexes_text (G : Pg c) {x : List Nat} (hn : 34 ∉ x) : Lexes c (quo x) [(T "text", x)] := by
  have e : ∀ rest, quo x ++ rest = 34 :: (x ++ 34 :: rest) := fun rest => by
    show ([34] ++ x ++ [34]) ++ rest = _
    simp
  refine ⟨⟨34, x ++ [34], by have := e []; simpa using this, by decide⟩, fun row rest ts' hz hr h => ?_⟩
  rw [e]
  refine Lx.one (m := x.length + 2) (tok_text G hz hn) (by omega) (by simp) ?_
  have d : (34 :: (x ++ 34 :: rest)).drop (x.length + 2) = rest := by
    show ((x ++ 34 :: rest).drop (x.length + 1)) = rest
    rw [← List.drop_drop, List.drop_left]; rfl
  rw [d]; exact h
end
-- text P43
section
variable {c : Cx}
/-! what the proof asks of the program's tables: two questions, each put once -/
noncomputable def wordsYes : List (List Nat) := [T "PI", T "MID$", T "NOT", T "MOD", T "AND", T "OR", T "XOR", T "EQV", T "IMP"]
noncomputable def wordsNo : List (List Nat) := [T "A", T "B%", T "C$", T "D.1!", T "FNX$", T "FNB"]
noncomputable def facts1 (P : Params) : Bool := wordsYes.all (isWord P) && wordsNo.all (fun x => !isWord P x) && (fwords P).contains (T "MID$")
/-! cutting a text at one sign, by structure: Txt.split runs long in the kernel -/
noncomputable def cutC (c : Nat) : List Nat → List (List Nat)
  | [] => [[]]
  | k :: r => bif k == c then [] :: cutC c r else match cutC c r with
    | [] => [[k]]
    | p :: ps => (k :: p) :: ps
noncomputable def gluC (c : Nat) : List (List Nat) → List Nat
  | [] => []
  | [p] => p
  | p :: q :: r => p ++ c :: gluC c (q :: r)
theorem cutC_free {c : Nat} : ∀ {p : List Nat}, c ∉ p → cutC c p = [p]
  | [], _ => rfl
  | k :: r, h => by
    have h1 : (k == c) = false := by
      rw [beq_eq_false_iff_ne]; rintro rfl; exact h (List.mem_cons_self ..)
    rw [cutC, h1, cutC_free fun m => h (List.mem_cons_of_mem _ m)]
    rfl
theorem cutC_app {c : Nat} {s : List Nat} : ∀ {p : List Nat}, c ∉ p → cutC c (p ++ c :: s) = p :: cutC c s
  | [], _ => by rw [List.nil_append, cutC, beq_self_eq_true]; rfl
  | k :: r, h => by
    have h1 : (k == c) = false := by
      rw [beq_eq_false_iff_ne]; rintro rfl; exact h (List.mem_cons_self ..)
    rw [List.cons_append, cutC, h1, cutC_app fun m => h (List.mem_cons_of_mem _ m)]
    rfl
theorem cutC_glu {c : Nat} : ∀ {ps : List (List Nat)}, ps ≠ [] → (∀ p ∈ ps, c ∉ p) → cutC c (gluC c ps) = ps
  | [], h, _ => absurd rfl h
  | [p], _, h => cutC_free (h p (List.mem_cons_self ..))
  | p :: q :: r, _, h => by
    rw [gluC, cutC_app (h p (List.mem_cons_self ..)), cutC_glu (by simp) fun x m => h x (List.mem_cons_of_mem _ m)]
theorem glu_join {c : Nat} : ∀ l : List PySem.Str, gluC c (l.map (·.cps.toList)) = (PySem.Str.join ⟨#[c]⟩ l).cps.toList
  | [] => rfl
  | [p] => rfl
  | p :: q :: r => by
    have ih := glu_join (c := c) (q :: r)
    rw [List.map_cons] at ih
    rw [List.map_cons, List.map_cons, gluC, ih]
    show _ = (p.cps ++ #[c] ++ (PySem.Str.join ⟨#[c]⟩ (q :: r)).cps).toList
    simp
theorem split_cut {c : Nat} (x : PySem.Str) : (Txt.split x ⟨#[c]⟩).map (·.cps.toList) = cutC c x.cps.toList := by
  have h := glu_join (c := c) (Txt.split x ⟨#[c]⟩)
  rw [StrLaws.join_split] at h
  rw [← h]
  refine (cutC_glu ?_ ?_).symm
  · have := split_pos x ⟨#[c]⟩
    intro e
    rw [List.map_eq_nil_iff] at e
    rw [e] at this
    simp at this
  · intro p m
    obtain ⟨y, hy, rfl⟩ := List.mem_map.mp m
    exact StrLaws.split_free x c y hy
theorem split_top (P : Params) (x : PySem.Str) : (Txt.split (S (topT P x)) (S (T " "))).map (·.cps.toList) = cutC 32 (topT P x) :=
  split_cut (c := 32) (S (topT P x))
theorem isWord_eq (P : Params) : isWord P = fun x => (cutC 32 (topT P "WORDS")).contains x || (cutC 32 (topT P "FUNCTION_WORDS")).contains x := by
  funext x
  have e1 : words P = cutC 32 (topT P "WORDS") := split_top P _
  have e2 : fwords P = cutC 32 (topT P "FUNCTION_WORDS") := split_top P _
  unfold isWord
  rw [e1, e2]
theorem facts1_ok (P : Params) : facts1 P = true := by
  have e2 : fwords P = cutC 32 (topT P "FUNCTION_WORDS") := split_top P _
  unfold facts1
  rw [isWord_eq, e2]
  kernel_rfl
noncomputable def sig9 : List Nat := T "+-*/\\^(),"
noncomputable def ord3 : List Nat := T "<=>"
noncomputable def isNatI : Option PV → Bool
  | some (.int (.ofNat _)) => true
  | _ => false
noncomputable def isTx (x : List Nat) : Option PV → Bool
  | some (.str y) => decide (y = x)
  | _ => false
noncomputable def facts2 (P : Params) : Bool :=
  sig9.all (fun k => !decide (k ∈ topT P "ORDERS") && decide (k ∈ topT P "SIGNS")) &&
  ord3.all (fun k => decide (k ∈ topT P "ORDERS") && K0.all (fun j => (pairD P ([k] ++ [j])).isNone)) &&
  [T "<>", T "<=", T ">="].all (fun x => isTx x (pairD P x))
noncomputable def facts3 (P : Params) : Bool :=
  words18.all (fun w => isNatI (strD P w)) && (strD P (T ")")).isNone && (strD P (T ",")).isNone && (noArgs P).contains (T "PI") && !(noArgs P).contains (T "NOT")
theorem facts2_ok (P : Params) : facts2 P = true := by kernel_rfl
theorem facts3_ok (P : Params) : facts3 P = true := by kernel_rfl
theorem word_yes {P : Params} {x : List Nat} (h : wordsYes.contains x = true) : isWord P x = true := by
  have := facts1_ok P
  unfold facts1 at this
  rw [Bool.and_eq_true, Bool.and_eq_true] at this
  exact List.all_eq_true.mp this.1.1 x (List.contains_iff_mem.mp h)
theorem word_no {P : Params} {x : List Nat} (h : wordsNo.contains x = true) : isWord P x = false := by
  have := facts1_ok P
  unfold facts1 at this
  rw [Bool.and_eq_true, Bool.and_eq_true] at this
  have := List.all_eq_true.mp this.1.2 x (List.contains_iff_mem.mp h)
  simpa using this
theorem fw_mid {P : Params} : (fwords P).contains (T "MID$") = true := by
  have := facts1_ok P
  unfold facts1 at this
  rw [Bool.and_eq_true] at this
  exact this.2
theorem sig_facts {P : Params} {k : Nat} (h : sig9.contains k = true) : decide (k ∈ topT P "ORDERS") = false ∧ decide (k ∈ topT P "SIGNS") = true := by
  have := facts2_ok P
  unfold facts2 at this
  rw [Bool.and_eq_true, Bool.and_eq_true] at this
  have := List.all_eq_true.mp this.1.1 k (List.contains_iff_mem.mp h)
  rw [Bool.and_eq_true] at this
  exact ⟨by simpa using this.1, this.2⟩
theorem ord_facts {P : Params} {k : Nat} (h : ord3.contains k = true) : decide (k ∈ topT P "ORDERS") = true ∧ ∀ j, startK j = true → pairD P ([k] ++ [j]) = Option.none := by
  have := facts2_ok P
  unfold facts2 at this
  rw [Bool.and_eq_true, Bool.and_eq_true] at this
  have := List.all_eq_true.mp this.1.2 k (List.contains_iff_mem.mp h)
  rw [Bool.and_eq_true] at this
  exact ⟨this.1, fun j hj => Option.isNone_iff_eq_none.mp (k0_all this.2 hj)⟩
theorem pair_facts {P : Params} {x : List Nat} (h : [T "<>", T "<=", T ">="].contains x = true) : pairD P x = some (.str x) := by
  have := facts2_ok P
  unfold facts2 at this
  rw [Bool.and_eq_true] at this
  have := List.all_eq_true.mp this.2 x (List.contains_iff_mem.mp h)
  unfold isTx at this
  split at this
  · rename_i y e
    rw [e, of_decide_eq_true this]
  · cases this
theorem str_facts {P : Params} {w : List Nat} (h : w ∈ words18) : ∃ s : Nat, strD P w = some (.int (s : Int)) := by
  have := facts3_ok P
  unfold facts3 at this
  rw [Bool.and_eq_true, Bool.and_eq_true, Bool.and_eq_true, Bool.and_eq_true] at this
  have := List.all_eq_true.mp this.1.1.1.1 w h
  unfold isNatI at this
  split at this
  · rename_i s e
    exact ⟨s, e⟩
  · cases this
theorem str_close {P : Params} : strD P (T ")") = Option.none := by
  have := facts3_ok P
  unfold facts3 at this
  rw [Bool.and_eq_true, Bool.and_eq_true, Bool.and_eq_true, Bool.and_eq_true] at this
  exact Option.isNone_iff_eq_none.mp this.1.1.1.2
theorem str_comma {P : Params} : strD P (T ",") = Option.none := by
  have := facts3_ok P
  unfold facts3 at this
  rw [Bool.and_eq_true, Bool.and_eq_true, Bool.and_eq_true, Bool.and_eq_true] at this
  exact Option.isNone_iff_eq_none.mp this.1.1.2
theorem noargs_pi {P : Params} : (noArgs P).contains (T "PI") = true := by
  have := facts3_ok P
  unfold facts3 at this
  rw [Bool.and_eq_true, Bool.and_eq_true] at this
  exact this.1.2
theorem noargs_not {P : Params} : (noArgs P).contains (T "NOT") = false := by
  have := facts3_ok P
  unfold facts3 at this
  rw [Bool.and_eq_true] at this
  simpa using this.2
end
-- text P44
section
variable {c : Cx}
/-! signs, orders, words among what follows -/
theorem nb_of {k : Nat} (h : decide (k ∈ T " \t") = false) (r : List Nat) : nblank (k :: r) = 0 := by
  rw [nblank, if_neg (by rw [h]; decide)]
theorem nb32 {y : List Nat} (h : y.drop (nblank y) = y) : ((32 :: y).drop (nblank (32 :: y))) = y := by
  rw [nblank, if_pos (by decide)]; exact h
noncomputable def sigOk (k : Nat) : Bool := !figB [k] && !decide ([k] = T ".") && !letB [k] && !decide ([k] = T "\"") && !decide ([k] = T "?") && !decide ([k] = T "'")
theorem sigOk_iff {k : Nat} (h : sigOk k = true) : figB [k] = false ∧ decide ([k] = T ".") = false ∧ letB [k] = false ∧ decide ([k] = T "\"") = false ∧ decide ([k] = T "?") = false ∧ decide ([k] = T "'") = false := by
  unfold sigOk at h
  simp only [Bool.and_eq_true, Bool.not_eq_true'] at h
  obtain ⟨⟨⟨⟨⟨f1, f2⟩, f3⟩, f4⟩, f5⟩, f6⟩ := h
  exact ⟨f1, f2, f3, f4, f5, f6⟩
theorem sigOk_sig : sig9.all sigOk = true := by kernel_rfl
theorem sigOk_ord : ord3.all sigOk = true := by kernel_rfl
theorem lx_sig (G : Pg c) {row r : List Nat} {ts' : List PV} {k : Nat} (hz : row.length < 10000) (h : sig9.contains k = true) (h' : Lx c row (r.drop (nblank r)) ts') : Lx c row (k :: r) (tk (T "sign") [k] :: ts') := by
  obtain ⟨f1, f2, f3, f4, f5, f6⟩ := sigOk_iff (List.all_eq_true.mp sigOk_sig k (List.contains_iff_mem.mp h))
  obtain ⟨o1, o2⟩ := sig_facts (P := c.w.params) h
  exact Lx.one (m := 1) (tok_sign G hz (by unfold startsNum; rw [f1, f2]; rfl) f3 f4 o1 f5 f6 o2) (by decide) (by simp) h'
theorem lx_ord1 (G : Pg c) {row y : List Nat} {ts' : List PV} {k : Nat} (hz : row.length < 10000) (h : ord3.contains k = true) (hy : ∃ j r, y = j :: r ∧ startK j = true) (h' : Lx c row y ts') : Lx c row (k :: 32 :: y) (tk (T "sign") [k] :: ts') := by
  obtain ⟨f1, f2, f3, f4, _, _⟩ := sigOk_iff (List.all_eq_true.mp sigOk_ord k (List.contains_iff_mem.mp h))
  obtain ⟨o1, o2⟩ := ord_facts (P := c.w.params) h
  obtain ⟨j, r, rfl, hj⟩ := hy
  have e0 : (j :: r).drop (nblank (j :: r)) = j :: r := by rw [k0_blank hj]; rfl
  have e : (32 :: j :: r).drop (nblank (32 :: j :: r)) = j :: r := nb32 e0
  refine Lx.one (m := 1) (tok_order G (r := 32 :: j :: r) hz (by unfold startsNum; rw [f1, f2]; rfl) f3 f4 o1 (.inr ⟨?_, rfl, rfl⟩)) (by decide) (by simp) ?_
  · rw [e]; exact o2 j hj
  · show Lx c row ((32 :: j :: r).drop (nblank (32 :: j :: r))) ts'
    rw [e]; exact h'
theorem lx_ord2 (G : Pg c) {row y : List Nat} {ts' : List PV} {k q : Nat} (hz : row.length < 10000) (h : ord3.contains k = true) (hq : decide (q ∈ T " \t") = false) (hp : [T "<>", T "<=", T ">="].contains [k, q] = true) (hy : ∃ j r, y = j :: r ∧ startK j = true) (h' : Lx c row y ts') : Lx c row (k :: q :: 32 :: y) (tk (T "sign") [k, q] :: ts') := by
  obtain ⟨f1, f2, f3, f4, _, _⟩ := sigOk_iff (List.all_eq_true.mp sigOk_ord k (List.contains_iff_mem.mp h))
  obtain ⟨o1, _⟩ := ord_facts (P := c.w.params) h
  obtain ⟨j, r, rfl, hj⟩ := hy
  have e0 : (j :: r).drop (nblank (j :: r)) = j :: r := by rw [k0_blank hj]; rfl
  have e : (32 :: j :: r).drop (nblank (32 :: j :: r)) = j :: r := nb32 e0
  have n0 := nb_of hq (32 :: j :: r)
  refine Lx.one (m := 2) (tok_order G (r := q :: 32 :: j :: r) hz (by unfold startsNum; rw [f1, f2]; rfl) f3 f4 o1 (.inl ⟨?_, by rw [n0]⟩)) (by decide) (by simp) ?_
  · rw [n0]; exact pair_facts hp
  · show Lx c row ((32 :: j :: r).drop (nblank (32 :: j :: r))) ts'
    rw [e]; exact h'
noncomputable def wordOk : List Nat → Bool
  | [] => false
  | k :: r => !figB [k] && !decide ([k] = T ".") && letB [k] && decide ((k :: r).map cap1 = k :: r) && !decide (k :: r = T "REM") && !decide (k :: r = T "DATA")
noncomputable def startW : List Nat → Bool
  | [] => false
  | k :: _ => startK k
theorem startW_iff {w : List Nat} (h : startW w = true) (y : List Nat) : ∃ k r, w ++ y = k :: r ∧ startK k = true := by
  cases w with
  | nil => cases h
  | cons k r => exact ⟨k, r ++ y, rfl, h⟩
theorem lx_w (G : Pg c) {w rest row kd : List Nat} {ts' : List PV} (hz : row.length < 10000) (ok : wordOk w = true) (hm : nameM (w ++ rest) = w.length) (hw : (if isWord c.w.params w then T "word" else T "name") = kd) (h : Lx c row (rest.drop (nblank rest)) ts') :
    Lx c row (w ++ rest) (tk kd w :: ts') := by
  cases w with
  | nil => cases ok
  | cons k r =>
    unfold wordOk at ok
    simp only [Bool.and_eq_true, Bool.not_eq_true', decide_eq_true_eq] at ok
    obtain ⟨⟨⟨⟨⟨f1, f2⟩, f3⟩, f4⟩, f5⟩, f6⟩ := ok
    exact lx_word G hz f1 f2 f3 hm f4 (of_decide_eq_false f5) (of_decide_eq_false f6) hw h
theorem lexes_w (G : Pg c) {w kd : List Nat} (hs : startW w = true) (ok : wordOk w = true) (hm : ∀ rest, Fol rest → nameM (w ++ rest) = w.length) (hw : (if isWord c.w.params w then T "word" else T "name") = kd) : Lexes c w [(kd, w)] := by
  refine ⟨by have := startW_iff hs []; simpa using this, fun _ rest _ hz hr h => lx_w G hz ok (hm rest hr) hw h⟩
theorem lx_oper (G : Pg c) {w : List Nat} (hw : w ∈ words18) : ∃ kd, [T "sign", T "word"].contains kd = true ∧ (kd, w) ≠ (T "sign", T "(") ∧
    ∀ row y ts', row.length < 10000 → (∃ j r, y = j :: r ∧ startK j = true) → Lx c row y ts' → Lx c row (w ++ 32 :: y) (tk kd w :: ts') := by
  have one : ∀ k, sig9.contains k = true → ∀ row y ts', row.length < 10000 → (∃ j r, y = j :: r ∧ startK j = true) → Lx c row y ts' → Lx c row ([k] ++ 32 :: y) (tk (T "sign") [k] :: ts') := by
    intro k hk row y ts' hz hy h
    obtain ⟨j, r, rfl, hj⟩ := hy
    show Lx c row (k :: (32 :: j :: r)) _
    exact lx_sig G hz hk (by rw [nb32 (by rw [k0_blank hj]; rfl)]; exact h)
  have wd : ∀ w : List Nat, wordsYes.contains w = true → wordOk w = true → (∀ y, nameM (w ++ 32 :: y) = w.length) → ∀ row y ts', row.length < 10000 → (∃ j r, y = j :: r ∧ startK j = true) → Lx c row y ts' → Lx c row (w ++ 32 :: y) (tk (T "word") w :: ts') := by
    intro w h1 h2 h3 row y ts' hz hy h
    obtain ⟨j, r, rfl, hj⟩ := hy
    exact lx_w G hz h2 (h3 _) (by rw [if_pos (word_yes h1)]) (by rw [nb32 (by rw [k0_blank hj]; rfl)]; exact h)
  simp only [words18, List.mem_cons, List.not_mem_nil, or_false] at hw
  rcases hw with rfl | rfl | rfl | rfl | rfl | rfl | rfl | rfl | rfl | rfl | rfl | rfl | rfl | rfl | rfl | rfl | rfl | rfl
  · exact ⟨T "sign", by decide, by decide, one 43 (by decide)⟩
  · exact ⟨T "sign", by decide, by decide, one 45 (by decide)⟩
  · exact ⟨T "sign", by decide, by decide, one 42 (by decide)⟩
  · exact ⟨T "sign", by decide, by decide, one 47 (by decide)⟩
  · exact ⟨T "sign", by decide, by decide, one 92 (by decide)⟩
  · exact ⟨T "sign", by decide, by decide, one 94 (by decide)⟩
  · exact ⟨T "word", by decide, by decide, wd _ (by decide) (by kernel_rfl) (fun y => by kernel_rfl)⟩
  · exact ⟨T "sign", by decide, by decide, fun row y ts' hz hy h => lx_ord1 G (k := 61) hz (by decide) hy h⟩
  · exact ⟨T "sign", by decide, by decide, fun row y ts' hz hy h => lx_ord2 G (k := 60) (q := 62) hz (by decide) (by decide) (by decide) hy h⟩
  · exact ⟨T "sign", by decide, by decide, fun row y ts' hz hy h => lx_ord1 G (k := 60) hz (by decide) hy h⟩
  · exact ⟨T "sign", by decide, by decide, fun row y ts' hz hy h => lx_ord1 G (k := 62) hz (by decide) hy h⟩
  · exact ⟨T "sign", by decide, by decide, fun row y ts' hz hy h => lx_ord2 G (k := 60) (q := 61) hz (by decide) (by decide) (by decide) hy h⟩
  · exact ⟨T "sign", by decide, by decide, fun row y ts' hz hy h => lx_ord2 G (k := 62) (q := 61) hz (by decide) (by decide) (by decide) hy h⟩
  · exact ⟨T "word", by decide, by decide, wd _ (by decide) (by kernel_rfl) (fun y => by kernel_rfl)⟩
  · exact ⟨T "word", by decide, by decide, wd _ (by decide) (by kernel_rfl) (fun y => by kernel_rfl)⟩
  · exact ⟨T "word", by decide, by decide, wd _ (by decide) (by kernel_rfl) (fun y => by kernel_rfl)⟩
  · exact ⟨T "word", by decide, by decide, wd _ (by decide) (by kernel_rfl) (fun y => by kernel_rfl)⟩
  · exact ⟨T "word", by decide, by decide, wd _ (by decide) (by kernel_rfl) (fun y => by kernel_rfl)⟩
theorem lx_head (G : Pg c) {h : List Nat × List Nat} (hh : h ∈ heads4) : ∃ kd, (kd = T "name" ∨ (kd = T "word" ∧ h.2 ≠ T "NOT" ∧ (fwords c.w.params).contains h.2 = true)) ∧ opKd kd h.2 = h.1 ∧ startW h.2 = true ∧
    ∀ row r ts', row.length < 10000 → Lx c row (r.drop (nblank r)) ts' → Lx c row (h.2 ++ 40 :: r) (tk kd h.2 :: tk (T "sign") (T "(") :: ts') := by
  have go : ∀ (w kd : List Nat), wordOk w = true → (∀ y, nameM (w ++ 40 :: y) = w.length) → (if isWord c.w.params w then T "word" else T "name") = kd → ∀ row r ts', row.length < 10000 → Lx c row (r.drop (nblank r)) ts' → Lx c row (w ++ 40 :: r) (tk kd w :: tk (T "sign") (T "(") :: ts') := by
    intro w kd h1 h2 h3 row r ts' hz hr
    refine lx_w G hz h1 (h2 r) h3 ?_
    rw [nb_of (by decide)]
    exact lx_sig G (k := 40) hz (by decide) hr
  simp only [heads4, List.mem_cons, List.not_mem_nil, or_false] at hh
  rcases hh with rfl | rfl | rfl | rfl
  · exact ⟨T "name", .inl rfl, by decide, by decide, go _ _ (by kernel_rfl) (fun y => by kernel_rfl) (by rw [if_neg (by rw [word_no (by decide)]; decide)])⟩
  · exact ⟨T "word", .inr ⟨rfl, by decide, fw_mid⟩, by decide, by decide, go _ _ (by kernel_rfl) (fun y => by kernel_rfl) (by rw [if_pos (word_yes (by decide))])⟩
  · exact ⟨T "name", .inl rfl, by decide, by decide, go _ _ (by kernel_rfl) (fun y => by kernel_rfl) (by rw [if_neg (by rw [word_no (by decide)]; decide)])⟩
  · exact ⟨T "name", .inl rfl, by decide, by decide, go _ _ (by kernel_rfl) (fun y => by kernel_rfl) (by rw [if_neg (by rw [word_no (by decide)]; decide)])⟩
end
-- text P45
section
variable {c : Cx}
structure Good (c : Cx) (n : Nat) (t : Tr) (x : List Nat) (ts : Toks) : Prop where
  sh : Sh n t x ts
  ps : PSh c.w.params n t ts
  lx : Lexes c x ts
  ln : ts.length ≤ x.length
  tx : ∀ p ∈ ts, p.2.length ≤ x.length
theorem lx_close (G : Pg c) {row rest : List Nat} {ts' : List PV} (hz : row.length < 10000) (h : Lx c row (rest.drop (nblank rest)) ts') : Lx c row ((41 :: rest).drop (nblank (41 :: rest))) (tk (T "sign") (T ")") :: ts') := by
  rw [nb_of (by decide)]
  exact lx_sig G (k := 41) hz (by decide) h
theorem lx_comma (G : Pg c) {row rest : List Nat} {ts' : List PV} (hz : row.length < 10000) (h : Lx c row (rest.drop (nblank rest)) ts') : Lx c row ((44 :: rest).drop (nblank (44 :: rest))) (tk (T "sign") (T ",") :: ts') := by
  rw [nb_of (by decide)]
  exact lx_sig G (k := 44) hz (by decide) h
theorem toks_app (ts us : Toks) (r : List PV) : tokL (ts ++ us) ++ r = tokL ts ++ (tokL us ++ r) := by
  unfold tokL; rw [List.map_append, List.append_assoc]
theorem lexes_un (G : Pg c) {o x : List Nat} {tk' : List Nat × List Nat} {ts : Toks} (hk : (o = T "-" ∧ tk' = (T "sign", T "-")) ∨ (o = T "NOT " ∧ tk' = (T "word", T "NOT"))) (h : Lexes c x ts) :
    Lexes c (T "(" ++ o ++ x ++ T ")") ((T "sign", T "(") :: tk' :: (ts ++ [(T "sign", T ")")])) := by
  refine ⟨⟨40, o ++ x ++ T ")", rfl, by decide⟩, fun row rest ts' hz hr hl => ?_⟩
  have hc := lx_close G hz hl
  have hx := h.lex row (41 :: rest) _ hz Fol.close hc
  have e : (T "(" ++ o ++ x ++ T ")") ++ rest = 40 :: (o ++ (x ++ 41 :: rest)) := by
    show ([40] ++ o ++ x ++ [41]) ++ rest = _
    simp
  have e2 : tokL ((T "sign", T "(") :: tk' :: (ts ++ [(T "sign", T ")")])) ++ ts' = tk (T "sign") (T "(") :: tk tk'.1 tk'.2 :: (tokL ts ++ (tk (T "sign") (T ")") :: ts')) := by
    show tk (T "sign") (T "(") :: tk tk'.1 tk'.2 :: (tokL (ts ++ [(T "sign", T ")")]) ++ ts') = _
    rw [toks_app]; rfl
  rw [e, e2]
  rcases hk with ⟨rfl, rfl⟩ | ⟨rfl, rfl⟩
  · refine lx_sig G (k := 40) hz (by decide) ?_
    show Lx c row ((45 :: (x ++ 41 :: rest)).drop (nblank (45 :: (x ++ 41 :: rest)))) _
    rw [nb_of (by decide)]
    exact lx_sig G (k := 45) hz (by decide) (by rw [h.nb]; exact hx)
  · refine lx_sig G (k := 40) hz (by decide) ?_
    show Lx c row ((78 :: ([79, 84] ++ (32 :: (x ++ 41 :: rest)))).drop (nblank (78 :: ([79, 84] ++ (32 :: (x ++ 41 :: rest)))))) _
    rw [nb_of (by decide)]
    exact lx_w G (w := T "NOT") hz (by kernel_rfl) (by kernel_rfl) (by rw [if_pos (word_yes (by decide))]) (by rw [nb32 (h.nb _)]; exact hx)
theorem lexes_two (G : Pg c) {w x y : List Nat} {ts us : Toks} (hw : w ∈ words18) (h : Lexes c x ts) (h' : Lexes c y us) : ∃ kd, [T "sign", T "word"].contains kd = true ∧ (kd, w) ≠ (T "sign", T "(") ∧
    Lexes c (T "(" ++ x ++ T " " ++ w ++ T " " ++ y ++ T ")") ((T "sign", T "(") :: (ts ++ (kd, w) :: (us ++ [(T "sign", T ")")]))) := by
  obtain ⟨kd, k1, k2, hop⟩ := lx_oper G hw
  refine ⟨kd, k1, k2, ⟨40, x ++ T " " ++ w ++ T " " ++ y ++ T ")", by show [40] ++ x ++ T " " ++ w ++ T " " ++ y ++ T ")" = _; simp, by decide⟩, fun row rest ts' hz hr hl => ?_⟩
  have hc := lx_close G hz hl
  have hy := h'.lex row (41 :: rest) _ hz Fol.close hc
  obtain ⟨j, r, e0, hj⟩ := h'.start
  have ho := hop row (y ++ 41 :: rest) _ hz ⟨j, r ++ 41 :: rest, by rw [e0]; rfl, hj⟩ hy
  have hs : ∃ k q, w = k :: q ∧ decide (k ∈ T " \t") = false := by
    simp only [words18, List.mem_cons, List.not_mem_nil, or_false] at hw
    rcases hw with rfl | rfl | rfl | rfl | rfl | rfl | rfl | rfl | rfl | rfl | rfl | rfl | rfl | rfl | rfl | rfl | rfl | rfl <;> exact ⟨_, _, rfl, by decide⟩
  obtain ⟨k, q, ew, hk⟩ := hs
  have en : (w ++ 32 :: (y ++ 41 :: rest)).drop (nblank (w ++ 32 :: (y ++ 41 :: rest))) = w ++ 32 :: (y ++ 41 :: rest) := by
    rw [ew, List.cons_append, nb_of hk]; rfl
  have hx := h.lex row (32 :: (w ++ 32 :: (y ++ 41 :: rest))) _ hz Fol.blank (by rw [nb32 en]; exact ho)
  have e : (T "(" ++ x ++ T " " ++ w ++ T " " ++ y ++ T ")") ++ rest = 40 :: (x ++ 32 :: (w ++ 32 :: (y ++ 41 :: rest))) := by
    show ([40] ++ x ++ [32] ++ w ++ [32] ++ y ++ [41]) ++ rest = _
    simp
  have e2 : tokL ((T "sign", T "(") :: (ts ++ (kd, w) :: (us ++ [(T "sign", T ")")]))) ++ ts' = tk (T "sign") (T "(") :: (tokL ts ++ (tk kd w :: (tokL us ++ (tk (T "sign") (T ")") :: ts')))) := by
    show tk (T "sign") (T "(") :: (tokL (ts ++ (kd, w) :: (us ++ [(T "sign", T ")")])) ++ ts') = _
    rw [toks_app]
    show tk (T "sign") (T "(") :: (tokL ts ++ (tk kd w :: (tokL (us ++ [(T "sign", T ")")]) ++ ts'))) = _
    rw [toks_app]; rfl
  rw [e, e2]
  exact lx_sig G (k := 40) hz (by decide) (by rw [h.nb]; exact hx)
theorem lexes_app1 (G : Pg c) {hd : List Nat × List Nat} {x : List Nat} {ts : Toks} (hh : hd ∈ heads4) (h : Lexes c x ts) : ∃ kd, (kd = T "name" ∨ (kd = T "word" ∧ hd.2 ≠ T "NOT" ∧ (fwords c.w.params).contains hd.2 = true)) ∧ opKd kd hd.2 = hd.1 ∧
    Lexes c (hd.2 ++ (T "(" ++ x ++ T ")")) ((kd, hd.2) :: (T "sign", T "(") :: (ts ++ [(T "sign", T ")")])) := by
  obtain ⟨kd, k1, k2, hs, hop⟩ := lx_head G hh
  refine ⟨kd, k1, k2, startW_iff hs _, fun row rest ts' hz hr hl => ?_⟩
  have hc := lx_close G hz hl
  have hx := h.lex row (41 :: rest) _ hz Fol.close hc
  have ho := hop row (x ++ 41 :: rest) _ hz (by rw [h.nb]; exact hx)
  have e : (hd.2 ++ (T "(" ++ x ++ T ")")) ++ rest = hd.2 ++ 40 :: (x ++ 41 :: rest) := by
    show (hd.2 ++ ([40] ++ x ++ [41])) ++ rest = _
    simp
  have e2 : tokL ((kd, hd.2) :: (T "sign", T "(") :: (ts ++ [(T "sign", T ")")])) ++ ts' = tk kd hd.2 :: tk (T "sign") (T "(") :: (tokL ts ++ (tk (T "sign") (T ")") :: ts')) := by
    show tk kd hd.2 :: tk (T "sign") (T "(") :: (tokL (ts ++ [(T "sign", T ")")]) ++ ts') = _
    rw [toks_app]; rfl
  rw [e, e2]
  exact ho
theorem lexes_app2 (G : Pg c) {hd : List Nat × List Nat} {x y : List Nat} {ts us : Toks} (hh : hd ∈ heads4) (h : Lexes c x ts) (h' : Lexes c y us) : ∃ kd, (kd = T "name" ∨ (kd = T "word" ∧ hd.2 ≠ T "NOT" ∧ (fwords c.w.params).contains hd.2 = true)) ∧ opKd kd hd.2 = hd.1 ∧
    Lexes c (hd.2 ++ (T "(" ++ (x ++ T "," ++ y) ++ T ")")) ((kd, hd.2) :: (T "sign", T "(") :: (ts ++ (T "sign", T ",") :: (us ++ [(T "sign", T ")")]))) := by
  obtain ⟨kd, k1, k2, hs, hop⟩ := lx_head G hh
  refine ⟨kd, k1, k2, startW_iff hs _, fun row rest ts' hz hr hl => ?_⟩
  have hc := lx_close G hz hl
  have hy := h'.lex row (41 :: rest) _ hz Fol.close hc
  have hm := lx_comma G (rest := y ++ 41 :: rest) hz (by rw [h'.nb]; exact hy)
  have hx := h.lex row (44 :: (y ++ 41 :: rest)) _ hz Fol.comma hm
  have ho := hop row (x ++ 44 :: (y ++ 41 :: rest)) _ hz (by rw [h.nb]; exact hx)
  have e : (hd.2 ++ (T "(" ++ (x ++ T "," ++ y) ++ T ")")) ++ rest = hd.2 ++ 40 :: (x ++ 44 :: (y ++ 41 :: rest)) := by
    show (hd.2 ++ ([40] ++ (x ++ [44] ++ y) ++ [41])) ++ rest = _
    simp
  have e2 : tokL ((kd, hd.2) :: (T "sign", T "(") :: (ts ++ (T "sign", T ",") :: (us ++ [(T "sign", T ")")]))) ++ ts' = tk kd hd.2 :: tk (T "sign") (T "(") :: (tokL ts ++ (tk (T "sign") (T ",") :: (tokL us ++ (tk (T "sign") (T ")") :: ts')))) := by
    show tk kd hd.2 :: tk (T "sign") (T "(") :: (tokL (ts ++ (T "sign", T ",") :: (us ++ [(T "sign", T ")")])) ++ ts') = _
    rw [toks_app]
    show tk kd hd.2 :: tk (T "sign") (T "(") :: (tokL ts ++ (tk (T "sign") (T ",") :: (tokL (us ++ [(T "sign", T ")")]) ++ ts'))) = _
    rw [toks_app]; rfl
  rw [e, e2]
  exact ho
end
-- text P46
section
variable {c : Cx}
theorem lo1 : (T "(").length = 1 := rfl
theorem lc1 : (T ")").length = 1 := rfl
theorem lm1 : (T ",").length = 1 := rfl
theorem lb1 : (T " ").length = 1 := rfl
theorem ln1 : (T "-").length = 1 := rfl
theorem lN1 : (T "NOT").length = 3 := rfl
theorem lN2 : (T "NOT ").length = 4 := rfl
theorem w18_len {w : List Nat} (h : w ∈ words18) : 1 ≤ w.length ∧ w.length ≤ 3 ∧ isUn w = false := by
  have := List.all_eq_true.mp (show words18.all (fun w => Nat.ble 1 w.length && Nat.ble w.length 3 && !isUn w) = true by kernel_rfl) w h
  simp only [Bool.and_eq_true, Bool.not_eq_true'] at this
  exact ⟨Nat.le_of_ble_eq_true this.1.1, Nat.le_of_ble_eq_true this.1.2, this.2⟩
theorem h4_len {h : List Nat × List Nat} (hh : h ∈ heads4) : 1 ≤ h.2.length ∧ h.2.length ≤ 4 ∧ isApp h.1 = true ∧ isPlainLevel h.1 = false := by
  have := List.all_eq_true.mp (show heads4.all (fun h => Nat.ble 1 h.2.length && Nat.ble h.2.length 4 && isApp h.1 && !isPlainLevel h.1) = true by kernel_rfl) h hh
  simp only [Bool.and_eq_true, Bool.not_eq_true'] at this
  exact ⟨Nat.le_of_ble_eq_true this.1.1.1, Nat.le_of_ble_eq_true this.1.1.2, this.1.2, this.2⟩
theorem Good.un (G : Pg c) {n : Nat} {k : List Nat} {t : Tr} {x : List Nat} {ts : Toks} (hk : k ∈ [T "neg", T "not"]) (h : Good c n t x ts) : ∃ x' ts', Good c (n + 1) (.un k t) x' ts' ∧ x'.length ≤ x.length + 6 := by
  have H : ∃ (o : List Nat) (tk' : List Nat × List Nat) (s : Nat), ((k = T "neg" ∧ o = T "-" ∧ tk' = (T "sign", T "-")) ∨ (k = T "not" ∧ o = T "NOT " ∧ tk' = (T "word", T "NOT"))) ∧ ((k = T "neg" ∧ s = 12 ∧ tk' = (T "sign", T "-")) ∨ (k = T "not" ∧ s = 6 ∧ tk' = (T "word", T "NOT"))) ∧
      ((o = T "-" ∧ tk' = (T "sign", T "-")) ∨ (o = T "NOT " ∧ tk' = (T "word", T "NOT"))) ∧ tk'.2.length ≤ o.length ∧ 1 ≤ o.length ∧ o.length ≤ 4 := by
    simp only [List.mem_cons, List.not_mem_nil, or_false] at hk
    rcases hk with rfl | rfl
    · exact ⟨T "-", _, 12, .inl ⟨rfl, rfl, rfl⟩, .inl ⟨rfl, rfl, rfl⟩, .inl ⟨rfl, rfl⟩, by decide, by decide, by decide⟩
    · exact ⟨T "NOT ", _, 6, .inr ⟨rfl, rfl, rfl⟩, .inr ⟨rfl, rfl, rfl⟩, .inr ⟨rfl, rfl⟩, by decide, by decide, by decide⟩
  obtain ⟨o, tk', s, h1, h2, h3, h4, h5, h6⟩ := H
  have hln := h.ln
  refine ⟨_, _, ⟨Sh.un h1 h.sh, PSh.un h2 h.ps, lexes_un G h3 h.lx, ?_, ?_⟩, ?_⟩
  · simp only [List.length_append, List.length_cons, List.length_nil, lo1, lc1]; omega
  · intro p hp
    simp only [List.mem_cons, List.mem_append, List.not_mem_nil, or_false] at hp
    simp only [List.length_append, lo1, lc1]
    rcases hp with rfl | rfl | hp | rfl
    · show (T "(").length ≤ _; rw [lo1]; omega
    · omega
    · have := h.tx p hp; omega
    · show (T ")").length ≤ _; rw [lc1]; omega
  · simp only [List.length_append, lo1, lc1]; omega
theorem Good.app1 (G : Pg c) {n : Nat} {hd : List Nat × List Nat} {a : Tr} {x : List Nat} {ts : Toks} (hh : hd ∈ heads4) (h : Good c n a x ts) : ∃ x' ts', Good c (n + 1) (.app hd.1 hd.2 [a]) x' ts' ∧ x'.length ≤ x.length + 6 := by
  obtain ⟨kd, k1, k2, hl⟩ := lexes_app1 G hh h.lx
  obtain ⟨h1, h2, h3, h4⟩ := h4_len hh
  have hln := h.ln
  refine ⟨_, _, ⟨Sh.app1 h3 (by omega) h.sh, PSh.app1 k1 k2 h4 h.ps, hl, ?_, ?_⟩, ?_⟩
  · simp only [List.length_append, List.length_cons, List.length_nil, lo1, lc1]; omega
  · intro p hp
    simp only [List.mem_cons, List.mem_append, List.not_mem_nil, or_false] at hp
    simp only [List.length_append, lo1, lc1]
    rcases hp with rfl | rfl | hp | rfl
    · show hd.2.length ≤ _; omega
    · show (T "(").length ≤ _; rw [lo1]; omega
    · have := h.tx p hp; omega
    · show (T ")").length ≤ _; rw [lc1]; omega
  · simp only [List.length_append, lo1, lc1]; omega
theorem Good.app2 (G : Pg c) {n : Nat} {hd : List Nat × List Nat} {a b : Tr} {x y : List Nat} {ts us : Toks} (hh : hd ∈ heads4) (h : Good c n a x ts) (h' : Good c n b y us) : ∃ x' ts', Good c (n + 1) (.app hd.1 hd.2 [a, b]) x' ts' ∧ x'.length ≤ x.length + y.length + 7 := by
  obtain ⟨kd, k1, k2, hl⟩ := lexes_app2 G hh h.lx h'.lx
  obtain ⟨h1, h2, h3, h4⟩ := h4_len hh
  have hln := h.ln
  have hln' := h'.ln
  refine ⟨_, _, ⟨Sh.app2 h3 (by omega) h.sh h'.sh, PSh.app2 k1 k2 h4 h.ps h'.ps, hl, ?_, ?_⟩, ?_⟩
  · simp only [List.length_append, List.length_cons, List.length_nil, lo1, lc1, lm1]; omega
  · intro p hp
    simp only [List.mem_cons, List.mem_append, List.not_mem_nil, or_false] at hp
    simp only [List.length_append, lo1, lc1, lm1]
    rcases hp with rfl | rfl | hp | rfl | hp | rfl
    · show hd.2.length ≤ _; omega
    · show (T "(").length ≤ _; rw [lo1]; omega
    · have := h.tx p hp; omega
    · show (T ",").length ≤ _; rw [lm1]; omega
    · have := h'.tx p hp; omega
    · show (T ")").length ≤ _; rw [lc1]; omega
  · simp only [List.length_append, lo1, lc1, lm1]; omega
theorem Good.two (G : Pg c) {n : Nat} {w : List Nat} {a b : Tr} {x y : List Nat} {ts us : Toks} (hw : w ∈ words18) (h : Good c n a x ts) (h' : Good c n b y us) : ∃ x' ts', Good c (n + 1) (.two w a b) x' ts' ∧ x'.length ≤ x.length + y.length + w.length + 4 := by
  obtain ⟨kd, k1, k2, hl⟩ := lexes_two G hw h.lx h'.lx
  obtain ⟨h1, h2, h3⟩ := w18_len hw
  obtain ⟨s, hs⟩ := str_facts (P := c.w.params) hw
  have hln := h.ln
  have hln' := h'.ln
  refine ⟨_, _, ⟨Sh.two h2 h.sh h'.sh, PSh.two k1 k2 hs h3 h.ps h'.ps, hl, ?_, ?_⟩, ?_⟩
  · simp only [List.length_append, List.length_cons, List.length_nil, lo1, lc1, lb1]; omega
  · intro p hp
    simp only [List.mem_cons, List.mem_append, List.not_mem_nil, or_false] at hp
    simp only [List.length_append, lo1, lc1, lb1]
    rcases hp with rfl | hp | rfl | hp | rfl
    · show (T "(").length ≤ _; rw [lo1]; omega
    · have := h.tx p hp; omega
    · show w.length ≤ _; omega
    · have := h'.tx p hp; omega
    · show (T ")").length ≤ _; rw [lc1]; omega
  · simp only [List.length_append, lo1, lc1, lb1]; omega
/-! the leaves -/
theorem isSg_next {all post : Toks} {i : Nat} {x : List Nat × List Nat} (h : all.drop i = x :: post) (hn : NoOpen post) : isSg all (i + 1) (T "(") = false := by
  have d := drop_next h
  unfold isSg
  cases post with
  | nil =>
    have e : tokG all (i + 1) = (T "end", T "") := by
      unfold tokG
      have : all[i + 1]? = Option.none := by rw [← List.head?_drop, d]; rfl
      rw [this]; rfl
    rw [e]; decide
  | cons q r =>
    rw [tokG_drop d]
    have := hn q r rfl
    obtain ⟨q1, q2⟩ := q
    cases e1 : decide (q1 = T "sign") with
    | false => rfl
    | true =>
      have e1 := of_decide_eq_true e1
      subst e1
      show (true && decide (q2 = T "(")) = false
      rw [decide_eq_false (fun e => this (by rw [e]))]
      rfl
noncomputable def startF : List Nat → Bool
  | [] => false
  | k :: _ => startK k && figB [k]
theorem good_num (G : Pg c) {n : Nat} {t : Tr} {x : List Nat} (e : leafT t = x) (h1 : leafOk t = true) (h2 : startF x = true) (h3 : NumLex x x) (h4 : numT x = some t) : Good c n t x [(T "number", x)] := by
  subst e
  refine ⟨Sh.leaf h1, PSh.leaf (fun all post i hd hn => ?_), ?_, ?_, ?_⟩
  · unfold plainM
    rw [tokG_drop hd, if_pos rfl]
    dsimp only
    rw [h4]
  · revert h2 h3
    generalize leafT t = x
    intro h2 h3
    cases x with
    | nil => cases h2
    | cons k r =>
      unfold startF at h2
      rw [Bool.and_eq_true] at h2
      exact lexes_num G h2.1 h2.2 h3
  · revert h2
    generalize leafT t = x
    intro h2
    cases x with
    | nil => cases h2
    | cons k r => simp
  · intro p hp
    simp only [List.mem_cons, List.not_mem_nil, or_false] at hp
    subst hp; exact Nat.le_refl _
theorem good_text (G : Pg c) {n : Nat} {x : List Nat} (h1 : x.length < 1000) (hq : 34 ∉ x) : Good c n (.tx x) (quo x) [(T "text", x)] := by
  have e : (quo x).length = x.length + 2 := by show ([34] ++ x ++ [34]).length = _; simp
  refine ⟨Sh.leaf (t := .tx x) (blt5 h1), PSh.leaf (fun all post i hd hn => ?_), lexes_text G hq, ?_, ?_⟩
  · unfold plainM
    rw [tokG_drop hd, if_neg (show T "text" ≠ T "number" by decide), if_pos rfl]
  · rw [e]; simp
  · intro p hp
    simp only [List.mem_cons, List.not_mem_nil, or_false] at hp
    subst hp; rw [e]; exact Nat.le_add_right _ _
theorem startW_len {w : List Nat} (h : startW w = true) : 1 ≤ w.length := by
  cases w with
  | nil => cases h
  | cons k r => simp
theorem good_name (G : Pg c) {n : Nat} {w : List Nat} (hs : startW w = true) (ok : wordOk w = true) (hm : ∀ rest, Fol rest → nameM (w ++ rest) = w.length) (hw : wordsNo.contains w = true) (hf : w.take 2 ≠ T "FN") : Good c n (.nm w) w [(T "name", w)] := by
  refine ⟨Sh.leaf (t := .nm w) rfl, PSh.leaf (fun all post i hd hn => ?_), lexes_w G hs ok hm (by rw [if_neg (by rw [word_no hw]; decide)]), startW_len hs, ?_⟩
  · unfold plainM
    rw [tokG_drop hd, isSg_next hd hn, if_neg (show T "name" ≠ T "number" by decide), if_neg (show T "name" ≠ T "text" by decide), if_neg (by decide), if_pos rfl]
    dsimp only
    rw [if_neg hf]
  · intro p hp
    simp only [List.mem_cons, List.not_mem_nil, or_false] at hp
    subst hp; exact Nat.le_refl _
theorem good_fn (G : Pg c) {n : Nat} {w : List Nat} (hz : w.length ≤ 6) (hs : startW w = true) (ok : wordOk w = true) (hm : ∀ rest, Fol rest → nameM (w ++ rest) = w.length) (hw : wordsNo.contains w = true) (hf : w.take 2 = T "FN") : Good c n (.app (T "fn") w []) w [(T "name", w)] := by
  refine ⟨Sh.app0 (by decide) hz, PSh.leaf (fun all post i hd hn => ?_), lexes_w G hs ok hm (by rw [if_neg (by rw [word_no hw]; decide)]), startW_len hs, ?_⟩
  · unfold plainM
    rw [tokG_drop hd, isSg_next hd hn, if_neg (show T "name" ≠ T "number" by decide), if_neg (show T "name" ≠ T "text" by decide), if_neg (by decide), if_pos rfl]
    dsimp only
    rw [if_pos hf]
  · intro p hp
    simp only [List.mem_cons, List.not_mem_nil, or_false] at hp
    subst hp; exact Nat.le_refl _
theorem good_call (G : Pg c) {n : Nat} {w : List Nat} (hz : w.length ≤ 6) (hs : startW w = true) (ok : wordOk w = true) (hm : ∀ rest, Fol rest → nameM (w ++ rest) = w.length) (hw : wordsYes.contains w = true) (hf : (noArgs c.w.params).contains w = true) : Good c n (.app (T "call") w []) w [(T "word", w)] := by
  refine ⟨Sh.app0 (by decide) hz, PSh.leaf (fun all post i hd hn => ?_), lexes_w G hs ok hm (by rw [if_pos (word_yes hw)]), startW_len hs, ?_⟩
  · unfold plainM
    rw [tokG_drop hd, isSg_next hd hn, if_neg (show T "word" ≠ T "number" by decide), if_neg (show T "word" ≠ T "text" by decide), if_neg (by decide), if_neg (show T "word" ≠ T "name" by decide)]
    dsimp only
    rw [hf, if_pos (by rfl)]
  · intro p hp
    simp only [List.mem_cons, List.not_mem_nil, or_false] at hp
    subst hp; exact Nat.le_refl _
end
-- text P47
section
variable {c : Cx}
theorem plain_Sh {n : Nat} {t : Tr} {x : List Nat} {ts : Toks} (h : Sh n t x ts) : ∀ m, 2 * n + 2 ≤ m → PV.plain m t.pv = true := by
  induction h with
  | @leaf n t k x h =>
    intro m hm
    obtain ⟨m, rfl⟩ : ∃ j, m = j + 2 := ⟨m - 2, by omega⟩
    cases t <;> first | (rw [Tr.pv]; rfl) | cases h
  | @app0 n k w kd hk hw =>
    intro m hm
    obtain ⟨m, rfl⟩ : ∃ j, m = j + 2 := ⟨m - 2, by omega⟩
    rw [Tr.pv, Tr.pvL]; rfl
  | @un n k o tk t x ts hk h ih =>
    intro m hm
    obtain ⟨m, rfl⟩ : ∃ j, m = j + 1 := ⟨m - 1, by omega⟩
    rw [Tr.pv]
    simp [PV.plain, PV.plainL, ih m (by omega)]
  | @app1 n k w kd a x ts hk hw h ih =>
    intro m hm
    obtain ⟨m, rfl⟩ : ∃ j, m = j + 2 := ⟨m - 2, by omega⟩
    rw [Tr.pv, Tr.pvL, Tr.pvL]
    simp [PV.plain, PV.plainL, ih m (by omega)]
  | @app2 n k w kd a b x y ts us hk hw h h' ih ih' =>
    intro m hm
    obtain ⟨m, rfl⟩ : ∃ j, m = j + 2 := ⟨m - 2, by omega⟩
    rw [Tr.pv, Tr.pvL, Tr.pvL, Tr.pvL]
    simp [PV.plain, PV.plainL, ih m (by omega), ih' m (by omega)]
  | @two n w kd a b x y ts us hw h h' ih ih' =>
    intro m hm
    obtain ⟨m, rfl⟩ : ∃ j, m = j + 1 := ⟨m - 1, by omega⟩
    rw [Tr.pv]
    simp [PV.plain, PV.plainL, ih m (by omega), ih' m (by omega)]
theorem tokG_len {ts : Toks} {z : Nat} (h : ∀ p ∈ ts, p.2.length ≤ z) (i : Nat) : (tokG ts i).2.length ≤ z := by
  unfold tokG
  cases e : ts[i]? with
  | none => exact Nat.zero_le _
  | some p => exact h p (List.mem_of_getElem? e)
theorem back_of (G : Pg c) {n : Nat} {t : Tr} {x : List Nat} {ts : Toks} (h : Good c n t x ts) (hn : n ≤ 20) (hx : x.length ≤ 255) {mu : Mem} (W : Wf mu) : Fn c 9 (.ref 351) [t.pv] mu (.bool true) mu := by
  have hln := h.ln
  obtain ⟨m, hm⟩ := show_Sh h.sh (by omega)
  obtain ⟨f, hf, he⟩ := expr_PSh noargs_not str_close str_comma h.ps (by omega) (by omega)
  have h1 : showM (1 + m) [(t, false)] [] = some (x :: []) := by
    rw [hm 1 [] [] (by simp; omega) (by simp; omega)]
    rfl
  have h2 := h.lx.lex x [] [] (by omega) Fol.nil Lx.nil
  have nb := h.lx.nb []
  rw [List.append_nil] at nb
  rw [List.append_nil, List.append_nil] at h2
  exact is_back_ok G W h1 (by rw [nb]; exact h2) he hx (by omega) hf (fun i => by have := tokG_len h.tx i; omega) (plain_Sh h.sh 301 (by omega))
/-! the table of leaves -/
theorem good_whole (G : Pg c) {k : Nat} (hk : k < 20) (n : Nat) : ∃ x ts, Good c n (.whole k) x ts ∧ x.length ≤ 2 := by
  have : k = 0 ∨ k = 1 ∨ k = 2 ∨ k = 3 ∨ k = 4 ∨ k = 5 ∨ k = 6 ∨ k = 7 ∨ k = 8 ∨ k = 9 ∨ k = 10 ∨ k = 11 ∨ k = 12 ∨ k = 13 ∨ k = 14 ∨ k = 15 ∨ k = 16 ∨ k = 17 ∨ k = 18 ∨ k = 19 := by omega
  rcases this with rfl | rfl | rfl | rfl | rfl | rfl | rfl | rfl | rfl | rfl | rfl | rfl | rfl | rfl | rfl | rfl | rfl | rfl | rfl | rfl <;>
    exact ⟨_, _, good_num G rfl (by kernel_rfl) (by kernel_rfl) (fun rest h pl => by cases h <;> cases pl <;> kernel_rfl) (by kernel_rfl), Nat.le_of_ble_eq_true (by kernel_rfl)⟩
theorem good_A (G : Pg c) (n : Nat) : Good c n (.nm (T "A")) (T "A") [(T "name", T "A")] :=
  good_name G (by kernel_rfl) (by kernel_rfl) (fun rest h => by cases h <;> kernel_rfl) (by kernel_rfl) (by decide)
theorem good_leaf (G : Pg c) {t : Tr} (ht : t ∈ leafAll) (n : Nat) : ∃ x ts, Good c n t x ts ∧ x.length ≤ 7 := by
  have num : ∀ t : Tr, leafOk t = true → startF (leafT t) = true → NumLex (leafT t) (leafT t) → numT (leafT t) = some t → Nat.ble (leafT t).length 7 = true → ∃ x ts, Good c n t x ts ∧ x.length ≤ 7 := fun t h1 h2 h3 h4 h5 => ⟨_, _, good_num G rfl h1 h2 h3 h4, Nat.le_of_ble_eq_true h5⟩
  have nam : ∀ w : List Nat, startW w = true → wordOk w = true → (∀ rest, Fol rest → nameM (w ++ rest) = w.length) → wordsNo.contains w = true → w.take 2 ≠ T "FN" → Nat.ble w.length 7 = true → ∃ x ts, Good c n (.nm w) x ts ∧ x.length ≤ 7 := fun w h1 h2 h3 h4 h5 h6 => ⟨_, _, good_name G h1 h2 h3 h4 h5, Nat.le_of_ble_eq_true h6⟩
  have txt : ∀ w : List Nat, 34 ∉ w → Nat.ble w.length 5 = true → ∃ x ts, Good c n (.tx w) x ts ∧ x.length ≤ 7 := fun w h1 h2 => ⟨_, _, good_text G (by have := Nat.le_of_ble_eq_true h2; omega) h1, by have := Nat.le_of_ble_eq_true h2; show ([34] ++ w ++ [34]).length ≤ 7; simp; omega⟩
  simp only [leafAll, leaves0, leaves1, names2, texts3, leaves4, List.map_cons, List.map_nil, List.mem_append, List.mem_cons, List.not_mem_nil, or_false] at ht
  rcases ht with ((((rfl | rfl | rfl | rfl | rfl) | (rfl | rfl | rfl)) | (rfl | rfl | rfl | rfl)) | (rfl | rfl | rfl)) | (rfl | rfl)
  · exact num _ (by kernel_rfl) (by kernel_rfl) (fun rest h pl => by cases h <;> cases pl <;> kernel_rfl) (by kernel_rfl) (by kernel_rfl)
  · exact num _ (by kernel_rfl) (by kernel_rfl) (fun rest h pl => by cases h <;> cases pl <;> kernel_rfl) (by kernel_rfl) (by kernel_rfl)
  · exact num _ (by kernel_rfl) (by kernel_rfl) (fun rest h pl => by cases h <;> cases pl <;> kernel_rfl) (by kernel_rfl) (by kernel_rfl)
  · exact num _ (by kernel_rfl) (by kernel_rfl) (fun rest h pl => by cases h <;> cases pl <;> kernel_rfl) (by kernel_rfl) (by kernel_rfl)
  · exact num _ (by kernel_rfl) (by kernel_rfl) (fun rest h pl => by cases h <;> cases pl <;> kernel_rfl) (by kernel_rfl) (by kernel_rfl)
  · exact num _ (by kernel_rfl) (by kernel_rfl) (fun rest h pl => by cases h <;> cases pl <;> kernel_rfl) (by kernel_rfl) (by kernel_rfl)
  · exact num _ (by kernel_rfl) (by kernel_rfl) (fun rest h pl => by cases h <;> cases pl <;> kernel_rfl) (by kernel_rfl) (by kernel_rfl)
  · exact num _ (by kernel_rfl) (by kernel_rfl) (fun rest h pl => by cases h <;> cases pl <;> kernel_rfl) (by kernel_rfl) (by kernel_rfl)
  · exact nam _ (by kernel_rfl) (by kernel_rfl) (fun rest h => by cases h <;> kernel_rfl) (by kernel_rfl) (by decide) (by kernel_rfl)
  · exact nam _ (by kernel_rfl) (by kernel_rfl) (fun rest h => by cases h <;> kernel_rfl) (by kernel_rfl) (by decide) (by kernel_rfl)
  · exact nam _ (by kernel_rfl) (by kernel_rfl) (fun rest h => by cases h <;> kernel_rfl) (by kernel_rfl) (by decide) (by kernel_rfl)
  · exact nam _ (by kernel_rfl) (by kernel_rfl) (fun rest h => by cases h <;> kernel_rfl) (by kernel_rfl) (by decide) (by kernel_rfl)
  · exact txt _ (by decide) (by kernel_rfl)
  · exact txt _ (by decide) (by kernel_rfl)
  · exact txt _ (by decide) (by kernel_rfl)
  · exact ⟨_, _, good_call G (Nat.le_of_ble_eq_true (by kernel_rfl)) (by kernel_rfl) (by kernel_rfl) (fun rest h => by cases h <;> kernel_rfl) (by kernel_rfl) noargs_pi, Nat.le_of_ble_eq_true (by kernel_rfl)⟩
  · exact ⟨_, _, good_fn G (Nat.le_of_ble_eq_true (by kernel_rfl)) (by kernel_rfl) (by kernel_rfl) (fun rest h => by cases h <;> kernel_rfl) (by kernel_rfl) (by decide), Nat.le_of_ble_eq_true (by kernel_rfl)⟩
noncomputable def lenB : Nat → Nat
  | 0 => 7
  | n + 1 => 2 * lenB n + 7
theorem lenB_7 : ∀ n, 7 ≤ lenB n
  | 0 => Nat.le_refl _
  | n + 1 => by have := lenB_7 n; unfold lenB; omega
theorem good_Gd (G : Pg c) {n : Nat} {t : Tr} (h : Gd n t) : ∃ x ts, Good c n t x ts ∧ x.length ≤ lenB n := by
  induction h with
  | @leaf n t ht =>
    obtain ⟨x, ts, g, hx⟩ := good_leaf G ht n
    exact ⟨x, ts, g, Nat.le_trans hx (lenB_7 n)⟩
  | @un n k t hk h ih =>
    obtain ⟨x, ts, g, hx⟩ := ih
    obtain ⟨x', ts', g', hx'⟩ := Good.un G hk g
    exact ⟨x', ts', g', by unfold lenB; omega⟩
  | @app1 n hd a hh h ih =>
    obtain ⟨x, ts, g, hx⟩ := ih
    obtain ⟨x', ts', g', hx'⟩ := Good.app1 G hh g
    exact ⟨x', ts', g', by unfold lenB; omega⟩
  | @app2 n hd a b hh h h' ih ih' =>
    obtain ⟨x, ts, g, hx⟩ := ih
    obtain ⟨y, us, g2, hy⟩ := ih'
    obtain ⟨x', ts', g', hx'⟩ := Good.app2 G hh g g2
    exact ⟨x', ts', g', by unfold lenB; omega⟩
  | @two n w a b hw h h' ih ih' =>
    obtain ⟨x, ts, g, hx⟩ := ih
    obtain ⟨y, us, g2, hy⟩ := ih'
    obtain ⟨x', ts', g', hx'⟩ := Good.two G hw g g2
    have := (w18_len hw).2.1
    exact ⟨x', ts', g', by unfold lenB; omega⟩
theorem good_row (G : Pg c) : ∀ n, n ≤ 20 → ∃ x ts, Good c n (rowT n) x ts ∧ x.length ≤ 9 * n + 1
  | 0, _ => ⟨_, _, good_A G 0, Nat.le_of_ble_eq_true (by kernel_rfl)⟩
  | n + 1, hn => by
    obtain ⟨x, ts, g, hx⟩ := good_row G n (by omega)
    obtain ⟨y, us, g2, hy⟩ := good_whole G (k := n) (by omega) n
    have hw : (if n % 2 = 0 then T "-" else T "AND") ∈ words18 := by
      split
      · decide
      · decide
    obtain ⟨x', ts', g', hx'⟩ := Good.two G hw g g2
    have := (w18_len hw).2.1
    exact ⟨x', ts', g', by omega⟩
theorem law_back (G : Pg c) : ∀ t, Gd 3 t → ∀ mu, Wf mu → Fn c 9 (.ref 351) [t.pv] mu (.bool true) mu := by
  intro t h mu W
  obtain ⟨x, ts, g, hx⟩ := good_Gd G h
  have e : lenB 3 = 105 := rfl
  exact back_of G g (by omega) (by omega) W
theorem law_row (G : Pg c) : ∀ n, n ≤ 20 → ∀ mu, Wf mu → Fn c 9 (.ref 351) [(rowT n).pv] mu (.bool true) mu := by
  intro n hn mu W
  obtain ⟨x, ts, g, hx⟩ := good_row G n hn
  exact back_of G g hn (by omega) W
end
-- text P50
section
theorem reads_ints {h : Heap} {P : Params} {g : GH} {al : List Addr} : ∀ {vs : List Value} (xs : List Int), WellAll P h vs (ofPys (xs.map PyData.int)) → RepL g al (xs.map PV.int) vs
  | vs, [], w => by
    cases w; rfl
  | vs, x :: xs, w => by
    obtain ⟨v, vs', rfl, w1, w2⟩ := wellAll_cons_inv (d := ofPy (.int x)) (ds := ofPys (xs.map PyData.int)) w
    have e : ∃ t, v = .int x t := by
      have w1 : Well P h v (.int x) := w1
      cases w1; exact ⟨_, rfl⟩
    obtain ⟨t, rfl⟩ := e
    exact ⟨_, _, rfl, ⟨t, rfl⟩, reads_ints xs w2⟩
theorem list_inv {h : Heap} {P : Params} {a : Addr} {xs : List WData} (w : Well P h (.ref a) (.list xs)) : ∃ vs : List Value, h.get? a = some { cls := .type "list", data := .seq vs.toArray } ∧ WellAll P h vs xs := by
  cases w with
  | list h1 h2 => exact ⟨_, h1, h2⟩
theorem top_of (hB : ∀ c : Cx, Pg c → ∀ t, Gd 3 t → ∀ mu, Wf mu → Fn c 9 (.ref 351) [t.pv] mu (.bool true) mu) (hR : ∀ c : Cx, Pg c → ∀ n, n ≤ 20 → ∀ mu, Wf mu → Fn c 9 (.ref 351) [(rowT n).pv] mu (.bool true) mu) : PySem.Challenge.rw_pf0011_01.Holds := by
  refine Mine.hd ?_
  intro w s₀ s₁ mg mb G Y a o pm cd doc dV kV ho hd hcd hD hmg hg args vals as hpre hlay hrd hwl hlo
  have KX := kIn_of Y
  have T := topRead_of G.T
  have ea : a = 363 := by
    have e1 : mg "law" = some (.ref 363) := mg_of KX T.g (n := "law") (by kernel_rfl)
    have e2 : mg "law" = some (.ref a) := hmg
    rw [e1] at e2
    cases e2; rfl
  subst ea
  clear ho hd hcd hD hmg
  wrow_args hpre hlay hrd hwl hlo
  rename_i w5 hs hlay0 hL1 hr1 hl2 w4 w3 w2 w1v w0 hL ra w1 r0 hI hr hc1 hc2
  let c : Cx := ⟨PySem.Challenge.rw_pf0011_01.row.prog, w, Mine.KFrag w.params, s₁.heap, mg, mb, s₁.os⟩
  have Gp : Pg c := ⟨⟨KX, T.g, T.b, T.nolimit, T.builtins⟩, rfl⟩
  obtain ⟨vs, hget, hW⟩ := list_inv (xs := ofPys (w5.map PyData.int)) w1
  have hx : w5.length < 100 := by omega
  have L := law_ok Gp (xs := w5) hx (hB c Gp) (hR c Gp) (number_right_ok Gp)
  have st : St c (fun a => s₁.heap.get? a) [] [] s₁ := ⟨⟨fun _ _ e => e, fun _ _ e => e, rfl, List.nodup_nil, by simp, by simp⟩, hg, rfl⟩
  have H := L.run (fun a => s₁.heap.get? a) [] s₁ callerA [.ref w2] ⟨rfl, by decide, by decide⟩ st ⟨_, _, rfl, ⟨w2, vs, _, rfl, hget, reads_ints w5 hW⟩, rfl⟩
  refine wpAny_call (codeAny_mono H fun r s' h => ?_)
  obtain ⟨y, rfl, g', al', S, st', hy⟩ := h
  have hy : y = .bool true := hy
  subst hy
  exact GoodW.toG ⟨.inl ⟨.bool true, .bool true, [], rfl, fun _ => rfl, ReadsW.bool true, by wrow_post, fun _ => ⟨List.nodup_nil, fun _ hm => nomatch hm⟩⟩, fun b o e => st'.hs.keep b o (st'.hs.base b o e), st'.os, st'.gens⟩
end
end Mine
theorem PySem.Challenge.cw_pf0011_01_holds : PySem.Challenge.rw_pf0011_01.Holds := by
  exact Mine.top_of (fun _ G => Mine.law_back G) (fun _ G => Mine.law_row G)
