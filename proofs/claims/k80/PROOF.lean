import PyProof.Rows.All
import Wide.All
import OpenK.AllK
import Wide.FinOn
import HandS.ForMost
import HandS.DictComp
import HandS.Style
import HandS.TupAny
import HandS.Deep
import HandS.Strs
import HandS.SetFor
import HandS.IsInst
import HandS.Wide
import HandS.SortInts
import PySem.Challenge.RW_texttoticks_k80_in_step_judged_state_by
set_option Elab.async false
set_option linter.all false
set_option maxRecDepth 100000
namespace TL
open PySem PySem.Spec L2

/-! ### values as trees: tuples and lists that are never changed again stand whole; what may change stands at an address -/
inductive T where
  | non | bl (b : Bool) | int (i : Int) | str (x : Str) | tup (ts : List T) | lst (ts : List T) | ref (a : Addr) | scr (ts : List T)
inductive TO where
  | lst (ts : List T) | dk (kvs : List (Key × T))
abbrev TH := Addr → Option TO
abbrev TSt := List (Option T)
def up (H : TH) (a : Addr) (o : TO) : TH := fun b => if b = a then some o else H b
theorem up_same {H : TH} {a : Addr} {o : TO} : up H a o a = some o := if_pos rfl
theorem up_ne {H : TH} {a b : Addr} {o : TO} (h : b ≠ a) : up H a o b = H b := if_neg h
theorem up_up {H : TH} {a : Addr} {o u : TO} : up (up H a o) a u = up H a u := by
  funext b
  unfold up
  split <;> rfl
def del (H : TH) (a : Addr) : TH := fun b => if b = a then none else H b
theorem del_up {H : TH} {a : Addr} {o : TO} (h : H a = none) : del (up H a o) a = H := by
  funext b
  unfold del up
  split
  · rename_i e
    rw [e, h]
  · rfl

section
variable (K : PySem.W.Frag) (Z : Addr → Prop) (H : TH) (Hc : Hp)
/-- the tuple at a, not to be changed -/
def TupAt (a : Addr) (vs : List V) : Prop := (Rd Hc a (.tup vs) ∧ H a = none) ∨
  ∃ (o : Obj) (its : Array Value) (n : Nat), K.lookup a = some o ∧ o.cls = .type "tuple" ∧ o.data = .seq its n ∧ its.size ≤ sizeLine ∧ Vals vs its.toList
/-- the list at a, not to be changed any more -/
def LstAt (a : Addr) (vs : List V) : Prop := Hc a = some (.lst vs) ∧ H a = none ∧ ¬ Z a
/-- the law's own list -/
def ScrAt (a : Addr) (vs : List V) : Prop := ((∃ o, Hc a = some (.frz o (.lst vs))) ∧ H a = none) ∨
  ∃ (o : Obj) (its : Array Value) (n : Nat), K.lookup a = some o ∧ o.cls = .type "list" ∧ o.dict = none ∧ o.data = .seq its n ∧ its.size ≤ sizeLine ∧ Vals vs its.toList
mutual
def Rep : T → V → Prop
  | .non, v => v = .non
  | .bl b, v => v = .bl b
  | .int i, v => v = .int i
  | .str x, v => v = .str x
  | .ref a, v => v = .ref a
  | .tup ts, v => ∃ a vs, v = .ref a ∧ TupAt K H Hc a vs ∧ Reps ts vs
  | .lst ts, v => ∃ a vs, v = .ref a ∧ LstAt Z H Hc a vs ∧ Reps ts vs
  | .scr ts, v => ∃ a vs, v = .ref a ∧ ScrAt K H Hc a vs ∧ Reps ts vs
def Reps : List T → List V → Prop
  | [], vs => vs = []
  | t :: ts, vs => ∃ v r, vs = v :: r ∧ Rep t v ∧ Reps ts r
end
def RepK : List (Key × T) → List (Key × V) → Prop := Paired fun p q => p.1 = q.1 ∧ Rep K Z H Hc p.2 q.2
def RepO (a : Addr) : TO → Prop
  | .lst ts => ∃ vs, Hc a = some (.lst vs) ∧ Reps K Z H Hc ts vs
  | .dk kvs => ∃ ws, Hc a = some (.dK ws) ∧ RepK K Z H Hc kvs ws
structure Abs : Prop where
  objs : ∀ a o, H a = some o → RepO K Z H Hc a o
  hid : ∀ a, Z a → H a = none ∧ ∃ o, Hc a = some o
/-- the slots -/
def RepS (σ : TSt) (τ : L2.St) : Prop := σ.length = τ.length ∧ ∀ (i : Nat) (t : T), σ[i]? = some (some t) → ∃ v, τ[i]? = some (some v) ∧ Rep K Z H Hc t v
end
/-- what is not ours to change is as it was -/
structure Ext (H : TH) (Hc : Hp) (H' : TH) (Hc' : Hp) : Prop where
  keep : ∀ a o, Hc a = some o → H a = none → Hc' a = some o ∧ H' a = none

section
variable {K : PySem.W.Frag} {Z : Addr → Prop} {H H' H2 : TH} {Hc Hc' Hc2 : Hp}
theorem Ext.refl : Ext H Hc H Hc := ⟨fun _ _ h n => ⟨h, n⟩⟩
theorem Ext.trans (a : Ext H Hc H' Hc') (b : Ext H' Hc' H2 Hc2) : Ext H Hc H2 Hc2 := ⟨fun c o h n => let ⟨x, y⟩ := a.keep c o h n; b.keep c o x y⟩
theorem Rd.ext {a : Addr} {u : HO} (e : Ext H Hc H' Hc') (h : Rd Hc a u) (n : H a = none) : Rd Hc' a u ∧ H' a = none := by
  rcases h with h | ⟨o, h⟩
  · exact ⟨.inl (e.keep _ _ h n).1, (e.keep _ _ h n).2⟩
  · exact ⟨.inr ⟨o, (e.keep _ _ h n).1⟩, (e.keep _ _ h n).2⟩
theorem TupAt.ext {a : Addr} {vs : List V} (e : Ext H Hc H' Hc') (h : TupAt K H Hc a vs) : TupAt K H' Hc' a vs := by
  rcases h with ⟨h, n⟩ | h
  · exact .inl (Rd.ext e h n)
  · exact .inr h
theorem TupAt.sq {a : Addr} {vs : List V} (h : TupAt K H Hc a vs) : SqT K Hc a vs := by
  rcases h with ⟨h, n⟩ | h
  · exact .inl h
  · exact .inr h
theorem LstAt.ext {a : Addr} {vs : List V} (e : Ext H Hc H' Hc') (h : LstAt Z H Hc a vs) : LstAt Z H' Hc' a vs :=
  let ⟨x, n⟩ := e.keep _ _ h.1 h.2.1
  ⟨x, n, h.2.2⟩
theorem LstAt.sq {a : Addr} {vs : List V} (h : LstAt Z H Hc a vs) : SqL K Hc a vs := .inl (.inl h.1)
theorem ScrAt.ext {a : Addr} {vs : List V} (e : Ext H Hc H' Hc') (h : ScrAt K H Hc a vs) : ScrAt K H' Hc' a vs := by
  rcases h with ⟨⟨o, q⟩, n⟩ | h
  · obtain ⟨x, n⟩ := e.keep _ _ q n
    exact .inl ⟨⟨o, x⟩, n⟩
  · exact .inr h
theorem ScrAt.sq {a : Addr} {vs : List V} (h : ScrAt K H Hc a vs) : SqL K Hc a vs := by
  rcases h with ⟨h, n⟩ | h
  · exact .inl (.inr h)
  · exact .inr h
mutual
theorem Rep.ext (e : Ext H Hc H' Hc') : ∀ (t : T) (v : V), Rep K Z H Hc t v → Rep K Z H' Hc' t v
  | .non, _, h => by unfold Rep at *; exact h
  | .bl _, _, h => by unfold Rep at *; exact h
  | .int _, _, h => by unfold Rep at *; exact h
  | .str _, _, h => by unfold Rep at *; exact h
  | .ref _, _, h => by unfold Rep at *; exact h
  | .tup ts, _, h => by
    unfold Rep at *
    obtain ⟨a, vs, e1, e2, e3⟩ := h
    exact ⟨a, vs, e1, e2.ext e, Reps.ext e ts vs e3⟩
  | .lst ts, _, h => by
    unfold Rep at *
    obtain ⟨a, vs, e1, e2, e3⟩ := h
    exact ⟨a, vs, e1, e2.ext e, Reps.ext e ts vs e3⟩
  | .scr ts, _, h => by
    unfold Rep at *
    obtain ⟨a, vs, e1, e2, e3⟩ := h
    exact ⟨a, vs, e1, e2.ext e, Reps.ext e ts vs e3⟩
theorem Reps.ext (e : Ext H Hc H' Hc') : ∀ (ts : List T) (vs : List V), Reps K Z H Hc ts vs → Reps K Z H' Hc' ts vs
  | [], _, h => by unfold Reps at *; exact h
  | t :: ts, _, h => by
    unfold Reps at *
    obtain ⟨v, r, e1, e2, e3⟩ := h
    exact ⟨v, r, e1, Rep.ext e t v e2, Reps.ext e ts r e3⟩
end
theorem RepK.ext (e : Ext H Hc H' Hc') {kvs : List (Key × T)} {ws : List (Key × V)} (h : RepK K Z H Hc kvs ws) : RepK K Z H' Hc' kvs ws :=
  Paired.mapP h fun _ _ r => ⟨r.1, Rep.ext e _ _ r.2⟩
theorem RepS.ext (e : Ext H Hc H' Hc') {σ : TSt} {τ : L2.St} (h : RepS K Z H Hc σ τ) : RepS K Z H' Hc' σ τ :=
  ⟨h.1, fun i t q => let ⟨v, a, b⟩ := h.2 i t q; ⟨v, a, Rep.ext e _ _ b⟩⟩

theorem reps_nil {vs : List V} : Reps K Z H Hc [] vs ↔ vs = [] := by unfold Reps; exact Iff.rfl
theorem reps_cons {t : T} {ts : List T} {vs : List V} : Reps K Z H Hc (t :: ts) vs ↔ ∃ v r, vs = v :: r ∧ Rep K Z H Hc t v ∧ Reps K Z H Hc ts r := by
  conv => lhs; unfold Reps
theorem Reps.length : ∀ {ts : List T} {vs : List V}, Reps K Z H Hc ts vs → ts.length = vs.length
  | [], _, h => by rw [reps_nil.mp h]; rfl
  | t :: ts, _, h => by
    obtain ⟨v, r, rfl, _, h⟩ := reps_cons.mp h
    rw [List.length_cons, List.length_cons, Reps.length h]
theorem Reps.get : ∀ {ts : List T} {vs : List V} {i : Nat} {t : T}, Reps K Z H Hc ts vs → ts[i]? = some t → ∃ v, vs[i]? = some v ∧ Rep K Z H Hc t v
  | [], _, _, _, _, q => by simp at q
  | u :: ts, _, 0, t, h, q => by
    obtain ⟨v, r, rfl, h1, _⟩ := reps_cons.mp h
    have e : u = t := Option.some.inj q
    subst e
    exact ⟨v, rfl, h1⟩
  | u :: ts, _, i + 1, t, h, q => by
    obtain ⟨v, r, rfl, _, h⟩ := reps_cons.mp h
    rw [List.getElem?_cons_succ] at q ⊢
    exact Reps.get h q
theorem Reps.append : ∀ {ts us : List T} {vs ws : List V}, Reps K Z H Hc ts vs → Reps K Z H Hc us ws → Reps K Z H Hc (ts ++ us) (vs ++ ws)
  | [], _, _, _, h, h2 => by rw [reps_nil.mp h]; exact h2
  | t :: ts, _, _, _, h, h2 => by
    obtain ⟨v, r, rfl, h1, h⟩ := reps_cons.mp h
    exact reps_cons.mpr ⟨v, _, rfl, h1, Reps.append h h2⟩
theorem Reps.take : ∀ {ts : List T} {vs : List V} (n : Nat), Reps K Z H Hc ts vs → Reps K Z H Hc (ts.take n) (vs.take n)
  | _, _, 0, _ => by simp [reps_nil]
  | [], _, n + 1, h => by rw [reps_nil.mp h]; simp [reps_nil]
  | t :: ts, _, n + 1, h => by
    obtain ⟨v, r, rfl, h1, h⟩ := reps_cons.mp h
    exact reps_cons.mpr ⟨v, _, rfl, h1, Reps.take n h⟩
theorem Reps.drop : ∀ {ts : List T} {vs : List V} (n : Nat), Reps K Z H Hc ts vs → Reps K Z H Hc (ts.drop n) (vs.drop n)
  | _, _, 0, h => by simpa using h
  | [], _, n + 1, h => by rw [reps_nil.mp h]; simp [reps_nil]
  | t :: ts, _, n + 1, h => by
    obtain ⟨v, r, rfl, h1, h⟩ := reps_cons.mp h
    simpa using Reps.drop n h
theorem Reps.snoc {ts : List T} {vs : List V} {t : T} {v : V} (h : Reps K Z H Hc ts vs) (h1 : Rep K Z H Hc t v) : Reps K Z H Hc (ts ++ [t]) (vs ++ [v]) :=
  h.append (reps_cons.mpr ⟨v, [], rfl, h1, reps_nil.mpr rfl⟩)
theorem Reps.reverse : ∀ {ts : List T} {vs : List V}, Reps K Z H Hc ts vs → Reps K Z H Hc ts.reverse vs.reverse
  | [], _, h => by rw [reps_nil.mp h]; simp [reps_nil]
  | t :: ts, _, h => by
    obtain ⟨v, r, rfl, h1, h⟩ := reps_cons.mp h
    rw [List.reverse_cons, List.reverse_cons]
    exact (Reps.reverse h).snoc h1
theorem Reps.dropLast {ts : List T} {vs : List V} (h : Reps K Z H Hc ts vs) : Reps K Z H Hc ts.dropLast vs.dropLast := by
  rw [List.dropLast_eq_take, List.dropLast_eq_take, h.length]
  exact h.take _
theorem Reps.set : ∀ {ts : List T} {vs : List V} (n : Nat) {t : T} {v : V}, Reps K Z H Hc ts vs → Rep K Z H Hc t v → Reps K Z H Hc (ts.set n t) (vs.set n v)
  | [], _, n, _, _, h, _ => by rw [reps_nil.mp h]; simp [reps_nil]
  | t :: ts, _, 0, _, _, h, g => by
    obtain ⟨v, r, rfl, h1, h⟩ := reps_cons.mp h
    exact reps_cons.mpr ⟨_, _, rfl, g, h⟩
  | t :: ts, _, n + 1, _, _, h, g => by
    obtain ⟨v, r, rfl, h1, h⟩ := reps_cons.mp h
    exact reps_cons.mpr ⟨_, _, rfl, h1, Reps.set n h g⟩
theorem Reps.eraseIdx : ∀ {ts : List T} {vs : List V} (n : Nat), Reps K Z H Hc ts vs → Reps K Z H Hc (ts.eraseIdx n) (vs.eraseIdx n)
  | [], _, n, h => by rw [reps_nil.mp h]; simp [reps_nil]
  | t :: ts, _, 0, h => by
    obtain ⟨v, r, rfl, h1, h⟩ := reps_cons.mp h
    exact h
  | t :: ts, _, n + 1, h => by
    obtain ⟨v, r, rfl, h1, h⟩ := reps_cons.mp h
    exact reps_cons.mpr ⟨_, _, rfl, h1, Reps.eraseIdx n h⟩
theorem Reps.rep {ts : List T} {vs : List V} (h : Reps K Z H Hc ts vs) : ∀ k : Nat, Reps K Z H Hc (List.replicate k ts).flatten (List.replicate k vs).flatten
  | 0 => reps_nil.mpr rfl
  | k + 1 => by
    rw [List.replicate_succ, List.replicate_succ, List.flatten_cons, List.flatten_cons]
    exact h.append (Reps.rep h k)
theorem Reps.nil_iff {ts : List T} {vs : List V} (h : Reps K Z H Hc ts vs) : vs = [] ↔ ts = [] := by
  have := h.length
  constructor
  · intro e; subst e; exact List.eq_nil_of_length_eq_zero this
  · intro e; subst e; exact List.eq_nil_of_length_eq_zero this.symm
/-- ints -/
theorem reps_ints : ∀ (ns : List Int) {vs : List V}, Reps K Z H Hc (ns.map T.int) vs ↔ vs = ns.map V.int
  | [], _ => reps_nil
  | n :: ns, vs => by
    rw [List.map_cons, reps_cons, List.map_cons]
    constructor
    · rintro ⟨v, r, rfl, h1, h2⟩
      unfold Rep at h1
      rw [(reps_ints ns).mp h2, h1]
    · rintro rfl
      exact ⟨_, _, rfl, by unfold Rep; rfl, (reps_ints ns).mpr rfl⟩
theorem reps_bls : ∀ (ns : List Bool) {vs : List V}, Reps K Z H Hc (ns.map T.bl) vs ↔ vs = ns.map V.bl
  | [], _ => reps_nil
  | n :: ns, vs => by
    rw [List.map_cons, reps_cons, List.map_cons]
    constructor
    · rintro ⟨v, r, rfl, h1, h2⟩
      unfold Rep at h1
      rw [(reps_bls ns).mp h2, h1]
    · rintro rfl
      exact ⟨_, _, rfl, by unfold Rep; rfl, (reps_bls ns).mpr rfl⟩

theorem Abs.of_con (A : Abs K Z H Hc) {a : Addr} (n : Hc a = none) : H a = none := by
  cases q : H a with
  | none => rfl
  | some o =>
    have := A.objs a o q
    cases o with
    | lst ts => obtain ⟨vs, e, _⟩ := this; rw [n] at e; cases e
    | dk ts => obtain ⟨vs, e, _⟩ := this; rw [n] at e; cases e
theorem Abs.notHid (A : Abs K Z H Hc) {a : Addr} {o : TO} (h : H a = some o) : ¬ Z a := fun z => by
  rw [(A.hid a z).1] at h
  cases h
theorem Abs.newHid (A : Abs K Z H Hc) {a : Addr} (n : Hc a = none) : ¬ Z a := fun z => by
  obtain ⟨o, e⟩ := (A.hid a z).2
  rw [n] at e
  cases e
/-- a new object comes, not tracked by the trees -/
theorem ext_con {p : Addr} {o : HO} (n : Hc p = none) : Ext H Hc H (upd Hc p o) := ⟨fun a u h m => ⟨by rw [upd_ne (ne_of_none h n)]; exact h, m⟩⟩
theorem RepO.ext {a : Addr} {o : TO} (e : Ext H Hc H' Hc') (st : ∀ u, Hc a = some u → Hc' a = some u) (h : RepO K Z H Hc a o) : RepO K Z H' Hc' a o := by
  cases o with
  | lst ts => obtain ⟨vs, e1, e2⟩ := h; exact ⟨vs, st _ e1, Reps.ext e _ _ e2⟩
  | dk kvs => obtain ⟨ws, e1, e2⟩ := h; exact ⟨ws, st _ e1, RepK.ext e e2⟩
theorem Abs.con (A : Abs K Z H Hc) {p : Addr} {o : HO} (n : Hc p = none) : Abs K Z H (upd Hc p o) where
  objs := fun a u h => RepO.ext (ext_con n) (fun w q => by rw [upd_ne (ne_of_none q n)]; exact q) (A.objs a u h)
  hid := fun a z => by
    obtain ⟨h, o, q⟩ := A.hid a z
    exact ⟨h, o, by rw [upd_ne (ne_of_none q n)]; exact q⟩
/-- a new object comes, tracked -/
theorem ext_new {p : Addr} {o : HO} {u : TO} (n : Hc p = none) : Ext H Hc (up H p u) (upd Hc p o) :=
  ⟨fun a w h m => ⟨by rw [upd_ne (ne_of_none h n)]; exact h, by rw [up_ne (ne_of_none h n)]; exact m⟩⟩
theorem Abs.new (A : Abs K Z H Hc) {p : Addr} {o : HO} {u : TO} (n : Hc p = none) (r : RepO K Z (up H p u) (upd Hc p o) p u) : Abs K Z (up H p u) (upd Hc p o) where
  objs := fun a w h => by
    by_cases e : a = p
    · subst e
      rw [up_same] at h
      cases h
      exact r
    · rw [up_ne e] at h
      exact RepO.ext (ext_new n) (fun w q => by rw [upd_ne (ne_of_none q n)]; exact q) (A.objs a w h)
  hid := fun a z => by
    obtain ⟨h, o, q⟩ := A.hid a z
    have e := ne_of_none q n
    exact ⟨by rw [up_ne e]; exact h, o, by rw [upd_ne e]; exact q⟩
/-- a tracked object is changed -/
theorem ext_put {p : Addr} {o : HO} {u v : TO} (h : H p = some v) : Ext H Hc (up H p u) (upd Hc p o) :=
  ⟨fun a w q m => by
    have e : a ≠ p := fun e => by subst e; rw [h] at m; cases m
    exact ⟨by rw [upd_ne e]; exact q, by rw [up_ne e]; exact m⟩⟩
theorem Abs.put (A : Abs K Z H Hc) {p : Addr} {o : HO} {u v : TO} (h : H p = some v) (r : RepO K Z (up H p u) (upd Hc p o) p u) : Abs K Z (up H p u) (upd Hc p o) where
  objs := fun a w q => by
    by_cases e : a = p
    · subst e
      rw [up_same] at q
      cases q
      exact r
    · rw [up_ne e] at q
      exact RepO.ext (ext_put h) (fun w q => by rw [upd_ne e]; exact q) (A.objs a w q)
  hid := fun a z => by
    obtain ⟨n, o, q⟩ := A.hid a z
    have e : a ≠ p := fun e => by subst e; rw [h] at n; cases n
    exact ⟨by rw [up_ne e]; exact n, o, by rw [upd_ne e]; exact q⟩
/-- fewer objects are tracked -/
def Sub (H' H : TH) : Prop := ∀ a o, H' a = some o → H a = some o
theorem Sub.refl : Sub H H := fun _ _ h => h
theorem Sub.ext (s : Sub H' H) : Ext H Hc H' Hc := ⟨fun a o h n => ⟨h, by
  cases q : H' a with
  | none => rfl
  | some u => rw [s a u q] at n; cases n⟩⟩
theorem Abs.sub (A : Abs K Z H Hc) (s : Sub H' H) : Abs K Z H' Hc where
  objs := fun a o h => RepO.ext s.ext (fun _ q => q) (A.objs a o (s a o h))
  hid := fun a z => ⟨(s.ext.keep a _ (A.hid a z).2.choose_spec (A.hid a z).1).2, (A.hid a z).2⟩
theorem sub_del {p : Addr} : Sub (del H p) H := fun a o h => by
  unfold del at h
  split at h
  · cases h
  · exact h
end

/-! ### readings by trees, brought to readings by values -/
abbrev KT := T → TH → Prop
abbrev WE := TSt → TH → KT → Prop
abbrev WA := TSt → TH → (List T → TH → Prop) → Prop
structure TEnds where
  nx : TSt → TH → Prop
  rt : KT
  bk : TSt → TH → Prop := fun _ _ => False
  ct : TSt → TH → Prop := fun _ _ => False
abbrev WS := TEnds → TSt → TH → Prop
section
variable (K : PySem.W.Frag)
def Post (Z : Addr → Prop) (H : TH) (Hc : Hp) (Q : KT) (R : VK) : Prop := ∀ t v H' Hc', Rep K Z H' Hc' t v → Abs K Z H' Hc' → Ext H Hc H' Hc' → Q t H' → R v Hc'
def PostA (Z : Addr → Prop) (H : TH) (Hc : Hp) (Q : List T → TH → Prop) (R : List V → Hp → Prop) : Prop := ∀ t v H' Hc', Reps K Z H' Hc' t v → Abs K Z H' Hc' → Ext H Hc H' Hc' → Q t H' → R v Hc'
def PostS (Z : Addr → Prop) (H : TH) (Hc : Hp) (Q : TSt → TH → Prop) (R : L2.St → Hp → Prop) : Prop := ∀ σ τ H' Hc', RepS K Z H' Hc' σ τ → Abs K Z H' Hc' → Ext H Hc H' Hc' → Q σ H' → R τ Hc'
def L (w : WE) : TE := fun τ Hc R => ∃ (Z : Addr → Prop) (σ : TSt) (H : TH) (Q : KT), RepS K Z H Hc σ τ ∧ Abs K Z H Hc ∧ w σ H Q ∧ Post K Z H Hc Q R
def LT (w : WE) : TT := fun τ Hc R => L K w τ Hc fun x Hc' => ∃ k, x = .bl k ∧ R k Hc'
def LA (w : WA) : TA := fun τ Hc R => ∃ (Z : Addr → Prop) (σ : TSt) (H : TH) (Q : List T → TH → Prop), RepS K Z H Hc σ τ ∧ Abs K Z H Hc ∧ w σ H Q ∧ PostA K Z H Hc Q R
def LS (w : WS) : TS := fun D τ Hc => ∃ (Z : Addr → Prop) (σ : TSt) (H : TH) (G : TEnds), RepS K Z H Hc σ τ ∧ Abs K Z H Hc ∧ w G σ H ∧
  PostS K Z H Hc G.nx D.nx ∧ Post K Z H Hc G.rt D.rt ∧ PostS K Z H Hc G.bk D.bk ∧ PostS K Z H Hc G.ct D.ct
end
section
variable {K : PySem.W.Frag} {Z : Addr → Prop} {H H' : TH} {Hc Hc' : Hp}
theorem Post.ext {Q : KT} {R : VK} (h : Post K Z H Hc Q R) (e : Ext H Hc H' Hc') : Post K Z H' Hc' Q R := fun t v _ _ r a x q => h t v _ _ r a (e.trans x) q
theorem PostA.ext {Q : List T → TH → Prop} {R : List V → Hp → Prop} (h : PostA K Z H Hc Q R) (e : Ext H Hc H' Hc') : PostA K Z H' Hc' Q R := fun t v _ _ r a x q => h t v _ _ r a (e.trans x) q
theorem PostS.ext {Q : TSt → TH → Prop} {R : L2.St → Hp → Prop} (h : PostS K Z H Hc Q R) (e : Ext H Hc H' Hc') : PostS K Z H' Hc' Q R := fun t v _ _ r a x q => h t v _ _ r a (e.trans x) q
theorem L.mono {w : WE} {τ : L2.St} {R R' : VK} (h : L K w τ Hc R) (i : ∀ v H, R v H → R' v H) : L K w τ Hc R' := by
  obtain ⟨Z, σ, H, Q, r, A, h, P⟩ := h
  exact ⟨Z, σ, H, Q, r, A, h, fun t v H' Hc' a b c d => i _ _ (P t v H' Hc' a b c d)⟩
theorem L.mk {w : WE} {σ : TSt} {τ : L2.St} {Q : KT} {R : VK} (r : RepS K Z H Hc σ τ) (A : Abs K Z H Hc) (h : w σ H Q) (p : Post K Z H Hc Q R) : L K w τ Hc R := ⟨Z, σ, H, Q, r, A, h, p⟩
end
section
variable {X : Cx}
theorem PE.imp {e : Expr} {t u : TE} (h : PE X e t) (i : ∀ σ H Q, u σ H Q → t σ H Q) : PE X e u := ⟨fun pins s σ H Q I q => h.run pins s σ H Q I (i σ H Q q)⟩
theorem PT.imp {e : Expr} {t u : TT} (h : PT X e t) (i : ∀ σ H Q, u σ H Q → t σ H Q) : PT X e u := ⟨fun pins s σ H Q I q => h.run pins s σ H Q I (i σ H Q q)⟩
theorem PW.imp {e : Expr} {t u : TT} (h : PW X e t) (i : ∀ σ H Q, u σ H Q → t σ H Q) : PW X e u := ⟨fun w pins s σ H Q I q => h.run w pins s σ H Q I (i σ H Q q)⟩
theorem PA.imp {e : List Expr} {t u : TA} (h : PA X e t) (i : ∀ σ H Q, u σ H Q → t σ H Q) : PA X e u := ⟨fun p pins s σ H Q I q => h.run p pins s σ H Q I (i σ H Q q)⟩
theorem PS.imp {e : Stmt} {t u : TS} (h : PS X e t) (i : ∀ D σ H, u D σ H → t D σ H) : PS X e u := ⟨fun pins s σ H D I q => h.run pins s σ H D I (i D σ H q)⟩
theorem PSs.imp {e : List Stmt} {t u : TS} (h : PSs X e t) (i : ∀ D σ H, u D σ H → t D σ H) : PSs X e u := ⟨fun pins s σ H D I q => h.run pins s σ H D I (i D σ H q)⟩
end
end TL
set_option maxRecDepth 100000
set_option maxHeartbeats 1000000
namespace TL
open PySem PySem.Spec L2

/-! ### what is asked of trees -/
def lk : TSt → Nat → Option T
  | [], _ => none
  | x :: _, 0 => x
  | _ :: r, n + 1 => lk r n
theorem lk_eq : ∀ {σ : TSt} {i : Nat} {t : T}, lk σ i = some t → σ[i]? = some (some t)
  | [], _, _, h => by cases h
  | x :: _, 0, _, h => by
    have e : x = some _ := h
    rw [e]
    rfl
  | _ :: r, n + 1, _, h => by
    rw [List.getElem?_cons_succ]
    exact lk_eq (σ := r) h
def lstOf (H : TH) : T → Option (List T)
  | .lst ts => some ts
  | .ref p => match H p with
    | some (.lst ts) => some ts
    | _ => none
  | _ => none
def seqOf (H : TH) : T → Option (List T)
  | .tup ts => some ts
  | .lst ts => some ts
  | .scr ts => some ts
  | .ref p => match H p with
    | some (.lst ts) => some ts
    | _ => none
  | _ => none
def asInts : List T → Option (List Int)
  | [] => some []
  | .int i :: r => (asInts r).map (i :: ·)
  | _ :: _ => none
def asBls : List T → Option (List Bool)
  | [] => some []
  | .bl i :: r => (asBls r).map (i :: ·)
  | _ :: _ => none
theorem asInts_eq : ∀ {ts : List T} {ns : List Int}, asInts ts = some ns → ts = ns.map T.int
  | [], ns, h => by
    cases h
    rfl
  | .int i :: r, ns, h => by
    unfold asInts at h
    cases q : asInts r with
    | none => rw [q] at h; cases h
    | some ms =>
      rw [q] at h
      cases h
      rw [List.map_cons, ← asInts_eq q]
  | .non :: _, _, h => by cases h
  | .bl _ :: _, _, h => by cases h
  | .str _ :: _, _, h => by cases h
  | .tup _ :: _, _, h => by cases h
  | .lst _ :: _, _, h => by cases h
  | .ref _ :: _, _, h => by cases h
  | .scr _ :: _, _, h => by cases h
theorem asBls_eq : ∀ {ts : List T} {ns : List Bool}, asBls ts = some ns → ts = ns.map T.bl
  | [], ns, h => by
    cases h
    rfl
  | .bl i :: r, ns, h => by
    unfold asBls at h
    cases q : asBls r with
    | none => rw [q] at h; cases h
    | some ms =>
      rw [q] at h
      cases h
      rw [List.map_cons, ← asBls_eq q]
  | .non :: _, _, h => by cases h
  | .int _ :: _, _, h => by cases h
  | .str _ :: _, _, h => by cases h
  | .tup _ :: _, _, h => by cases h
  | .lst _ :: _, _, h => by cases h
  | .ref _ :: _, _, h => by cases h
  | .scr _ :: _, _, h => by cases h
theorem asInts_map : ∀ ns : List Int, asInts (ns.map T.int) = some ns
  | [] => rfl
  | n :: ns => by
    rw [List.map_cons]
    unfold asInts
    rw [asInts_map ns]
    rfl
theorem asBls_map : ∀ ns : List Bool, asBls (ns.map T.bl) = some ns
  | [] => rfl
  | n :: ns => by
    rw [List.map_cons]
    unfold asBls
    rw [asBls_map ns]
    rfl
theorem asInts_mapf {α : Type} (f : α → Int) (l : List α) : asInts (l.map fun x => T.int (f x)) = some (l.map f) := by
  have := asInts_map (l.map f)
  rw [List.map_map] at this
  exact this
theorem asBls_mapf {α : Type} (f : α → Bool) (l : List α) : asBls (l.map fun x => T.bl (f x)) = some (l.map f) := by
  have := asBls_map (l.map f)
  rw [List.map_map] at this
  exact this
mutual
def toD : T → PyData
  | .non => .none
  | .bl b => .bool b
  | .int i => .int i
  | .str x => .str x
  | .tup ts => .tuple (toDs ts)
  | .lst ts => .list (toDs ts)
  | .scr ts => .list (toDs ts)
  | .ref _ => .none
def toDs : List T → List PyData
  | [] => []
  | t :: ts => toD t :: toDs ts
end
mutual
def noRef : T → Bool
  | .ref _ => false
  | .tup ts => noRefs ts
  | .lst ts => noRefs ts
  | .scr ts => noRefs ts
  | _ => true
def noRefs : List T → Bool
  | [] => true
  | t :: ts => noRef t && noRefs ts
end
def shp (t : T) : Bool := noRef t && SeqAt.shaped (toD t)
def eqT (t u : T) : Bool := PyData.eqv (toD t) (toD u)
def flatT : T → Bool
  | .non => true
  | .bl _ => true
  | .int _ => true
  | .str _ => true
  | _ => false
def inT (x : T) (ts : List T) : Bool := ts.any fun y => eqT y x
def keyT : T → Option Key
  | .int i => some (.inl i)
  | .str x => some (.inr x)
  | _ => none
def getK : List (Key × T) → Key → Option T
  | [], _ => none
  | p :: r, k => if p.1 = k then some p.2 else getK r k
def setK (kvs : List (Key × T)) (k : Key) (v : T) : List (Key × T) :=
  if (kvs.any fun kv => decide (kv.1 = k)) = true then kvs.map (fun kv => if kv.1 = k then (kv.1, v) else kv) else kvs ++ [(k, v)]
def isNon : T → Bool
  | .non => true
  | _ => false
/-- a new list: one that may change, or one that is never changed again -/
def mk (fz : Bool) (ts : List T) (H : TH) (Q : KT) : Prop := if fz = true then Q (.lst ts) H else ∀ p, H p = none → Q (.ref p) (up H p (.lst ts))

section
variable {K : PySem.W.Frag} {Z : Addr → Prop} {H H' : TH} {Hc Hc' : Hp}
theorem rep_int {i : Int} {v : V} : Rep K Z H Hc (.int i) v ↔ v = .int i := by unfold Rep; exact Iff.rfl
theorem rep_bl {i : Bool} {v : V} : Rep K Z H Hc (.bl i) v ↔ v = .bl i := by unfold Rep; exact Iff.rfl
theorem rep_non {v : V} : Rep K Z H Hc .non v ↔ v = .non := by unfold Rep; exact Iff.rfl
theorem rep_str {i : Str} {v : V} : Rep K Z H Hc (.str i) v ↔ v = .str i := by unfold Rep; exact Iff.rfl
theorem rep_ref {i : Addr} {v : V} : Rep K Z H Hc (.ref i) v ↔ v = .ref i := by unfold Rep; exact Iff.rfl
theorem rep_tup {ts : List T} {v : V} : Rep K Z H Hc (.tup ts) v ↔ ∃ a vs, v = .ref a ∧ TupAt K H Hc a vs ∧ Reps K Z H Hc ts vs := by conv => lhs; unfold Rep
theorem rep_lst {ts : List T} {v : V} : Rep K Z H Hc (.lst ts) v ↔ ∃ a vs, v = .ref a ∧ LstAt Z H Hc a vs ∧ Reps K Z H Hc ts vs := by conv => lhs; unfold Rep
theorem rep_scr {ts : List T} {v : V} : Rep K Z H Hc (.scr ts) v ↔ ∃ a vs, v = .ref a ∧ ScrAt K H Hc a vs ∧ Reps K Z H Hc ts vs := by conv => lhs; unfold Rep
theorem rep_tup_new {ts : List T} {vs : List V} {p : Addr} (A : Abs K Z H Hc) (n : Hc p = none) (r : Reps K Z H Hc ts vs) : Rep K Z H (upd Hc p (.tup vs)) (.tup ts) (.ref p) :=
  rep_tup.mpr ⟨p, vs, rfl, .inl ⟨.inl upd_same, A.of_con n⟩, Reps.ext (ext_con n) _ _ r⟩
theorem rep_lst_new {ts : List T} {vs : List V} {p : Addr} (A : Abs K Z H Hc) (n : Hc p = none) (r : Reps K Z H Hc ts vs) : Rep K Z H (upd Hc p (.lst vs)) (.lst ts) (.ref p) :=
  rep_lst.mpr ⟨p, vs, rfl, ⟨upd_same, A.of_con n, A.newHid n⟩, Reps.ext (ext_con n) _ _ r⟩
/-- a new tuple -/
theorem tup_ok {ts : List T} {vs : List V} {Q : KT} {R : VK} (q : Q (.tup ts) H) (A : Abs K Z H Hc) (r : Reps K Z H Hc ts vs) (P : Post K Z H Hc Q R) : ∀ p, Hc p = none → R (.ref p) (upd Hc p (.tup vs)) := fun p n =>
  P _ _ H _ (rep_tup_new A n r) (A.con n) (ext_con n) q
/-- a new list -/
theorem mk_ok {fz : Bool} {ts : List T} {vs : List V} {Q : KT} {R : VK} (q : mk fz ts H Q) (A : Abs K Z H Hc) (r : Reps K Z H Hc ts vs) (P : Post K Z H Hc Q R) : ∀ p, Hc p = none → R (.ref p) (upd Hc p (.lst vs)) := fun p n => by
  unfold mk at q
  cases fz with
  | true => exact P _ _ H _ (rep_lst_new A n r) (A.con n) (ext_con n) q
  | false =>
    have q := q p (A.of_con n)
    exact P _ _ _ _ (rep_ref.mpr rfl) (A.new (u := .lst ts) n ⟨vs, upd_same, Reps.ext (ext_new n) _ _ r⟩) (ext_new n) q
/-- a tracked list changes -/
theorem put_ok {p : Addr} {ts ts' : List T} {vs' : List V} {t : T} {v : V} {Q : KT} {R : VK} (e : H p = some (.lst ts)) (q : Q t (up H p (.lst ts'))) (A : Abs K Z H Hc) (rt : Rep K Z H Hc t v) (r : Reps K Z H Hc ts' vs') (P : Post K Z H Hc Q R) :
    R v (upd Hc p (.lst vs')) :=
  P _ _ _ _ (Rep.ext (ext_put e) _ _ rt) (A.put (u := .lst ts') e ⟨vs', upd_same, Reps.ext (ext_put e) _ _ r⟩) (ext_put e) q
theorem lst_at {p : Addr} {ts : List T} (A : Abs K Z H Hc) (e : H p = some (.lst ts)) : ∃ vs, Hc p = some (.lst vs) ∧ Reps K Z H Hc ts vs := A.objs p _ e
theorem dk_at {p : Addr} {kvs : List (Key × T)} (A : Abs K Z H Hc) (e : H p = some (.dk kvs)) : ∃ ws, Hc p = some (.dK ws) ∧ RepK K Z H Hc kvs ws := A.objs p _ e
theorem lstOf_ok {t : T} {v : V} {ts : List T} (A : Abs K Z H Hc) (r : Rep K Z H Hc t v) (e : lstOf H t = some ts) : ∃ a vs, v = .ref a ∧ Hc a = some (.lst vs) ∧ Reps K Z H Hc ts vs := by
  cases t with
  | lst us =>
    cases e
    obtain ⟨a, vs, e1, e2, e3⟩ := rep_lst.mp r
    exact ⟨a, vs, e1, e2.1, e3⟩
  | ref p =>
    have e1 := rep_ref.mp r
    unfold lstOf at e
    cases q : H p with
    | none => simp only [q] at e; cases e
    | some o =>
      cases o with
      | lst us =>
        simp only [q] at e
        cases e
        obtain ⟨vs, e2, e3⟩ := lst_at A q
        exact ⟨p, vs, e1, e2, e3⟩
      | dk us => simp only [q] at e; cases e
  | _ => cases e
theorem seqOf_ok {t : T} {v : V} {ts : List T} (A : Abs K Z H Hc) (r : Rep K Z H Hc t v) (e : seqOf H t = some ts) : ∃ a vs, v = .ref a ∧ (SqL K Hc a vs ∨ SqT K Hc a vs) ∧ Reps K Z H Hc ts vs := by
  cases t with
  | lst us =>
    cases e
    obtain ⟨a, vs, e1, e2, e3⟩ := rep_lst.mp r
    exact ⟨a, vs, e1, .inl e2.sq, e3⟩
  | scr us =>
    cases e
    obtain ⟨a, vs, e1, e2, e3⟩ := rep_scr.mp r
    exact ⟨a, vs, e1, .inl e2.sq, e3⟩
  | tup us =>
    cases e
    obtain ⟨a, vs, e1, e2, e3⟩ := rep_tup.mp r
    exact ⟨a, vs, e1, .inr e2.sq, e3⟩
  | ref p =>
    have e1 := rep_ref.mp r
    unfold seqOf at e
    cases q : H p with
    | none => simp only [q] at e; cases e
    | some o =>
      cases o with
      | lst us =>
        simp only [q] at e
        cases e
        obtain ⟨vs, e2, e3⟩ := lst_at A q
        exact ⟨p, vs, e1, .inl (SqL.of e2), e3⟩
      | dk us => simp only [q] at e; cases e
  | _ => cases e
mutual
theorem dp_of (A : Abs K Z H Hc) : ∀ (t : T) (v : V), noRef t = true → Rep K Z H Hc t v → Dp K Hc v (toD t)
  | .non, v, _, r => by rw [rep_non.mp r]; exact .non
  | .bl b, v, _, r => by rw [rep_bl.mp r]; exact .bl b
  | .int b, v, _, r => by rw [rep_int.mp r]; exact .int b
  | .str b, v, _, r => by rw [rep_str.mp r]; exact .str b
  | .ref _, _, n, _ => by cases n
  | .tup ts, v, n, r => by
    obtain ⟨a, vs, e1, e2, e3⟩ := rep_tup.mp r
    rw [e1]
    exact .tup e2.sq (dps_of A ts vs n e3)
  | .lst ts, v, n, r => by
    obtain ⟨a, vs, e1, e2, e3⟩ := rep_lst.mp r
    rw [e1]
    exact .lst e2.sq (dps_of A ts vs n e3)
  | .scr ts, v, n, r => by
    obtain ⟨a, vs, e1, e2, e3⟩ := rep_scr.mp r
    rw [e1]
    exact .lst e2.sq (dps_of A ts vs n e3)
theorem dps_of (A : Abs K Z H Hc) : ∀ (ts : List T) (vs : List V), noRefs ts = true → Reps K Z H Hc ts vs → DpAll K Hc vs (toDs ts)
  | [], vs, _, r => by
    rw [reps_nil.mp r]
    exact .nil
  | t :: ts, vs, n, r => by
    obtain ⟨v, w, e, h1, h2⟩ := reps_cons.mp r
    rw [e]
    have n' := Bool.and_eq_true_iff.mp n
    exact .cons (dp_of A t v n'.1 h1) (dps_of A ts w n'.2 h2)
end
theorem flat_v {t : T} {v : V} (f : flatT t = true) (r : Rep K Z H Hc t v) : flatV v = true := by
  cases t with
  | non => rw [rep_non.mp r]; rfl
  | bl b => rw [rep_bl.mp r]; rfl
  | int b => rw [rep_int.mp r]; rfl
  | str b => rw [rep_str.mp r]; rfl
  | _ => cases f
theorem flat_all : ∀ {ts : List T} {vs : List V}, ts.all flatT = true → Reps K Z H Hc ts vs → vs.all flatV = true
  | [], _, _, r => by rw [reps_nil.mp r]; rfl
  | t :: ts, _, f, r => by
    obtain ⟨v, w, rfl, h1, h2⟩ := reps_cons.mp r
    rw [List.all_cons, Bool.and_eq_true] at f ⊢
    exact ⟨flat_v f.1 h1, flat_all f.2 h2⟩
theorem eqV_eq {t u : T} {v w : V} (f : flatT t = true) (g : flatT u = true) (r : Rep K Z H Hc t v) (r2 : Rep K Z H Hc u w) : eqV v w = eqT t u := by
  cases t with
  | non =>
    rw [rep_non.mp r]
    cases u with
    | non => rw [rep_non.mp r2]; simp [eqV, eqT, toD, PyData.eqv]
    | bl b => rw [rep_bl.mp r2]; simp [eqV, eqT, toD, PyData.eqv]
    | int b => rw [rep_int.mp r2]; simp [eqV, eqT, toD, PyData.eqv]
    | str b => rw [rep_str.mp r2]; simp [eqV, eqT, toD, PyData.eqv]
    | _ => cases g
  | bl a =>
    rw [rep_bl.mp r]
    cases u with
    | non => rw [rep_non.mp r2]; simp [eqV, eqT, toD, PyData.eqv]
    | bl b => rw [rep_bl.mp r2]; simp [eqV, eqT, toD, PyData.eqv]
    | int b => rw [rep_int.mp r2]; simp [eqV, eqT, toD, PyData.eqv]
    | str b => rw [rep_str.mp r2]; simp [eqV, eqT, toD, PyData.eqv]
    | _ => cases g
  | int a =>
    rw [rep_int.mp r]
    cases u with
    | non => rw [rep_non.mp r2]; simp [eqV, eqT, toD, PyData.eqv]
    | bl b => rw [rep_bl.mp r2]; simp [eqV, eqT, toD, PyData.eqv]
    | int b => rw [rep_int.mp r2]; simp [eqV, eqT, toD, PyData.eqv]
    | str b => rw [rep_str.mp r2]; simp [eqV, eqT, toD, PyData.eqv]
    | _ => cases g
  | str a =>
    rw [rep_str.mp r]
    cases u with
    | non => rw [rep_non.mp r2]; simp [eqV, eqT, toD, PyData.eqv]
    | bl b => rw [rep_bl.mp r2]; simp [eqV, eqT, toD, PyData.eqv]
    | int b => rw [rep_int.mp r2]; simp [eqV, eqT, toD, PyData.eqv]
    | str b => rw [rep_str.mp r2]; simp [eqV, eqT, toD, PyData.eqv]
    | _ => cases g
  | _ => cases f
theorem inV_eq {t : T} {v : V} (f : flatT t = true) (r : Rep K Z H Hc t v) : ∀ {ts : List T} {vs : List V}, ts.all flatT = true → Reps K Z H Hc ts vs → inV v vs = inT t ts
  | [], _, _, q => by rw [reps_nil.mp q]; rfl
  | u :: ts, _, g, q => by
    obtain ⟨w, ws, rfl, h1, h2⟩ := reps_cons.mp q
    rw [List.all_cons, Bool.and_eq_true] at g
    have := inV_eq f r g.2 h2
    unfold inV inT at *
    rw [List.any_cons, List.any_cons, this, eqV_eq g.1 f h1 r]
/-- a dict's pairs -/
theorem repK_val : ∀ {kvs : List (Key × T)} {ws : List (Key × V)} (k : Key), RepK K Z H Hc kvs ws → (match getK kvs k with
    | some t => ∃ v, valV ws k = some v ∧ Rep K Z H Hc t v
    | none => valV ws k = none)
  | [], _, k, .nil => by simp [getK, valV_nil]
  | p :: r, q :: s, k, .cons h t => by
    unfold getK
    by_cases e : p.1 = k
    · rw [if_pos e, valV_pos (h.1.symm.trans e)]
      exact ⟨q.2, rfl, h.2⟩
    · rw [if_neg e, valV_neg (fun z => e (h.1.trans z))]
      exact repK_val k t
theorem repK_any : ∀ {kvs : List (Key × T)} {ws : List (Key × V)} (k : Key), RepK K Z H Hc kvs ws → (ws.any fun kv => decide (kv.1 = k)) = (kvs.any fun kv => decide (kv.1 = k))
  | [], _, k, .nil => rfl
  | p :: r, q :: s, k, .cons h t => by
    rw [List.any_cons, List.any_cons, repK_any k t, h.1]
theorem repK_put {kvs : List (Key × T)} {ws : List (Key × V)} {k : Key} {t : T} {v : V} (h : RepK K Z H Hc kvs ws) (r : Rep K Z H Hc t v) : RepK K Z H Hc (setK kvs k t) (putK ws k v) := by
  have upd1 : ∀ {kvs : List (Key × T)} {ws : List (Key × V)}, RepK K Z H Hc kvs ws → RepK K Z H Hc (kvs.map (fun kv => if kv.1 = k then (kv.1, t) else kv)) (ws.map (fun kv => if kv.1 = k then (kv.1, v) else kv)) := by
    intro kvs ws h
    induction h with
    | nil => exact .nil
    | @cons p q _ _ h1 _ ih =>
      rw [List.map_cons, List.map_cons]
      refine .cons ?_ ih
      by_cases e : p.1 = k
      · rw [if_pos e, if_pos (h1.1.symm.trans e)]
        exact ⟨h1.1, r⟩
      · rw [if_neg e, if_neg (fun z => e (h1.1.trans z))]
        exact h1
  have app1 : ∀ {kvs : List (Key × T)} {ws : List (Key × V)}, RepK K Z H Hc kvs ws → RepK K Z H Hc (kvs ++ [(k, t)]) (ws ++ [(k, v)]) := by
    intro kvs ws h
    induction h with
    | nil => exact .cons ⟨rfl, r⟩ .nil
    | cons h1 _ ih => exact .cons h1 ih
  unfold setK putK
  rw [repK_any k h]
  split
  · exact upd1 h
  · exact app1 h
theorem repK_length {kvs : List (Key × T)} {ws : List (Key × V)} (h : RepK K Z H Hc kvs ws) : kvs.length = ws.length := Paired.length h
theorem keyT_ok {t : T} {v : V} {k : Key} (e : keyT t = some k) (r : Rep K Z H Hc t v) : v = kV k := by
  cases t with
  | int i =>
    cases e
    exact rep_int.mp r
  | str i =>
    cases e
    exact rep_str.mp r
  | _ => cases e
theorem dput_ok {p : Addr} {kvs kvs' : List (Key × T)} {ws' : List (Key × V)} {t : T} {v : V} {Q : KT} {R : VK} (e : H p = some (.dk kvs)) (q : Q t (up H p (.dk kvs'))) (A : Abs K Z H Hc) (rt : Rep K Z H Hc t v) (r : RepK K Z H Hc kvs' ws') (P : Post K Z H Hc Q R) :
    R v (upd Hc p (.dK ws')) :=
  P _ _ _ _ (Rep.ext (ext_put e) _ _ rt) (A.put (u := .dk kvs') e ⟨ws', upd_same, RepK.ext (ext_put e) r⟩) (ext_put e) q
end
end TL
set_option maxRecDepth 100000
set_option maxHeartbeats 1000000
namespace TL
open PySem PySem.Spec L2

/-! ### operations on trees -/
abbrev O2 := T → T → TH → KT → Prop
abbrev OC := List T → TH → KT → Prop
abbrev OM := T → List T → TH → KT → Prop
abbrev OS := T → Option Int → Option Int → TH → KT → Prop
def oAdd (fz : Bool) : O2 := fun t u H Q => match t, u with
  | .int i, .int j => Q (.int (i + j)) H
  | .tup xs, .tup ys => xs.length + ys.length ≤ sizeLine ∧ Q (.tup (xs ++ ys)) H
  | t, u => match lstOf H t, lstOf H u with
    | some xs, some ys => xs.length + ys.length ≤ sizeLine ∧ mk fz (xs ++ ys) H Q
    | _, _ => False
def oSub : O2 := fun t u H Q => match t, u with
  | .int i, .int j => Q (.int (i - j)) H
  | _, _ => False
def oMul (fz : Bool) : O2 := fun t u H Q => match t, u with
  | .int i, .int j => CMul i j ∧ Q (.int (i * j)) H
  | t, .int k => match lstOf H t with
    | some xs => (-(2 ^ 63) ≤ k ∧ k < 2 ^ 63 ∧ xs.length * k.toNat ≤ sizeLine) ∧ mk fz (List.replicate k.toNat xs).flatten H Q
    | _ => False
  | _, _ => False
def oDiv : O2 := fun t u H Q => match t, u with
  | .int i, .int j => CDiv i j ∧ Q (.int (i / j)) H
  | _, _ => False
def oMod : O2 := fun t u H Q => match t, u with
  | .int i, .int j => 0 < j ∧ Q (.int (i % j)) H
  | _, _ => False
def oPow : O2 := fun t u H Q => match t, u with
  | .int i, .int j => CPow i j ∧ Q (.int (i ^ j.toNat)) H
  | _, _ => False
def oEq (neg : Bool) : O2 := fun t u H Q => match t, u with
  | .int i, .int j => Q (.bl (neg ^^ decide (i = j))) H
  | t, u => (shp t = true ∧ shp u = true) ∧ Q (.bl (neg ^^ eqT t u)) H
def oCmp (p : Int → Int → Bool) : O2 := fun t u H Q => match t, u with
  | .int i, .int j => Q (.bl (p i j)) H
  | _, _ => False
def oIn (neg : Bool) : O2 := fun t u H Q => match seqOf H u with
  | some ts => (flatT t = true ∧ ts.all flatT = true) ∧ Q (.bl (neg ^^ inT t ts)) H
  | none => match u with
    | .ref p => match H p with
      | some (.dk kvs) => match keyT t with
        | some k => Q (.bl (neg ^^ (getK kvs k).isSome)) H
        | none => False
      | _ => False
    | _ => False
def oIs (neg : Bool) : O2 := fun t u H Q => u = .non ∧ Q (.bl (neg ^^ isNon t)) H
def oIx : O2 := fun t u H Q => match seqOf H t with
  | some ts => match u with
    | .int i => match atI ts i with
      | some x => Q x H
      | none => False
    | _ => False
  | none => match t with
    | .ref p => match H p with
      | some (.dk kvs) => match keyT u with
        | some k => match getK kvs k with
          | some x => Q x H
          | none => False
        | none => False
      | _ => False
    | _ => False
def cutT (xs : List T) (lo hi : Option Int) : List T := (xs.drop (HT.sIx xs.length 0 lo)).take (HT.sIx xs.length xs.length hi - HT.sIx xs.length 0 lo)
def oSl (fz : Bool) : OS := fun t lo hi H Q => match t with
  | .tup ts => Q (.tup (cutT ts lo hi)) H
  | t => match lstOf H t with
    | some ts => mk fz (cutT ts lo hi) H Q
    | none => False
def cLen : OC := fun ts H Q => match ts with
  | [t] => match seqOf H t with
    | some xs => Q (.int xs.length) H
    | none => match t with
      | .ref p => match H p with
        | some (.dk kvs) => Q (.int kvs.length) H
        | _ => False
      | _ => False
  | _ => False
def cTuple : OC := fun ts H Q => match ts with
  | [t] => match seqOf H t with
    | some xs => Q (.tup xs) H
    | none => False
  | _ => False
def cList (fz : Bool) : OC := fun ts H Q => match ts with
  | [t] => match seqOf H t with
    | some xs => mk fz xs H Q
    | none => False
  | _ => False
def ins (x : Int) : List Int → List Int
  | [] => [x]
  | y :: r => if x ≤ y then x :: y :: r else y :: ins x r
def isort : List Int → List Int
  | [] => []
  | x :: r => ins x (isort r)
def keysI : List (Key × T) → Option (List Int)
  | [] => some []
  | (.inl i, _) :: r => (keysI r).map (i :: ·)
  | (.inr _, _) :: _ => none
def cSorted (fz : Bool) : OC := fun ts H Q => match ts with
  | [t] => match seqOf H t with
    | some xs => match asInts xs with
      | some ns => mk fz ((isort ns).map T.int) H Q
      | none => False
    | none => match t with
      | .ref p => match H p with
        | some (.dk kvs) => match keysI kvs with
          | some ns => ns.length ≤ sizeLine ∧ mk fz ((isort ns).map T.int) H Q
          | none => False
        | _ => False
      | _ => False
  | _ => False
def cAll : OC := fun ts H Q => match ts with
  | [t] => match lstOf H t with
    | some xs => match asBls xs with
      | some bs => Q (.bl (bs.all id)) H
      | none => False
    | none => False
  | _ => False
def cAny : OC := fun ts H Q => match ts with
  | [t] => match lstOf H t with
    | some xs => match asBls xs with
      | some bs => Q (.bl (bs.any id)) H
      | none => False
    | none => False
  | _ => False
def cSum : OC := fun ts H Q => match ts with
  | [t] => match lstOf H t with
    | some xs => match asInts xs with
      | some ns => Q (.int ns.sum) H
      | none => False
    | none => False
  | _ => False
def maxI : List Int → Int
  | [] => 0
  | [x] => x
  | x :: r => if maxI r < x then x else maxI r
def minI : List Int → Int
  | [] => 0
  | [x] => x
  | x :: r => if x < minI r then x else minI r
def cMax : OC := fun ts H Q => match ts with
  | [t] => match lstOf H t with
    | some xs => match asInts xs with
      | some ns => ns ≠ [] ∧ Q (.int (maxI ns)) H
      | none => False
    | none => False
  | _ => False
def cMin : OC := fun ts H Q => match ts with
  | [t] => match lstOf H t with
    | some xs => match asInts xs with
      | some ns => ns ≠ [] ∧ Q (.int (minI ns)) H
      | none => False
    | none => False
  | _ => False
def cInt : OC := fun ts H Q => match ts with
  | [.int i] => Q (.int i) H
  | [.bl b] => Q (.int (if b then 1 else 0)) H
  | _ => False
inductive Ty where
  | int | bool | str | tuple
def Ty.nm : Ty → String
  | .int => "int"
  | .bool => "bool"
  | .str => "str"
  | .tuple => "tuple"
def tyOf : T → Option String
  | .non => some "NoneType"
  | .bl _ => some "bool"
  | .int _ => some "int"
  | .str _ => some "str"
  | .tup _ => some "tuple"
  | .lst _ => some "list"
  | .scr _ => some "list"
  | .ref _ => none
def isTy (t : T) (y : Ty) : Bool := match y, t with
  | .int, .int _ => true
  | .int, .bl _ => true
  | .bool, .bl _ => true
  | .str, .str _ => true
  | .tuple, .tup _ => true
  | _, _ => false
def cIsinst (y : Ty) : OC := fun ts H Q => match ts with
  | [.ref _] => False
  | [t] => Q (.bl (isTy t y)) H
  | _ => False
def mAppend : OM := fun t us H Q => match t, us with
  | .ref p, [u] => match H p with
    | some (.lst ts) => ts.length < sizeLine ∧ Q .non (up H p (.lst (ts ++ [u])))
    | _ => False
  | _, _ => False
def mPop : OM := fun t us H Q => match t, us with
  | .ref p, [] => match H p with
    | some (.lst ts) => match ts.getLast? with
      | some x => Q x (up H p (.lst ts.dropLast))
      | none => False
    | _ => False
  | _, _ => False
def mPopAt : OM := fun t us H Q => match t, us with
  | .ref p, [.int i] => match H p with
    | some (.lst ts) => match ixN ts.length i with
      | some k => match ts[k]? with
        | some x => ts.length ≤ sizeLine ∧ Q x (up H p (.lst (ts.eraseIdx k)))
        | none => False
      | none => False
    | _ => False
  | _, _ => False
def mReverse : OM := fun t us H Q => match t, us with
  | .ref p, [] => match H p with
    | some (.lst ts) => Q .non (up H p (.lst ts.reverse))
    | _ => False
  | _, _ => False
def mGet1 : OM := fun t us H Q => match t, us with
  | .ref p, [u] => match H p with
    | some (.dk kvs) => match keyT u with
      | some k => Q ((getK kvs k).getD .non) H
      | none => False
    | _ => False
  | _, _ => False
def mGet2 : OM := fun t us H Q => match t, us with
  | .ref p, [u, d] => match H p with
    | some (.dk kvs) => match keyT u with
      | some k => Q ((getK kvs k).getD d) H
      | none => False
    | _ => False
  | _, _ => False
/-- a[i] = e -/
def oSet (o i e : T) (H : TH) (Q : TH → Prop) : Prop := match o with
  | .ref p => match H p with
    | some (.lst ts) => match i with
      | .int n => match ixN ts.length n with
        | some j => Q (up H p (.lst (ts.set j e)))
        | none => False
      | _ => False
    | some (.dk kvs) => match keyT i with
      | some k => kvs.length < sizeLine ∧ Q (up H p (.dk (setK kvs k e)))
      | none => False
    | none => False
  | _ => False
/-- x += e -/
def oAug : O2 := fun t u H Q => match t, u with
  | .int i, .int j => Q (.int (i + j)) H
  | .ref p, u => match H p, lstOf H u with
    | some (.lst xs), some ys => xs.length + ys.length ≤ sizeLine ∧ Q (.ref p) (up H p (.lst (xs ++ ys)))
    | _, _ => False
  | _, _ => False

/-! ### the operations by values -/
section
variable (K : PySem.W.Frag)
def lift2 (o : O2) : R2 := fun x y Hc R => ∃ (Z : Addr → Prop) (H : TH) (t u : T) (Q : KT), Abs K Z H Hc ∧ Rep K Z H Hc t x ∧ Rep K Z H Hc u y ∧ o t u H Q ∧ Post K Z H Hc Q R
def liftC (o : OC) : List V → Hp → VK → Prop := fun xs Hc R => ∃ (Z : Addr → Prop) (H : TH) (ts : List T) (Q : KT), Abs K Z H Hc ∧ Reps K Z H Hc ts xs ∧ o ts H Q ∧ Post K Z H Hc Q R
def liftM (o : OM) : V → List V → Hp → VK → Prop := fun x xs Hc R => ∃ (Z : Addr → Prop) (H : TH) (t : T) (ts : List T) (Q : KT), Abs K Z H Hc ∧ Rep K Z H Hc t x ∧ Reps K Z H Hc ts xs ∧ o t ts H Q ∧ Post K Z H Hc Q R
def liftSl (o : OS) : V → Option Int → Option Int → Hp → VK → Prop := fun x lo hi Hc R => ∃ (Z : Addr → Prop) (H : TH) (t : T) (Q : KT), Abs K Z H Hc ∧ Rep K Z H Hc t x ∧ o t lo hi H Q ∧ Post K Z H Hc Q R
end
theorem OpR.imp {X : Cx} {f : Value → Value → Sem Value} {r r' : R2} (h : OpR X f r) (i : ∀ x y H Q, r' x y H Q → r x y H Q) : OpR X f r' :=
  fun pins s σ H x y v u Q I rx ry q => h pins s σ H x y v u Q I rx ry (i x y H Q q)
theorem CallR.imp {X : Cx} {f : Value} {r r' : List V → Hp → VK → Prop} (h : CallR X f r) (i : ∀ x H Q, r' x H Q → r x H Q) : CallR X f r' :=
  fun pins s σ H x v Q I rx q => h pins s σ H x v Q I rx (i x H Q q)
theorem MtR.imp {X : Cx} {id : String} {r r' : V → List V → Hp → VK → Prop} (h : MtR X id r) (i : ∀ x xs H Q, r' x xs H Q → r x xs H Q) : MtR X id r' :=
  fun pins s σ H x xs v us Q I rx rxs q => h pins s σ H x xs v us Q I rx rxs (i x xs H Q q)
section
variable {X : Cx}
theorem p_int {K : PySem.W.Frag} {Z : Addr → Prop} {H : TH} {Hc : Hp} {Q : KT} {R : VK} {i : Int} (A : Abs K Z H Hc) (q : Q (.int i) H) (P : Post K Z H Hc Q R) : R (.int i) Hc := P _ _ _ _ (rep_int.mpr rfl) A .refl q
theorem p_bl {K : PySem.W.Frag} {Z : Addr → Prop} {H : TH} {Hc : Hp} {Q : KT} {R : VK} {i : Bool} (A : Abs K Z H Hc) (q : Q (.bl i) H) (P : Post K Z H Hc Q R) : R (.bl i) Hc := P _ _ _ _ (rep_bl.mpr rfl) A .refl q
theorem op2I {f : Value → Value → Sem Value} {C : Int → Int → Prop} {g : Int → Int → Int} (h : OpR X f (rI C fun i j => .int (g i j))) : OpR X f (lift2 X.K fun t u H Q => match t, u with
    | .int i, .int j => C i j ∧ Q (.int (g i j)) H
    | _, _ => False) := by
  refine OpR.imp h fun x y Hc R q => ?_
  obtain ⟨Z, H, t, u, Q, A, r1, r2, q, P⟩ := q
  cases t with
  | int i => cases u with
    | int j => exact ⟨i, j, rep_int.mp r1, rep_int.mp r2, q.1, p_int A q.2 P⟩
    | _ => exact q.elim
  | _ => exact q.elim
theorem op2I0 {f : Value → Value → Sem Value} {g : Int → Int → Int} (h : OpR X f (rI0 fun i j => .int (g i j))) : OpR X f (lift2 X.K fun t u H Q => match t, u with
    | .int i, .int j => Q (.int (g i j)) H
    | _, _ => False) := by
  refine OpR.imp h fun x y Hc R q => ?_
  obtain ⟨Z, H, t, u, Q, A, r1, r2, q, P⟩ := q
  cases t with
  | int i => cases u with
    | int j => exact ⟨i, j, rep_int.mp r1, rep_int.mp r2, p_int A q P⟩
    | _ => exact q.elim
  | _ => exact q.elim
theorem op2B0 {f : Value → Value → Sem Value} {g : Int → Int → Bool} (h : OpR X f (rI0 fun i j => .bl (g i j))) : OpR X f (lift2 X.K (oCmp g)) := by
  refine OpR.imp h fun x y Hc R q => ?_
  obtain ⟨Z, H, t, u, Q, A, r1, r2, q, P⟩ := q
  cases t with
  | int i => cases u with
    | int j => exact ⟨i, j, rep_int.mp r1, rep_int.mp r2, p_bl A q P⟩
    | _ => exact q.elim
  | _ => exact q.elim
theorem t_sub : OpR X (binaryOp .Sub) (lift2 X.K oSub) := op2I0 op_sub
theorem t_div : OpR X (binaryOp .FloorDiv) (lift2 X.K oDiv) := op2I op_fdiv
theorem t_mod : OpR X (binaryOp .Mod) (lift2 X.K oMod) := op2I op_mod
theorem t_pow : OpR X (binaryOp .Pow) (lift2 X.K oPow) := op2I op_pow
theorem t_lt : OpR X (compareOp .Lt) (lift2 X.K (oCmp fun i j => decide (i < j))) := op2B0 op_lt
theorem t_le : OpR X (compareOp .LtE) (lift2 X.K (oCmp fun i j => decide (i ≤ j))) := op2B0 op_le
theorem t_gt : OpR X (compareOp .Gt) (lift2 X.K (oCmp fun i j => decide (j < i))) := op2B0 op_gt
theorem t_ge : OpR X (compareOp .GtE) (lift2 X.K (oCmp fun i j => decide (j ≤ i))) := op2B0 op_ge
theorem t_is : OpR X (compareOp .Is) (lift2 X.K (oIs false)) := by
  refine OpR.imp op_isN fun x y Hc R q => ?_
  obtain ⟨Z, H, t, u, Q, A, r1, r2, ⟨rfl, q⟩, P⟩ := q
  refine ⟨rep_non.mp r2, ?_⟩
  have e : decide (x = V.non) = (false ^^ isNon t) := by
    cases t with
    | non => rw [rep_non.mp r1]; rfl
    | int i => rw [rep_int.mp r1]; rfl
    | bl i => rw [rep_bl.mp r1]; rfl
    | str i => rw [rep_str.mp r1]; rfl
    | ref i => rw [rep_ref.mp r1]; rfl
    | tup i => obtain ⟨a, vs, e, _⟩ := rep_tup.mp r1; rw [e]; rfl
    | lst i => obtain ⟨a, vs, e, _⟩ := rep_lst.mp r1; rw [e]; rfl
    | scr i => obtain ⟨a, vs, e, _⟩ := rep_scr.mp r1; rw [e]; rfl
  rw [e]
  exact p_bl A q P
theorem t_isnot : OpR X (compareOp .IsNot) (lift2 X.K (oIs true)) := by
  refine OpR.imp op_notN fun x y Hc R q => ?_
  obtain ⟨Z, H, t, u, Q, A, r1, r2, ⟨rfl, q⟩, P⟩ := q
  refine ⟨rep_non.mp r2, ?_⟩
  have e : (!decide (x = V.non)) = (true ^^ isNon t) := by
    cases t with
    | non => rw [rep_non.mp r1]; rfl
    | int i => rw [rep_int.mp r1]; rfl
    | bl i => rw [rep_bl.mp r1]; rfl
    | str i => rw [rep_str.mp r1]; rfl
    | ref i => rw [rep_ref.mp r1]; rfl
    | tup i => obtain ⟨a, vs, e, _⟩ := rep_tup.mp r1; rw [e]; rfl
    | lst i => obtain ⟨a, vs, e, _⟩ := rep_lst.mp r1; rw [e]; rfl
    | scr i => obtain ⟨a, vs, e, _⟩ := rep_scr.mp r1; rw [e]; rfl
  rw [e]
  exact p_bl A q P
theorem oAdd_else {fz : Bool} {t u : T} {H : TH} {Q : KT} (h : oAdd fz t u H Q) : (∃ i j, t = .int i ∧ u = .int j ∧ Q (.int (i + j)) H) ∨ (∃ xs ys, t = .tup xs ∧ u = .tup ys ∧ xs.length + ys.length ≤ sizeLine ∧ Q (.tup (xs ++ ys)) H) ∨
    ∃ xs ys, lstOf H t = some xs ∧ lstOf H u = some ys ∧ xs.length + ys.length ≤ sizeLine ∧ mk fz (xs ++ ys) H Q := by
  unfold oAdd at h
  split at h
  · exact .inl ⟨_, _, rfl, rfl, h⟩
  · exact .inr (.inl ⟨_, _, rfl, rfl, h⟩)
  · split at h
    · rename_i e1 e2
      exact .inr (.inr ⟨_, _, e1, e2, h⟩)
    · exact h.elim
theorem t_add (fz : Bool) : OpR X (binaryOp .Add) (lift2 X.K (oAdd fz)) := by
  refine OpR.imp (OpR.or op_add (OpR.or op_catA op_cat)) fun x y Hc R q => ?_
  obtain ⟨Z, H, t, u, Q, A, r1, r2, q, P⟩ := q
  rcases oAdd_else q with ⟨i, j, rfl, rfl, q⟩ | ⟨xs, ys, rfl, rfl, hz, q⟩ | ⟨xs, ys, e1, e2, hz, q⟩
  · exact .inl ⟨i, j, rep_int.mp r1, rep_int.mp r2, p_int A q P⟩
  · obtain ⟨a, vs, e1, h1, s1⟩ := rep_tup.mp r1
    obtain ⟨b, ws, e2, h2, s2⟩ := rep_tup.mp r2
    refine .inr (.inl ⟨a, b, vs, ws, e1, e2, h1.sq, h2.sq, by rw [← s1.length, ← s2.length]; exact hz, fun z => ?_, fun _ z => ?_, fun _ _ => ?_⟩)
    · rw [s1.nil_iff.mp z] at q
      rw [← e2]
      exact P _ _ _ _ r2 A .refl q
    · rw [s2.nil_iff.mp z, List.append_nil] at q
      rw [← e1]
      exact P _ _ _ _ r1 A .refl q
    · exact tup_ok q A (s1.append s2) P
  · obtain ⟨a, vs, e1, h1, s1⟩ := lstOf_ok A r1 e1
    obtain ⟨b, ws, e2, h2, s2⟩ := lstOf_ok A r2 e2
    exact .inr (.inr ⟨a, b, vs, ws, e1, e2, h1, h2, by rw [← s1.length, ← s2.length]; exact hz, mk_ok q A (s1.append s2) P⟩)
theorem oMul_else {fz : Bool} {t u : T} {H : TH} {Q : KT} (h : oMul fz t u H Q) : (∃ i j, t = .int i ∧ u = .int j ∧ CMul i j ∧ Q (.int (i * j)) H) ∨
    ∃ xs k, lstOf H t = some xs ∧ u = .int k ∧ (-(2 ^ 63) ≤ k ∧ k < 2 ^ 63 ∧ xs.length * k.toNat ≤ sizeLine) ∧ mk fz (List.replicate k.toNat xs).flatten H Q := by
  unfold oMul at h
  split at h
  · exact .inl ⟨_, _, rfl, rfl, h⟩
  · split at h
    · rename_i e1
      exact .inr ⟨_, _, e1, rfl, h⟩
    · exact h.elim
  · exact h.elim
theorem t_mul (fz : Bool) : OpR X (binaryOp .Mult) (lift2 X.K (oMul fz)) := by
  refine OpR.imp (OpR.or op_mul op_rep) fun x y Hc R q => ?_
  obtain ⟨Z, H, t, u, Q, A, r1, r2, q, P⟩ := q
  rcases oMul_else q with ⟨i, j, rfl, rfl, c, q⟩ | ⟨xs, k, e1, rfl, hz, q⟩
  · exact .inl ⟨i, j, rep_int.mp r1, rep_int.mp r2, c, p_int A q P⟩
  · obtain ⟨a, vs, e1, h1, s1⟩ := lstOf_ok A r1 e1
    exact .inr ⟨a, k, vs, e1, rep_int.mp r2, h1, hz.1, hz.2.1, by rw [← s1.length]; exact hz.2.2, mk_ok q A (s1.rep _) P⟩
theorem oEq_else {neg : Bool} {t u : T} {H : TH} {Q : KT} (h : oEq neg t u H Q) : shp t = true ∧ shp u = true ∧ Q (.bl (neg ^^ eqT t u)) H := by
  unfold oEq at h
  split at h
  · rename_i i j
    refine ⟨by simp [shp, noRef, toD, SeqAt.shaped, PyData.canLay0, PyData.depth], by simp [shp, noRef, toD, SeqAt.shaped, PyData.canLay0, PyData.depth], ?_⟩
    have e : eqT (.int i) (.int j) = decide (i = j) := by
      simp [eqT, toD, PyData.eqv, Bool.beq_eq_decide_eq]
    rw [e]
    exact h
  · exact ⟨h.1.1, h.1.2, h.2⟩
theorem t_eq (hu : X.A.units + 64 < cLine) : OpR X (compareOp .Eq) (lift2 X.K (oEq false)) := by
  refine OpR.imp (op_eqD hu) fun x y Hc R q => ?_
  obtain ⟨Z, H, t, u, Q, A, r1, r2, q, P⟩ := q
  obtain ⟨s1, s2, q⟩ := oEq_else q
  obtain ⟨n1, s1⟩ := Bool.and_eq_true_iff.mp s1
  obtain ⟨n2, s2⟩ := Bool.and_eq_true_iff.mp s2
  refine ⟨toD t, toD u, dp_of A t x n1 r1, dp_of A u y n2 r2, s1, s2, ?_⟩
  rw [Bool.false_xor] at q
  exact p_bl A q P
theorem t_ne (hu : X.A.units + 64 < cLine) : OpR X (compareOp .NotEq) (lift2 X.K (oEq true)) := by
  refine OpR.imp (op_neD hu) fun x y Hc R q => ?_
  obtain ⟨Z, H, t, u, Q, A, r1, r2, q, P⟩ := q
  obtain ⟨s1, s2, q⟩ := oEq_else q
  obtain ⟨n1, s1⟩ := Bool.and_eq_true_iff.mp s1
  obtain ⟨n2, s2⟩ := Bool.and_eq_true_iff.mp s2
  refine ⟨toD t, toD u, dp_of A t x n1 r1, dp_of A u y n2 r2, s1, s2, ?_⟩
  rw [Bool.true_xor] at q
  exact p_bl A q P
def rDIn (neg : Bool) : R2 := fun y x H Q => ∃ a o, x = .ref a ∧ DGet H a y o ∧ Q (.bl (neg ^^ o.isSome)) H
theorem op_din (hu : X.A.units + 1 < cLine) : OpR X (compareOp .In) (rDIn false) := by
  intro pins s σ H y x u v Q I ry rx q
  obtain ⟨a, o, rfl, g, q⟩ := q
  cases rx
  rw [Bool.false_xor] at q
  exact d_in hu I g ry fun s3 I3 => ⟨.bl o.isSome, H, I3, rfl, q⟩
theorem op_dnotin (hu : X.A.units + 1 < cLine) : OpR X (compareOp .NotIn) (rDIn true) := by
  intro pins s σ H y x u v Q I ry rx q
  obtain ⟨a, o, rfl, g, q⟩ := q
  cases rx
  rw [Bool.true_xor] at q
  exact d_notIn hu I g ry fun s3 I3 => ⟨.bl (!o.isSome), H, I3, rfl, q⟩
theorem oIn_else {neg : Bool} {t u : T} {H : TH} {Q : KT} (h : oIn neg t u H Q) : (∃ ts, seqOf H u = some ts ∧ flatT t = true ∧ ts.all flatT = true ∧ Q (.bl (neg ^^ inT t ts)) H) ∨
    ∃ p kvs k, u = .ref p ∧ H p = some (.dk kvs) ∧ keyT t = some k ∧ Q (.bl (neg ^^ (getK kvs k).isSome)) H := by
  unfold oIn at h
  split at h
  · rename_i e
    exact .inl ⟨_, e, h.1.1, h.1.2, h.2⟩
  · split at h
    · split at h
      · rename_i e
        split at h
        · rename_i e2
          exact .inr ⟨_, _, _, rfl, e, e2, h⟩
        · exact h.elim
      · exact h.elim
    · exact h.elim
theorem dget_of {K : PySem.W.Frag} {Z : Addr → Prop} {H : TH} {Hc : Hp} {p : Addr} {kvs : List (Key × T)} {k : Key} {u : T} {y : V} (A : Abs K Z H Hc) (e : H p = some (.dk kvs)) (ek : keyT u = some k) (r : Rep K Z H Hc u y) :
    ∃ o, DGet Hc p y o ∧ (match getK kvs k with
      | some t => ∃ v, o = some v ∧ Rep K Z H Hc t v
      | none => o = none) := by
  obtain ⟨ws, hc, rk⟩ := dk_at A e
  rw [keyT_ok ek r]
  exact ⟨_, DGet.k hc, repK_val k rk⟩
theorem dget_some {K : PySem.W.Frag} {Z : Addr → Prop} {H : TH} {Hc : Hp} {p : Addr} {kvs : List (Key × T)} {k : Key} {u : T} {y : V} (A : Abs K Z H Hc) (e : H p = some (.dk kvs)) (ek : keyT u = some k) (r : Rep K Z H Hc u y) :
    ∃ o, DGet Hc p y o ∧ o.isSome = (getK kvs k).isSome := by
  obtain ⟨o, g, m⟩ := dget_of A e ek r
  refine ⟨o, g, ?_⟩
  cases q : getK kvs k with
  | none => rw [q] at m; rw [m]; rfl
  | some t =>
    rw [q] at m
    obtain ⟨v, e, _⟩ := m
    rw [e]
    rfl
theorem t_in (hu : X.A.units + 64 < cLine) : OpR X (compareOp .In) (lift2 X.K (oIn false)) := by
  refine OpR.imp (OpR.or op_in_seq (op_din (by omega))) fun x y Hc R q => ?_
  obtain ⟨Z, H, t, u, Q, A, r1, r2, q, P⟩ := q
  rcases oIn_else q with ⟨ts, e, f1, f2, q⟩ | ⟨p, kvs, k, rfl, e, ek, q⟩
  · obtain ⟨a, vs, e1, h1, s1⟩ := seqOf_ok A r2 e
    refine .inl ⟨a, vs, e1, h1, flat_v f1 r1, flat_all f2 s1, ?_⟩
    rw [Bool.false_xor, ← inV_eq f1 r1 f2 s1] at q
    exact p_bl A q P
  · obtain ⟨o, g, m⟩ := dget_some A e ek r1
    refine .inr ⟨p, o, rep_ref.mp r2, g, ?_⟩
    rw [← m] at q
    exact p_bl A q P
theorem t_notin (hu : X.A.units + 64 < cLine) : OpR X (compareOp .NotIn) (lift2 X.K (oIn true)) := by
  refine OpR.imp (OpR.or op_notIn_seq (op_dnotin (by omega))) fun x y Hc R q => ?_
  obtain ⟨Z, H, t, u, Q, A, r1, r2, q, P⟩ := q
  rcases oIn_else q with ⟨ts, e, f1, f2, q⟩ | ⟨p, kvs, k, rfl, e, ek, q⟩
  · obtain ⟨a, vs, e1, h1, s1⟩ := seqOf_ok A r2 e
    refine .inl ⟨a, vs, e1, h1, flat_v f1 r1, flat_all f2 s1, ?_⟩
    rw [Bool.true_xor, ← inV_eq f1 r1 f2 s1] at q
    exact p_bl A q P
  · obtain ⟨o, g, m⟩ := dget_some A e ek r1
    refine .inr ⟨p, o, rep_ref.mp r2, g, ?_⟩
    rw [← m] at q
    exact p_bl A q P
/-! subscripts -/
def rIxD : R2 := fun x y H Q => ∃ a v, x = .ref a ∧ DGet H a y (some v) ∧ Q v H
theorem ix_dict (hu : X.A.units + 1 < cLine) : IxR X rIxD := by
  intro value slice pins s σ H x y v u Q I rx ry h hs
  obtain ⟨a, z, rfl, g, q⟩ := h
  cases rx
  have hT := dict_typeIs I g
  unfold PyProof.Rows.subscriptTail
  refine wpAny_bind ?_
  rw [getitemInPython_of_ne hT.not_modules]
  refine wpAny_bind (wpAny_specialOf hT PySem.F.slot_dict_getitem.lookup ?_)
  have fin : wpAny (model X.prog X.w) X.A (subscripted slice false (.ref a) u) (fun r s₃ => wpAny (model X.prog X.w) X.A (letTemporaryGo value (.ref a) r >>= fun _ => pure r) (EP X pins σ Q) X.xe s₃) X.xe s := by
    rw [hs]
    exact wpAny_operating (d_getItem hu I g ry fun w' s3 I3 rw' => wpAny_bind (wpAny_letTemporaryGo (wpAny_pure ⟨z, H, I3, rw', q⟩)))
  first
    | exact wpAny_pure (wpAny_bind fin)
    | exact wpAny_bind (wpAny_pure (wpAny_bind fin))
    | exact wpAny_bind fin
theorem IxR.imp {r r' : R2} (h : IxR X r) (i : ∀ x y H Q, r' x y H Q → r x y H Q) : IxR X r' :=
  fun value slice pins s σ H x y v u Q I rx ry q hs => h value slice pins s σ H x y v u Q I rx ry (i _ _ _ _ q) hs
theorem oIx_else {t u : T} {H : TH} {Q : KT} (h : oIx t u H Q) : (∃ ts i x, seqOf H t = some ts ∧ u = .int i ∧ atI ts i = some x ∧ Q x H) ∨
    ∃ p kvs k x, t = .ref p ∧ H p = some (.dk kvs) ∧ keyT u = some k ∧ getK kvs k = some x ∧ Q x H := by
  unfold oIx at h
  split at h
  · rename_i e
    split at h
    · split at h
      · rename_i e2
        exact .inl ⟨_, _, _, e, rfl, e2, h⟩
      · exact h.elim
    · exact h.elim
  · split at h
    · split at h
      · rename_i e
        split at h
        · rename_i e2
          split at h
          · rename_i e3
            exact .inr ⟨_, _, _, _, rfl, e, e2, e3, h⟩
          · exact h.elim
        · exact h.elim
      · exact h.elim
    · exact h.elim
theorem at_rep {K : PySem.W.Frag} {Z : Addr → Prop} {H : TH} {Hc : Hp} {ts : List T} {vs : List V} {i : Int} {x : T} (r : Reps K Z H Hc ts vs) (e : atI ts i = some x) : ∃ v, atI vs i = some v ∧ Rep K Z H Hc x v := by
  unfold atI at e ⊢
  rw [← r.length]
  cases q : ixN ts.length i with
  | none => rw [q] at e; cases e
  | some j =>
    rw [q] at e
    exact r.get (i := j) e
theorem t_ix (hu : X.A.units + 64 < cLine) : IxR X (lift2 X.K oIx) := by
  refine IxR.imp (IxR.or (IxR.or ix_list ix_tup) (ix_dict (by omega))) fun x y Hc R q => ?_
  obtain ⟨Z, H, t, u, Q, A, r1, r2, q, P⟩ := q
  rcases oIx_else q with ⟨ts, i, z, e, rfl, ez, q⟩ | ⟨p, kvs, k, z, rfl, e, ek, ez, q⟩
  · obtain ⟨a, vs, e1, h1, s1⟩ := seqOf_ok A r1 e
    obtain ⟨v, ev, rv⟩ := at_rep s1 ez
    rcases h1 with h1 | h1
    · exact .inl (.inl ⟨a, vs, i, v, e1, rep_int.mp r2, h1, ev, P _ _ _ _ rv A .refl q⟩)
    · exact .inl (.inr ⟨a, vs, i, v, e1, rep_int.mp r2, h1, ev, P _ _ _ _ rv A .refl q⟩)
  · obtain ⟨o, g, m⟩ := dget_of A e ek r2
    rw [ez] at m
    obtain ⟨v, rfl, rv⟩ := m
    exact .inr ⟨p, v, rep_ref.mp r1, g, P _ _ _ _ rv A .refl q⟩
theorem SlR.imp {r r' : V → Option Int → Option Int → Hp → VK → Prop} (h : SlR X r) (i : ∀ x l u H Q, r' x l u H Q → r x l u H Q) : SlR X r' := by
  intro pins s σ H x v vl vu lo hi sl Q I rx hs pl pu q
  exact h pins s σ H x v vl vu lo hi sl Q I rx hs pl pu (i _ _ _ _ _ q)
theorem reps_cut {K : PySem.W.Frag} {Z : Addr → Prop} {H : TH} {Hc : Hp} {ts : List T} {vs : List V} (r : Reps K Z H Hc ts vs) (lo hi : Option Int) : Reps K Z H Hc (cutT ts lo hi) (cutV vs lo hi) := by
  unfold cutT cutV
  rw [r.length]
  exact (r.drop _).take _
theorem oSl_else {fz : Bool} {t : T} {lo hi : Option Int} {H : TH} {Q : KT} (h : oSl fz t lo hi H Q) : (∃ ts, t = .tup ts ∧ Q (.tup (cutT ts lo hi)) H) ∨ ∃ ts, lstOf H t = some ts ∧ mk fz (cutT ts lo hi) H Q := by
  unfold oSl at h
  split at h
  · exact .inl ⟨_, rfl, h⟩
  · split at h
    · rename_i e
      exact .inr ⟨_, e, h⟩
    · exact h.elim
theorem cut_all {xs : List V} {lo hi : Option Int} (h : HT.sIx xs.length 0 lo = 0 ∧ HT.sIx xs.length xs.length hi = xs.length) : cutV xs lo hi = xs := by
  unfold cutV
  rw [h.1, h.2]
  simp
theorem cutT_all {xs : List T} {lo hi : Option Int} (h : HT.sIx xs.length 0 lo = 0 ∧ HT.sIx xs.length xs.length hi = xs.length) : cutT xs lo hi = xs := by
  unfold cutT
  rw [h.1, h.2]
  simp
theorem t_sl (fz : Bool) : SlR X (liftSl X.K (oSl fz)) := by
  refine SlR.imp (SlR.or sl_tupA sl_list) fun x lo hi Hc R q => ?_
  obtain ⟨Z, H, t, Q, A, r1, q, P⟩ := q
  rcases oSl_else q with ⟨ts, rfl, q2⟩ | ⟨ts, e, q⟩
  · obtain ⟨a, vs, e1, h1, s1⟩ := rep_tup.mp r1
    refine .inl ⟨a, vs, e1, h1.sq, fun z => ?_, fun _ => tup_ok q2 A (reps_cut s1 lo hi) P⟩
    rw [← s1.length] at z
    rw [cutT_all z] at q2
    rw [← e1]
    exact P _ _ _ _ r1 A .refl q2
  · obtain ⟨a, vs, e1, h1, s1⟩ := lstOf_ok A r1 e
    exact .inr ⟨a, vs, e1, SqL.of h1, mk_ok q A (reps_cut s1 lo hi) P⟩
end
end TL
set_option maxRecDepth 100000
set_option maxHeartbeats 1000000
namespace TL
section
open PySem PySem.Spec L2 PyProof.Rows
variable {prog : Program} {w : World} {A : Around} {E : Value → Shared → Prop} {s : Shared}
/-- a tuple's items, laid in a list of their own -/
theorem gather_tup {a : Addr} {us : List Value} {R : List Value → Shared → Prop} (ht : IsTup s.heap a us.toArray) (hz : us.length ≤ sizeLine)
    (h : ∀ h', (∀ b o, s.heap.get? b = some o → h'.get? b = some o) → R us { s with heap := h' }) : wpAny (model prog w) A (collect (.ref a)) R E s := by
  obtain ⟨o, ho, hc, n, hd⟩ := id ht
  have up : ∀ b u, s.heap.get? b = some u → (s.heap.push (seqObj "list" #[] 0)).get? b = some u := fun b u => Heap.get?_push_of_some _
  have mine : (s.heap.push (seqObj "list" #[] 0)).get? s.heap.objs.size = some (seqObj "list" #[] 0) := Heap.get?_push_size _ rfl
  unfold collect
  refine wpAny_bind (wpAny_runValue (codeAny_builtin entry_proto_collect' ?_))
  unfold Builtin.«proto.collect»
  refine wpAny_bind (wpAny_newList (wpAny_pure ⟨Code.quiet_builtin _ (by decide +kernel), codeAny_builtin entry_list_iadd' ?_⟩))
  unfold Builtin.«list.__iadd__»
  refine wpAny_bind (wpAny_pure ?_)
  unfold Builtin.List.listExtendWith
  refine wpAny_bind (wpAny_typeOf (T := "tuple") (v := .ref a) ⟨o, up _ _ ho, hc⟩ ?_)
  rw [if_pos (by rw [show (Value.type "tuple" == Value.type "tuple") = true from rfl, Bool.or_true])]
  refine wpAny_bind (listItems_at (up _ _ ho) hd (wpAny_bind (listItems_at (xs := #[]) (n := 0) mine rfl ?_)))
  rw [if_neg (by simp)]
  refine wpAny_bind (listUpdate_at (xs := #[]) (n := 0) mine rfl ?_ (Nat.zero_le _) (by simp; omega))
  refine wpAny_pure (wpAny_bind (wpAny_load (get?_update_seq mine _) ?_))
  have e : ((#[] : Array Value) ++ us.toArray).toList = us := by simp
  show wpAny _ _ (pure ((#[] : Array Value) ++ us.toArray).toList) _ _ _
  rw [e]
  refine wpAny_pure (h _ fun b u q => ?_)
  rw [Heap.get?_update_ne]
  · exact up b u q
  · exact Nat.ne_of_lt (Heap.lt_size q)
end
open PySem PySem.Spec L2
section
variable {X : Cx}
theorem reps1 {K : PySem.W.Frag} {Z : Addr → Prop} {H : TH} {Hc : Hp} {t : T} {xs : List V} (r : Reps K Z H Hc [t] xs) : ∃ v, xs = [v] ∧ Rep K Z H Hc t v := by
  obtain ⟨v, w, rfl, h1, h2⟩ := reps_cons.mp r
  rw [reps_nil.mp h2]
  exact ⟨v, rfl, h1⟩
theorem reps2 {K : PySem.W.Frag} {Z : Addr → Prop} {H : TH} {Hc : Hp} {t u : T} {xs : List V} (r : Reps K Z H Hc [t, u] xs) : ∃ v w, xs = [v, w] ∧ Rep K Z H Hc t v ∧ Rep K Z H Hc u w := by
  obtain ⟨v, w, rfl, h1, h2⟩ := reps_cons.mp r
  obtain ⟨w, rfl, h3⟩ := reps1 h2
  exact ⟨v, w, rfl, h1, h3⟩
theorem call_len_dk : CallR X (.builtin "len") (fun xs H Q => ∃ p kvs, xs = [.ref p] ∧ Rd H p (.dK kvs) ∧ Q (.int kvs.length) H) := by
  intro pins s σ H xs us Q I r h
  obtain ⟨p, kvs, rfl, e, q⟩ := h
  rw [Vals.ref1 r]
  exact d_len I e fun t s' I' => ⟨.int kvs.length, H, I', ⟨t, rfl⟩, q⟩
theorem t_len : CallR X (.builtin "len") (liftC X.K cLen) := by
  refine CallR.imp (CallR.or call_len_seq call_len_dk) fun x Hc R q => ?_
  obtain ⟨Z, H, ts, Q, A, r, q, P⟩ := q
  unfold cLen at q
  split at q
  · obtain ⟨v, rfl, r1⟩ := reps1 r
    split at q
    · rename_i e
      obtain ⟨a, vs, rfl, h1, s1⟩ := seqOf_ok A r1 e
      refine .inl ⟨a, vs, rfl, h1, ?_⟩
      rw [← s1.length]
      exact p_int A q P
    · split at q
      · split at q
        · rename_i e
          obtain ⟨ws, hc, rk⟩ := dk_at A e
          refine .inr ⟨_, ws, by rw [rep_ref.mp r1], .inl hc, ?_⟩
          rw [← repK_length rk]
          exact p_int A q P
        · exact q.elim
      · exact q.elim
  · exact q.elim
theorem t_tuple : CallR X (.type "tuple") (liftC X.K cTuple) := by
  refine CallR.imp call_tuple_of fun x Hc R q => ?_
  obtain ⟨Z, H, ts, Q, A, r, q, P⟩ := q
  unfold cTuple at q
  split at q
  · obtain ⟨v, rfl, r1⟩ := reps1 r
    split at q
    · rename_i t _ xs e
      cases t with
      | tup us =>
        cases e
        obtain ⟨a, vs, rfl, h1, s1⟩ := rep_tup.mp r1
        exact ⟨a, vs, rfl, .inr ⟨h1.sq, P _ _ _ _ r1 A .refl q⟩⟩
      | lst us =>
        cases e
        obtain ⟨a, vs, rfl, h1, s1⟩ := rep_lst.mp r1
        exact ⟨a, vs, rfl, .inl ⟨h1.sq, tup_ok q A s1 P⟩⟩
      | scr us =>
        cases e
        obtain ⟨a, vs, rfl, h1, s1⟩ := rep_scr.mp r1
        exact ⟨a, vs, rfl, .inl ⟨h1.sq, tup_ok q A s1 P⟩⟩
      | ref p =>
        have e' : lstOf H (.ref p) = some xs := e
        obtain ⟨a, vs, rfl, h1, s1⟩ := lstOf_ok A r1 e'
        exact ⟨a, vs, rfl, .inl ⟨SqL.of h1, tup_ok q A s1 P⟩⟩
      | _ => cases e
    · exact q.elim
  · exact q.elim
theorem t_list (fz : Bool) : CallR X (.type "list") (liftC X.K (cList fz)) := by
  refine CallR.imp call_list_of fun x Hc R q => ?_
  obtain ⟨Z, H, ts, Q, A, r, q, P⟩ := q
  unfold cList at q
  split at q
  · obtain ⟨v, rfl, r1⟩ := reps1 r
    split at q
    · rename_i e
      obtain ⟨a, vs, rfl, h1, s1⟩ := seqOf_ok A r1 e
      exact ⟨a, vs, rfl, h1, mk_ok q A s1 P⟩
    · exact q.elim
  · exact q.elim
/-! sorted -/
theorem ins_perm (x : Int) : ∀ l : List Int, (ins x l).Perm (x :: l)
  | [] => .refl _
  | y :: r => by
    unfold ins
    split
    · exact .refl _
    · exact ((ins_perm x r).cons y).trans (List.Perm.swap x y r)
theorem isort_perm : ∀ l : List Int, (isort l).Perm l
  | [] => .refl _
  | x :: r => (ins_perm x (isort r)).trans ((isort_perm r).cons x)
theorem ins_sorted (x : Int) : ∀ {l : List Int}, l.Pairwise (· ≤ ·) → (ins x l).Pairwise (· ≤ ·)
  | [], _ => List.pairwise_singleton _ _
  | y :: r, h => by
    unfold ins
    obtain ⟨h1, h2⟩ := List.pairwise_cons.mp h
    split
    · rename_i e
      refine List.pairwise_cons.mpr ⟨fun z hz => ?_, h⟩
      rcases List.mem_cons.mp hz with rfl | hz
      · exact e
      · exact Int.le_trans e (h1 z hz)
    · rename_i e
      refine List.pairwise_cons.mpr ⟨fun z hz => ?_, ins_sorted x h2⟩
      rcases List.mem_cons.mp ((ins_perm x r).mem_iff.mp hz) with rfl | hz
      · omega
      · exact h1 z hz
theorem isort_sorted : ∀ l : List Int, (isort l).Pairwise (· ≤ ·)
  | [] => .nil
  | x :: r => ins_sorted x (isort_sorted r)
theorem sorted_uniq : ∀ {l m : List Int}, l.Perm m → l.Pairwise (· ≤ ·) → m.Pairwise (· ≤ ·) → l = m
  | [], m, p, _, _ => by rw [p.nil_eq]
  | x :: l, [], p, _, _ => by cases p.eq_nil
  | x :: l, y :: m, p, h, g => by
    obtain ⟨h1, h2⟩ := List.pairwise_cons.mp h
    obtain ⟨g1, g2⟩ := List.pairwise_cons.mp g
    have e : x = y := by
      have a : x ∈ y :: m := p.mem_iff.mp List.mem_cons_self
      have b : y ∈ x :: l := p.mem_iff.mpr List.mem_cons_self
      have c1 : y ≤ x := by
        rcases List.mem_cons.mp a with z | z
        · omega
        · exact g1 x z
      have c2 : x ≤ y := by
        rcases List.mem_cons.mp b with z | z
        · omega
        · exact h1 y z
      omega
    subst e
    rw [sorted_uniq p.cons_inv h2 g2]
theorem isort_eq {l m : List Int} (p : m.Perm l) (h : m.Pairwise (· ≤ ·)) : m = isort l := sorted_uniq (p.trans (isort_perm l).symm) h (isort_sorted l)
theorem keysI_eq : ∀ {kvs : List (Key × T)} {ns : List Int}, keysI kvs = some ns → kvs.map (·.1) = ns.map Sum.inl
  | [], _, h => by
    cases h
    rfl
  | (.inl i, _) :: r, ns, h => by
    unfold keysI at h
    cases q : keysI r with
    | none => rw [q] at h; cases h
    | some ms =>
      rw [q] at h
      cases h
      rw [List.map_cons, List.map_cons, keysI_eq q]
  | (.inr _, _) :: _, _, h => by cases h
theorem repK_keys {K : PySem.W.Frag} {Z : Addr → Prop} {H : TH} {Hc : Hp} : ∀ {kvs : List (Key × T)} {ws : List (Key × V)}, RepK K Z H Hc kvs ws → ws.map (·.1) = kvs.map (·.1)
  | [], _, .nil => rfl
  | _ :: _, _ :: _, .cons h t => by
    rw [List.map_cons, List.map_cons, repK_keys t, h.1]
/-- the keys of a dict of ints as they are collected -/
theorem ints_of_keys : ∀ {us : List Value} {ks : List Int}, us.length = ks.length → (∀ (j : Nat) (v : Value), us[j]? = some v → ∃ (x : Int) (t : Tok), ks[j]? = some x ∧ v = Value.int x t) → PyProof.Rows.IntsAre us ks
  | [], [], _, _ => .nil
  | u :: us, k :: ks, hl, h => by
    obtain ⟨x, t, e1, e2⟩ := h 0 u rfl
    cases e1
    rw [e2]
    exact .cons _ _ (ints_of_keys (by simpa using hl) fun j v e => h (j + 1) v e)
  | [], _ :: _, hl, _ => by simp at hl
  | _ :: _, [], hl, _ => by simp at hl
theorem inv_in1 {pins : List (Addr × Obj)} {σ : L2.St} {H : Hp} {s : Shared} (I : L2.Inv X pins σ H s) : L2.Inv { X with A := X.A.in1 } pins σ H s :=
  { ok := { mod := I.ok.mod, kind := I.ok.kind, glob := I.ok.glob, blt := I.ok.blt, above := I.ok.above, inj := I.ok.inj, has := I.ok.has, cab := I.ok.cab, hd := I.ok.hd, frames := I.ok.frames, stk := I.ok.stk, exf := I.ok.exf, bs := I.ok.bs, bsz := I.ok.bsz, noex := I.ok.noex, exfs := I.ok.exfs, funs := I.ok.funs, frf := I.ok.frf }
    os := I.os, bare := I.bare, base := I.base, loc := I.loc, cell := I.cell, free := I.free, freeC := I.freeC, pin := I.pin, hok := I.hok, len := I.len }
theorem inv_out1 {pins : List (Addr × Obj)} {σ : L2.St} {H : Hp} {s : Shared} (I : L2.Inv { X with A := X.A.in1 } pins σ H s) : L2.Inv X pins σ H s :=
  { ok := { mod := I.ok.mod, kind := I.ok.kind, glob := I.ok.glob, blt := I.ok.blt, above := I.ok.above, inj := I.ok.inj, has := I.ok.has, cab := I.ok.cab, hd := I.ok.hd, frames := I.ok.frames, stk := I.ok.stk, exf := I.ok.exf, bs := I.ok.bs, bsz := I.ok.bsz, noex := I.ok.noex, exfs := I.ok.exfs, funs := I.ok.funs, frf := I.ok.frf }
    os := I.os, bare := I.bare, base := I.base, loc := I.loc, cell := I.cell, free := I.free, freeC := I.freeC, pin := I.pin, hok := I.hok, len := I.len }
/-- what sorted does behind the collecting -/
theorem sort_tail {pins : List (Addr × Obj)} {σ : L2.St} {H : Hp} {s : Shared} {h' : Heap} {tk : Nat} {us : List Value} {ks : List Int} {Q : VK} (I1 : L2.Inv X pins σ H { s with heap := h', toks := tk }) (hS : PyProof.Rows.IntsAre us ks) (h64 : ks.length ≤ sizeLine)
    (q : ∀ (ys : List Int) (p : Addr), ys.Perm ks → ys.Pairwise (· ≤ ·) → H p = none → Q (.ref p) (upd H p (.lst (ys.map V.int)))) :
    wpAny (model X.prog X.w) X.A.in1 (do
      let l ← newList us
      let _ ← holding [l] (call (.builtin "list.sort") [l] [])
      ret l) (fun fin s' => ∃ v, fin = Fin.done (.ret v) ∧ EP X pins σ Q v s') X.xe { s with heap := h', toks := tk } := by
  have hal : us.length = ks.length := hS.length
  have hlen : (ks.map V.int).length ≤ sizeLine := by rw [List.length_map]; exact h64
  refine wpAny_bind (wpAny_newList ?_ (hal ▸ h64))
  have I2 : L2.Inv X pins σ (upd H h'.objs.size (.lst (ks.map V.int))) { s with heap := h'.push (PyProof.Rows.seqObj "list" us.toArray 0), toks := tk } :=
    I1.laid (t' := tk) (fun b u e => Heap.get?_push_of_some _ e) (Nat.le_refl _) ⟨hlen, us, 0, vals_of_ints hS, Heap.get?_push_size _ rfl⟩
  refine wpAny_bind (wpAny_holding (wpAny_mono (mt_sortI (X := { X with A := X.A.in1 }) pins _ σ _ (.ref h'.objs.size) [] (.ref h'.objs.size) [] (fun v H' => v = .non ∧ Q (.ref h'.objs.size) H') (inv_in1 I2) rfl .nil
    ⟨h'.objs.size, ks, rfl, rfl, upd_same, fun ns' p1 p2 => ⟨rfl, ?_⟩⟩) (fun r s' hq => ?_) fun _ _ z => z))
  · rw [upd_upd]
    exact q ns' _ p1 p2 (I1.hok.fresh (Nat.le_refl _))
  · obtain ⟨v, H', J, rv, rfl, q'⟩ := hq
    exact wpAny_pure ⟨_, rfl, .ref h'.objs.size, H', inv_out1 J, rfl, q'⟩
/-- sorted(d), the keys ints -/
theorem call_sortedDI (hcalm : X.calm = true) : CallR X (.builtin "sorted") (fun xs H Q => ∃ (a : Addr) (kvs : List (Key × V)) (ks : List Int), xs = [.ref a] ∧ Rd H a (.dK kvs) ∧ kvs.map (·.1) = ks.map Sum.inl ∧ ks.length ≤ sizeLine ∧
    ∀ (ys : List Int) (p : Addr), ys.Perm ks → ys.Pairwise (· ≤ ·) → H p = none → Q (.ref p) (upd H p (.lst (ys.map V.int)))) := by
  rintro pins s σ H xs us Q I r ⟨a, kvs, ks, rfl, hd, hks, h64, q⟩
  rw [Vals.ref1 r]
  obtain ⟨_, lo, vs, rel, dd⟩ := dk_rd I.hok hd
  obtain ⟨ep, hat⟩ := dd.dictAt
  have hkeys : vs.map (·.1) = ks.map Sum.inl := rel.keys.symm.trans hks
  have hl : vs.length = ks.length := by simpa using congrArg List.length hkeys
  refine Calls.call_function_entry PyProof.Rows.kind_sorted PyProof.Rows.plain_sorted PyProof.Rows.entry_sorted (PyProof.Rows.args_sorted1 _) ?_
  unfold Builtin.«sorted»
  refine wpAny_bind (m := checkCount "sorted" 1 1 _) (wpAny_pure (wpAny_bind ?_))
  refine PySem.W.kdu_collect (A := X.A.in1) (PySem.W.kdl_dict (knd := mixKind X.prog X.w) (kvs := vs) (ep := ep) lo) (I.ok.hd hcalm) hat (hl ▸ h64) fun h' tk acc hk hacc => ?_
  have hal : acc.toList.length = ks.length := by rw [Array.length_toList, hacc.1, hl]
  have hS : PyProof.Rows.IntsAre acc.toList ks := ints_of_keys hal fun j v e => by
    obtain ⟨k, x, e1, e2⟩ := hacc.2 j v (by rw [← Array.getElem?_toList]; exact e)
    have e3 : (ks.map (Sum.inl : Int → Key))[j]? = some k := by
      rw [← hkeys, List.getElem?_map, e1]
      rfl
    rw [List.getElem?_map, Option.map_eq_some_iff] at e3
    obtain ⟨y, e4, e5⟩ := e3
    subst e5
    obtain ⟨t, ev⟩ := Value.isInt_shape (k := y) (v := v) e2
    exact ⟨y, t, e4, ev⟩
  exact sort_tail (I.kept hk) hS h64 q
/-- sorted(t), a tuple of ints -/
theorem tup_sortedI : CallR X (.builtin "sorted") (fun xs H Q => ∃ (a : Addr) (ks : List Int), xs = [.ref a] ∧ SqT X.K H a (ks.map V.int) ∧
    ∀ (ys : List Int) (p : Addr), ys.Perm ks → ys.Pairwise (· ≤ ·) → H p = none → Q (.ref p) (upd H p (.lst (ys.map V.int)))) := by
  rintro pins s σ H xs us Q I r ⟨a, ks, rfl, ha, q⟩
  rw [Vals.ref1 r]
  obtain ⟨its, rv, ht, hz⟩ := I.tuple ha
  have hS := rv.ints
  rw [List.length_map] at hz
  refine Calls.call_function_entry PyProof.Rows.kind_sorted PyProof.Rows.plain_sorted PyProof.Rows.entry_sorted (PyProof.Rows.args_sorted1 _) ?_
  unfold Builtin.«sorted»
  refine wpAny_bind (m := checkCount "sorted" 1 1 _) (wpAny_pure (wpAny_bind ?_))
  exact gather_tup ht (hS.length ▸ hz) fun h' hk => sort_tail (tk := s.toks) (I.kept (t' := s.toks) hk) hS hz q
theorem t_sorted (hc : X.calm = true) (fz : Bool) : CallR X (.builtin "sorted") (liftC X.K (cSorted fz)) := by
  refine CallR.imp (CallR.or (CallR.or cr_sortedI (call_sortedDI hc)) tup_sortedI) fun x Hc R q => ?_
  obtain ⟨Z, H, ts, Q, A, r, q, P⟩ := q
  unfold cSorted at q
  split at q
  · obtain ⟨v, rfl, r1⟩ := reps1 r
    split at q
    · rename_i e
      split at q
      · rename_i ns e2
        obtain ⟨a, vs, rfl, h1, s1⟩ := seqOf_ok A r1 e
        have e3 := asInts_eq e2
        subst e3
        have e4 := (reps_ints ns).mp s1
        subst e4
        have fin : ∀ (ns' : List Int) (p : Addr), ns'.Perm ns → ns'.Pairwise (· ≤ ·) → Hc p = none → R (.ref p) (upd Hc p (.lst (ns'.map V.int))) := fun ns' p p1 p2 n => by
          rw [isort_eq p1 p2]
          exact mk_ok q A ((reps_ints _).mpr rfl) P p n
        rcases h1 with h1 | h1
        · exact .inl (.inl ⟨a, ns, rfl, h1, fin⟩)
        · exact .inr ⟨a, ns, rfl, h1, fin⟩
      · exact q.elim
    · split at q
      · split at q
        · rename_i e
          split at q
          · rename_i ns e2
            obtain ⟨ws, hc, rk⟩ := dk_at A e
            refine .inl (.inr ⟨_, ws, ns, by rw [rep_ref.mp r1], .inl hc, (repK_keys rk).trans (keysI_eq e2), q.1, fun ns' p p1 p2 n => ?_⟩)
            rw [isort_eq p1 p2]
            exact mk_ok q.2 A ((reps_ints _).mpr rfl) P p n
          · exact q.elim
        · exact q.elim
      · exact q.elim
  · exact q.elim
theorem maxI_max : ∀ {ns : List Int} {m : Int}, m ∈ ns → (∀ y, y ∈ ns → y ≤ m) → m = maxI ns
  | [], _, h, _ => by cases h
  | [x], m, h, _ => by
    have := List.mem_singleton.mp h
    exact this
  | x :: y :: r, m, h, g => by
    unfold maxI
    have hx := g x List.mem_cons_self
    by_cases e : m ∈ y :: r
    · have ih := maxI_max e fun z hz => g z (List.mem_cons_of_mem _ hz)
      rw [← ih, if_neg (by omega)]
    · have ex : m = x := (List.mem_cons.mp h).resolve_right e
      subst ex
      have k : maxI (y :: r) ∈ y :: r := maxI_mem (by simp)
      have k2 := g _ (List.mem_cons_of_mem _ k)
      by_cases e2 : maxI (y :: r) < m
      · rw [if_pos e2]
      · rw [if_neg e2]
        omega
where
  maxI_mem : ∀ {ns : List Int}, ns ≠ [] → maxI ns ∈ ns
    | [], h => absurd rfl h
    | [x], _ => by simp [maxI]
    | x :: y :: r, _ => by
      unfold maxI
      split
      · exact List.mem_cons_self
      · exact List.mem_cons_of_mem _ (maxI_mem (by simp))
theorem minI_min : ∀ {ns : List Int} {m : Int}, m ∈ ns → (∀ y, y ∈ ns → m ≤ y) → m = minI ns
  | [], _, h, _ => by cases h
  | [x], m, h, _ => by
    have := List.mem_singleton.mp h
    exact this
  | x :: y :: r, m, h, g => by
    unfold minI
    have hx := g x List.mem_cons_self
    by_cases e : m ∈ y :: r
    · have ih := minI_min e fun z hz => g z (List.mem_cons_of_mem _ hz)
      rw [← ih, if_neg (by omega)]
    · have ex : m = x := (List.mem_cons.mp h).resolve_right e
      subst ex
      have k : minI (y :: r) ∈ y :: r := minI_mem (by simp)
      have k2 := g _ (List.mem_cons_of_mem _ k)
      by_cases e2 : m < minI (y :: r)
      · rw [if_pos e2]
      · rw [if_neg e2]
        omega
where
  minI_mem : ∀ {ns : List Int}, ns ≠ [] → minI ns ∈ ns
    | [], h => absurd rfl h
    | [x], _ => by simp [minI]
    | x :: y :: r, _ => by
      unfold minI
      split
      · exact List.mem_cons_self
      · exact List.mem_cons_of_mem _ (minI_mem (by simp))
theorem ints_at {K : PySem.W.Frag} {Z : Addr → Prop} {H : TH} {Hc : Hp} {t : T} {v : V} {xs : List T} {ns : List Int} (A : Abs K Z H Hc) (r : Rep K Z H Hc t v) (e : lstOf H t = some xs) (e2 : asInts xs = some ns) :
    ∃ a, v = .ref a ∧ SqL K Hc a (ns.map V.int) := by
  obtain ⟨a, vs, rfl, h1, s1⟩ := lstOf_ok A r e
  rw [asInts_eq e2] at s1
  rw [(reps_ints ns).mp s1] at h1
  exact ⟨a, rfl, SqL.of h1⟩
theorem bls_at {K : PySem.W.Frag} {Z : Addr → Prop} {H : TH} {Hc : Hp} {t : T} {v : V} {xs : List T} {ns : List Bool} (A : Abs K Z H Hc) (r : Rep K Z H Hc t v) (e : lstOf H t = some xs) (e2 : asBls xs = some ns) :
    ∃ a, v = .ref a ∧ SqL K Hc a (ns.map V.bl) := by
  obtain ⟨a, vs, rfl, h1, s1⟩ := lstOf_ok A r e
  rw [asBls_eq e2] at s1
  rw [(reps_bls ns).mp s1] at h1
  exact ⟨a, rfl, SqL.of h1⟩
theorem t_all (hc : X.calm = true) : CallR X (.builtin "all") (liftC X.K cAll) := by
  refine CallR.imp (cr_all hc) fun x Hc R q => ?_
  obtain ⟨Z, H, ts, Q, A, r, q, P⟩ := q
  unfold cAll at q
  split at q
  · obtain ⟨v, rfl, r1⟩ := reps1 r
    split at q
    · rename_i e
      split at q
      · rename_i bs e2
        obtain ⟨a, rfl, h⟩ := bls_at A r1 e e2
        exact ⟨a, bs, rfl, h, p_bl A q P⟩
      · exact q.elim
    · exact q.elim
  · exact q.elim
theorem t_any (hc : X.calm = true) : CallR X (.builtin "any") (liftC X.K cAny) := by
  refine CallR.imp (cr_any hc) fun x Hc R q => ?_
  obtain ⟨Z, H, ts, Q, A, r, q, P⟩ := q
  unfold cAny at q
  split at q
  · obtain ⟨v, rfl, r1⟩ := reps1 r
    split at q
    · rename_i e
      split at q
      · rename_i bs e2
        obtain ⟨a, rfl, h⟩ := bls_at A r1 e e2
        exact ⟨a, bs, rfl, h, p_bl A q P⟩
      · exact q.elim
    · exact q.elim
  · exact q.elim
theorem t_sum (hc : X.calm = true) : CallR X (.builtin "sum") (liftC X.K cSum) := by
  refine CallR.imp (cr_sum hc) fun x Hc R q => ?_
  obtain ⟨Z, H, ts, Q, A, r, q, P⟩ := q
  unfold cSum at q
  split at q
  · obtain ⟨v, rfl, r1⟩ := reps1 r
    split at q
    · rename_i e
      split at q
      · rename_i bs e2
        obtain ⟨a, rfl, h⟩ := ints_at A r1 e e2
        exact ⟨a, bs, rfl, h, p_int A q P⟩
      · exact q.elim
    · exact q.elim
  · exact q.elim
theorem t_max (hc : X.calm = true) : CallR X (.builtin "max") (liftC X.K cMax) := by
  refine CallR.imp (cr_max hc) fun x Hc R q => ?_
  obtain ⟨Z, H, ts, Q, A, r, q, P⟩ := q
  unfold cMax at q
  split at q
  · obtain ⟨v, rfl, r1⟩ := reps1 r
    split at q
    · rename_i e
      split at q
      · rename_i bs e2
        obtain ⟨a, rfl, h⟩ := ints_at A r1 e e2
        refine ⟨a, bs, rfl, h, List.length_pos_iff.mpr q.1, fun m m1 m2 => ?_⟩
        rw [maxI_max m1 m2]
        exact p_int A q.2 P
      · exact q.elim
    · exact q.elim
  · exact q.elim
theorem t_min (hc : X.calm = true) : CallR X (.builtin "min") (liftC X.K cMin) := by
  refine CallR.imp (cr_min hc) fun x Hc R q => ?_
  obtain ⟨Z, H, ts, Q, A, r, q, P⟩ := q
  unfold cMin at q
  split at q
  · obtain ⟨v, rfl, r1⟩ := reps1 r
    split at q
    · rename_i e
      split at q
      · rename_i bs e2
        obtain ⟨a, rfl, h⟩ := ints_at A r1 e e2
        refine ⟨a, bs, rfl, h, List.length_pos_iff.mpr q.1, fun m m1 m2 => ?_⟩
        rw [minI_min m1 m2]
        exact p_int A q.2 P
      · exact q.elim
    · exact q.elim
  · exact q.elim
theorem t_int : CallR X (.type "int") (liftC X.K cInt) := by
  refine CallR.imp call_int1 fun x Hc R q => ?_
  obtain ⟨Z, H, ts, Q, A, r, q, P⟩ := q
  unfold cInt at q
  split at q
  · obtain ⟨v, rfl, r1⟩ := reps1 r
    exact .inl ⟨_, by rw [rep_int.mp r1], p_int A q P⟩
  · obtain ⟨v, rfl, r1⟩ := reps1 r
    exact .inr ⟨_, by rw [rep_bl.mp r1], p_int A q P⟩
  · exact q.elim
theorem kit1 (K : PySem.W.Frag) : ∀ (y : Ty) (n : String), n ∈ ["NoneType", "bool", "int", "str", "tuple", "list"] →
    PySem.W.kitOne K (.type n) (.type y.nm) = some (match y, n with
      | .int, "int" => true
      | .int, "bool" => true
      | .bool, "bool" => true
      | .str, "str" => true
      | .tuple, "tuple" => true
      | _, _ => false) := by
  intro y n h
  simp only [List.mem_cons, List.not_mem_nil, or_false] at h
  rcases h with rfl | rfl | rfl | rfl | rfl | rfl <;> cases y <;> exact kit_ty (by decide +kernel)
theorem t_isinst (y : Ty) : CallR X (.builtin "isinstance") (fun xs Hc R => ∃ x, xs = [x, .ty y.nm] ∧ liftC X.K (cIsinst y) [x] Hc R) := by
  refine CallR.imp call_isi fun xs Hc R q => ?_
  obtain ⟨x, rfl, Z, H, ts, Q, A, r, q, P⟩ := q
  unfold cIsinst at q
  split at q
  · exact q.elim
  · rename_i t hne
    obtain ⟨v, ev, r1⟩ := reps1 r
    cases ev
    have go : ∀ (n : String) (b : Bool), TyX X.K Hc x (.type n) → PySem.W.kitOne X.K (.type n) (.type y.nm) = some b → isTy t y = b → rIsi X.K [x, .ty y.nm] Hc R := fun n b h1 h2 h3 => by
      refine ⟨x, .ty y.nm, _, _, b, rfl, .ty _, h1, h2, ?_⟩
      rw [← h3]
      exact p_bl A q P
    cases t with
    | non => rw [rep_non.mp r1] at go ⊢; exact go "NoneType" _ (.base .non) (kit1 _ y _ (by simp)) (by cases y <;> rfl)
    | bl b => rw [rep_bl.mp r1] at go ⊢; exact go "bool" _ (.base (.bl b)) (kit1 _ y _ (by simp)) (by cases y <;> rfl)
    | int b => rw [rep_int.mp r1] at go ⊢; exact go "int" _ (.base (.int b)) (kit1 _ y _ (by simp)) (by cases y <;> rfl)
    | str b => rw [rep_str.mp r1] at go ⊢; exact go "str" _ (.base (.str b)) (kit1 _ y _ (by simp)) (by cases y <;> rfl)
    | tup us =>
      obtain ⟨a, vs, rfl, h1, s1⟩ := rep_tup.mp r1
      refine go "tuple" _ ?_ (kit1 _ y _ (by simp)) (by cases y <;> rfl)
      rcases h1 with ⟨h1 | ⟨o, h1⟩, _⟩ | ⟨o, its, n, h1, h2, _⟩
      · exact .base (.tup h1)
      · exact .fTuple h1
      · exact .kTuple h1 h2
    | lst us =>
      obtain ⟨a, vs, rfl, h1, s1⟩ := rep_lst.mp r1
      exact go "list" _ (.base (.lst h1.1)) (kit1 _ y _ (by simp)) (by cases y <;> rfl)
    | scr us =>
      obtain ⟨a, vs, rfl, ⟨⟨o, h1⟩, _⟩ | ⟨o, _, _, h1, h2, _⟩, s1⟩ := rep_scr.mp r1
      · exact go "list" _ (.base (.frz h1)) (kit1 _ y _ (by simp)) (by cases y <;> rfl)
      · exact go "list" _ (.kList h1 h2) (kit1 _ y _ (by simp)) (by cases y <;> rfl)
    | ref a => exact (hne a rfl).elim
  · exact q.elim
/-! methods -/
/-- what a method is asked of -/
def recv (T' : String) (t : T) (H : TH) : Prop := match t with
  | .ref p => match H p with
    | some (.lst _) => T' = "list"
    | some (.dk _) => T' = "dict"
    | none => False
  | _ => False
theorem recv_ok {K : PySem.W.Frag} {Z : Addr → Prop} {H : TH} {Hc : Hp} {t : T} {v : V} {T' : String} (A : Abs K Z H Hc) (r : Rep K Z H Hc t v) (h : recv T' t H) : tyV K T' v Hc := by
  unfold recv at h
  split at h
  · rw [rep_ref.mp r]
    split at h
    · rename_i e
      subst h
      obtain ⟨vs, hc, _⟩ := lst_at A e
      exact .inl ⟨rfl, vs, SqL.of hc⟩
    · rename_i e
      subst h
      obtain ⟨ws, hc, _⟩ := dk_at A e
      exact .inr (.inr (.inl ⟨rfl, .inl ⟨ws, hc⟩⟩))
    · exact h.elim
  · exact h.elim
theorem t_append : MtR X "list.append" (liftM X.K mAppend) := by
  refine MtR.imp mt_append fun x xs Hc R q => ?_
  obtain ⟨Z, H, t, ts, Q, A, r, rs, q, P⟩ := q
  unfold mAppend at q
  split at q
  · obtain ⟨v, rfl, r1⟩ := reps1 rs
    split at q
    · rename_i e
      obtain ⟨vs, hc, s1⟩ := lst_at A e
      exact ⟨_, vs, v, rep_ref.mp r, rfl, hc, by rw [← s1.length]; exact q.1, put_ok e q.2 A (rep_non.mpr rfl) (s1.snoc r1) P⟩
    · exact q.elim
  · exact q.elim
theorem t_pop : MtR X "list.pop" (liftM X.K mPop) := by
  refine MtR.imp mt_pop fun x xs Hc R q => ?_
  obtain ⟨Z, H, t, ts, Q, A, r, rs, q, P⟩ := q
  unfold mPop at q
  split at q
  · rw [reps_nil.mp rs]
    split at q
    · rename_i us e
      obtain ⟨vs, hc, s1⟩ := lst_at A e
      split at q
      · rename_i z ez
        rw [List.getLast?_eq_getElem?] at ez
        obtain ⟨w, hw, rw'⟩ := s1.get ez
        exact ⟨_, vs, w, rep_ref.mp r, rfl, hc, by rw [← s1.length]; exact hw, put_ok e q A rw' s1.dropLast P⟩
      · exact q.elim
    · exact q.elim
  · exact q.elim
theorem t_popAt : MtR X "list.pop" (liftM X.K mPopAt) := by
  refine MtR.imp mt_popAt fun x xs Hc R q => ?_
  obtain ⟨Z, H, t, ts, Q, A, r, rs, q, P⟩ := q
  unfold mPopAt at q
  split at q
  · obtain ⟨v, rfl, r1⟩ := reps1 rs
    split at q
    · rename_i us e
      obtain ⟨vs, hc, s1⟩ := lst_at A e
      split at q
      · rename_i k ek
        split at q
        · rename_i z ez
          obtain ⟨w, hw, rw'⟩ := s1.get ez
          obtain ⟨g1, g2, g3, g4⟩ := ixN_seq ek
          have hn := line63
          have hz := q.1
          exact ⟨_, vs, _, k, w, rep_ref.mp r, by rw [rep_int.mp r1], hc, by omega, by omega, by rw [← s1.length]; exact g1, hw, put_ok e q.2 A rw' (s1.eraseIdx k) P⟩
        · exact q.elim
      · exact q.elim
    · exact q.elim
  · exact q.elim
theorem t_reverse : MtR X "list.reverse" (liftM X.K mReverse) := by
  refine MtR.imp mt_reverse fun x xs Hc R q => ?_
  obtain ⟨Z, H, t, ts, Q, A, r, rs, q, P⟩ := q
  unfold mReverse at q
  split at q
  · rw [reps_nil.mp rs]
    split at q
    · rename_i e
      obtain ⟨vs, hc, s1⟩ := lst_at A e
      exact ⟨_, vs, rep_ref.mp r, rfl, hc, put_ok e q A (rep_non.mpr rfl) s1.reverse P⟩
    · exact q.elim
  · exact q.elim
def rGet1 : V → List V → Hp → VK → Prop := fun x xs H Q => ∃ a y o, x = .ref a ∧ xs = [y] ∧ DGet H a y o ∧ Q (o.getD .non) H
def rGet2 : V → List V → Hp → VK → Prop := fun x xs H Q => ∃ a y d o, x = .ref a ∧ xs = [y, d] ∧ DGet H a y o ∧ Q (o.getD d) H
theorem mt_get1 (hu : X.A.units + 1 < cLine) : MtR X "dict.get" rGet1 := by
  rintro pins s σ H x xs v us Q I rx rxs ⟨a, y, o, rfl, rfl, g, q⟩
  cases rx
  obtain ⟨u, rfl, ru⟩ := vals1 rxs
  exact d_get1 hu I g ru fun w' s3 I3 rw' => ⟨_, H, I3, rw', q⟩
theorem mt_get2 (hu : X.A.units + 1 < cLine) : MtR X "dict.get" rGet2 := by
  rintro pins s σ H x xs v us Q I rx rxs ⟨a, y, d, o, rfl, rfl, g, q⟩
  cases rx
  obtain ⟨u, u2, rfl, ru, ru2⟩ := vals2 rxs
  exact d_get2 hu I g ru ru2 fun w' s3 I3 rw' => ⟨_, H, I3, rw', q⟩
theorem t_get1 (hu : X.A.units + 1 < cLine) : MtR X "dict.get" (liftM X.K mGet1) := by
  refine MtR.imp (mt_get1 hu) fun x xs Hc R q => ?_
  obtain ⟨Z, H, t, ts, Q, A, r, rs, q, P⟩ := q
  unfold mGet1 at q
  split at q
  · obtain ⟨v, rfl, r1⟩ := reps1 rs
    split at q
    · rename_i e
      split at q
      · rename_i k ek
        obtain ⟨o, g, m⟩ := dget_of A e ek r1
        refine ⟨_, v, o, rep_ref.mp r, rfl, g, ?_⟩
        split at m
        · rename_i z ez
          obtain ⟨w, rfl, rw'⟩ := m
          rw [ez] at q
          exact P _ _ _ _ rw' A .refl q
        · rename_i ez
          rw [ez] at q
          rw [m]
          exact P _ _ _ _ (rep_non.mpr rfl) A .refl q
      · exact q.elim
    · exact q.elim
  · exact q.elim
theorem t_get2 (hu : X.A.units + 1 < cLine) : MtR X "dict.get" (liftM X.K mGet2) := by
  refine MtR.imp (mt_get2 hu) fun x xs Hc R q => ?_
  obtain ⟨Z, H, t, ts, Q, A, r, rs, q, P⟩ := q
  unfold mGet2 at q
  split at q
  · obtain ⟨v, d, rfl, r1, r2⟩ := reps2 rs
    split at q
    · rename_i e
      split at q
      · rename_i k ek
        obtain ⟨o, g, m⟩ := dget_of A e ek r1
        refine ⟨_, v, d, o, rep_ref.mp r, rfl, g, ?_⟩
        split at m
        · rename_i z ez
          obtain ⟨w, rfl, rw'⟩ := m
          rw [ez] at q
          exact P _ _ _ _ rw' A .refl q
        · rename_i ez
          rw [ez] at q
          rw [m]
          exact P _ _ _ _ r2 A .refl q
      · exact q.elim
    · exact q.elim
  · exact q.elim
/-! stores -/
def liftSet (K : PySem.W.Frag) (o : T → T → T → TH → (TH → Prop) → Prop) : V → V → V → Hp → (Hp → Prop) → Prop := fun x y z Hc R => ∃ (Z : Addr → Prop) (H : TH) (t u w : T) (Q : TH → Prop),
  Abs K Z H Hc ∧ Rep K Z H Hc t x ∧ Rep K Z H Hc u y ∧ Rep K Z H Hc w z ∧ o t u w H Q ∧ ∀ H' Hc', Abs K Z H' Hc' → Ext H Hc H' Hc' → Q H' → R Hc'
def rSetD : V → V → V → Hp → (Hp → Prop) → Prop := fun o i v H Q => ∃ a H4, o = .ref a ∧ DPut H a i v H4 ∧ Q H4
theorem set_dict (hu : X.A.units + 1 < cLine) : PSet X rSetD := by
  rintro pins s σ H o i v ov iv u Q I ro ri rv ⟨a, H4, rfl, g, q⟩
  cases ro
  exact d_setItem hu I g ri rv fun s4 I4 => ⟨H4, I4, q⟩
theorem t_set (hu : X.A.units + 1 < cLine) : PSet X (liftSet X.K oSet) := by
  rintro pins s σ Hc x y z ov iv u R I ro ri rv ⟨Z, H, t, u', w, Q, A, r1, r2, r3, q, P⟩
  unfold oSet at q
  split at q
  · split at q
    · rename_i us e
      split at q
      · split at q
        · rename_i j ej
          obtain ⟨vs, hc, s1⟩ := lst_at A e
          refine set_list pins s σ Hc x y z ov iv u R I ro ri rv ⟨_, vs, _, j, rep_ref.mp r1, rep_int.mp r2, hc, by rw [← s1.length]; exact ej, ?_⟩
          exact P _ _ (A.put (u := .lst (us.set j w)) e ⟨_, upd_same, Reps.ext (ext_put e) _ _ (s1.set j r3)⟩) (ext_put e) q
        · exact q.elim
      · exact q.elim
    · rename_i kvs e
      split at q
      · rename_i k ek
        obtain ⟨ws, hc, rk⟩ := dk_at A e
        refine set_dict hu pins s σ Hc x y z ov iv u R I ro ri rv ⟨_, _, rep_ref.mp r1, by rw [keyT_ok ek r2]; exact DPut.k hc (by rw [← repK_length rk]; exact q.1), ?_⟩
        exact P _ _ (A.put (u := .dk (setK kvs k w)) e ⟨_, upd_same, RepK.ext (ext_put e) (repK_put rk r3)⟩) (ext_put e) q.2
      · exact q.elim
    · exact q.elim
  · exact q.elim
end
end TL
set_option maxRecDepth 100000
set_option maxHeartbeats 3200000
namespace TL
section
open PySem PySem.Spec L2 PyProof.Rows
variable {P : Program} {w : World} {A : Around} {E : Value → Shared → Prop} {s : Shared}
/-- set(xs), a list of ints -/
theorem set_of_list {l : Addr} {us : Array Value} (ns : List Int) {R : Value → Shared → Prop} (hA : A.handled = none) (hl : s.heap.IsList l us) (hi : IntsAre us.toList ns) (hn : ns.length + 1 < scanBound)
    (fin : ∀ (g : Heap) (tk c : Nat), SetR w g s.heap.objs.size (fun j => decide (j ∈ ns)) c → c ≤ ns.length → (∀ b o, s.heap.get? b = some o → g.get? b = some o) → R (.ref s.heap.objs.size) { s with heap := g, toks := tk }) :
    wpAny (model P w) A (call (.type "set") [.ref l]) R E s := by
  have len : us.size = ns.length := (Array.length_toList (xs := us)).symm.trans hi.length
  obtain ⟨_, _, hmro⟩ := F.called_set.mro
  have m1 := F.called_set.made
  have m2 := F.called_set.sub
  have m3 := F.called_set.notType
  have m4 := F.called_set.canCreate
  have m5 := F.typeCall_set_1 (.ref l)
  refine wpAny_call (codeAny_of_tree (show wpAny _ _ (callAny (.type "set") _) _ _ _ from wpAny_pure ⟨Code.quiet_builtin _ (by decide +kernel), codeAny_builtin F.entry_type_call ?_⟩))
  rw [Around.under_plain (weight_type_call_type "set" [.ref l] []) rfl]
  repeat (any_goals (first | assumption | wp_step))
  obtain ⟨S0, hS0⟩ : ∃ o : Obj, o = { cls := .type "set", dict := none, data := .set #[] 0 (.fresh 0 0 (!w.params.followText "set-order")) } := ⟨_, rfl⟩
  refine codeAny_mono (code_set_led1 (.ref l) (E := E) (Q₁ := fun v t => v = .ref s.heap.objs.size ∧ t = { s with heap := s.heap.push S0 }) ⟨rfl, by rw [hS0]⟩) ?_
  rintro (e | fl) t ht
  · exact ht
  rcases fl with _ | _ | _ | v <;> first | exact ht.elim | skip
  obtain ⟨rfl, rfl⟩ := ht
  have at0 : (s.heap.push S0).get? s.heap.objs.size = some S0 := Heap.get?_push_size _ (by rw [hS0]; rfl)
  have ty0 : Shared.TypeIs { s with heap := s.heap.push S0 } (.ref s.heap.objs.size) "set" := ⟨_, at0, by rw [hS0]⟩
  have i1 := F.called_set.init.lookup
  have i2 := F.called_set.init.bind (.ref s.heap.objs.size)
  repeat (any_goals (first | assumption | wp_step))
  refine codeAny_mono (codeAny_call_builtin (R := wants (fun v t => v = .none ∧ ∃ g tk c, t = { s with heap := g, toks := tk } ∧ SetR w g s.heap.objs.size (fun j => decide (j ∈ ns)) c ∧ c ≤ ns.length ∧ (∀ b o, s.heap.get? b = some o → g.get? b = some o)) E)
    F.called_set.init.plain F.entry_set_init (check_set_init_1 ty0 ?_)) ?_
  · obtain ⟨⟨lc, ld, ldat, lsl⟩, hol, hc, k, hd⟩ := hl
    cases hc
    cases hd
    subst hS0
    have kept : ∀ b o, s.heap.get? b = some o → (s.heap.push { cls := .type "set", dict := none, data := .set #[] 0 (.fresh 0 0 (!w.params.followText "set-order")) }).get? b = some o := fun b o => Heap.get?_push_of_some _
    have hl1 : (s.heap.push { cls := .type "set", dict := none, data := .set #[] 0 (.fresh 0 0 (!w.params.followText "set-order")) }).IsList l us := ⟨_, kept _ _ hol, rfl, k, rfl⟩
    have q1 := F.sub_list_set
    have q2 := F.sub_list_frozenset
    have q3 : (Value.type "list" == Value.type "dict") = false := by decide
    have hol' := kept _ _ hol
    unfold Builtin.«set.__init__» noKeywords Builtin.Frozenset.updateFrom
    generalize hP : pyIter = PI
    wp_walk
    subst hP
    have sz : (s.heap.push { cls := .type "set", dict := none, data := .set #[] 0 (.fresh 0 0 (!w.params.followText "set-order")) }).objs.size = s.heap.objs.size + 1 := Heap.size_push ..
    have lt : l < s.heap.objs.size := Heap.lt_size hol
    have items : ∀ (i : Nat) (v : Value), us[i]? = some v → ∃ z t, ns[i]? = some z ∧ v = .int z t := fun i v hv => by
      obtain ⟨hlt, _⟩ := Array.getElem?_eq_some_iff.mp hv
      rw [len] at hlt
      obtain ⟨t, e⟩ := IntsAre.int_at hi i v (by rw [Array.getElem?_toList]; exact hv)
      exact ⟨ns[i], t, List.getElem?_eq_getElem hlt, by rw [e, List.getD_eq_getElem?_getD, List.getElem?_eq_getElem hlt]; rfl⟩
    have ne1 : l ≠ (s.heap.push { cls := .type "set", dict := none, data := .set #[] 0 (.fresh 0 0 (!w.params.followText "set-order")) }).objs.size := by
      rw [sz]
      exact Nat.ne_of_lt (Nat.lt_succ_of_lt lt)
    have ne2 : s.heap.objs.size ∉ [(s.heap.push { cls := .type "set", dict := none, data := .set #[] 0 (.fresh 0 0 (!w.params.followText "set-order")) }).objs.size, l] := by
      rw [sz, List.mem_cons, List.mem_singleton, not_or]
      exact ⟨Nat.ne_of_lt (Nat.lt_succ_self _), Nat.ne_of_gt lt⟩
    have hA3 : A.in1.in1.in1.handled = none := by simp [hA]
    refine wpAny_pyIter_list (s := { s with heap := s.heap.push { cls := .type "set", dict := none, data := .set #[] 0 (.fresh 0 0 (!w.params.followText "set-order")) } }) hl1 ?_
    refine wpAny_bind (wpAny_runValue ?_)
    refine set_update_ints ((Walks.list hA3 _ l ne1 us).toS) s.heap.objs.size ne2 ns len hn items (us.size - 0) 0 _ (by omega) (Nat.zero_le _) ⟨⟨_, Heap.get?_push_size _ rfl, rfl, rfl⟩, hl1.push _⟩ ⟨0, Nat.le_refl 0, setR_new_at (Heap.get?_push_of_some _ at0)⟩ ?_
    rintro ⟨g, gs, d, tk, os⟩ c hm hc hS
    obtain rfl : gs = s.gens := hm.gens
    obtain rfl : d = s.drawn := hm.drawn
    obtain rfl : os = s.os := hm.os
    rw [len] at hc
    refine wpAny_pure (show wpAny _ _ (ret Value.none) _ _ _ from wpAny_pure ⟨rfl, g, tk, c, rfl, hS, hc, fun b o e => ?_⟩)
    have lb := Heap.lt_size e
    refine hm.heap b o ?_ (Heap.get?_push_of_some _ (kept b o e))
    rw [List.mem_cons, List.mem_singleton, not_or, sz]
    exact ⟨Nat.ne_of_lt lb, Nat.ne_of_lt (Nat.lt_succ_of_lt lb)⟩
  · rintro (e | fl) t ht
    · exact ht
    rcases fl with _ | _ | _ | v <;> first | exact ht.elim | skip
    obtain ⟨rfl, g, tk, c, rfl, hS, hc, hk⟩ := ht
    repeat (any_goals (first | assumption | wp_step))
    exact fin _ _ _ hS hc hk
end
section
open PySem PySem.Spec L2
variable {X : Cx}
/-- set(xs), a list or a tuple of ints -/
def rSetI (K : PySem.W.Frag) (w : World) : List V → Hp → VK → Prop := fun xs H Q => ∃ (a : Addr) (ns : List Int), xs = [.ref a] ∧ (SqL K H a (ns.map V.int) ∨ SqT K H a (ns.map V.int)) ∧ ns.length < 64 ∧
  ∀ p c, c ≤ ns.length → H p = none → Q (.ref p) (upd H p (SetO w p (fun j => decide (j ∈ ns)) c))
theorem cr_setI (hc : X.calm = true) : CallR X (.type "set") (rSetI X.K X.w) := by
  rintro pins s σ H xs us Q I r ⟨a, ns, rfl, hs, h64, q⟩
  rw [Vals.ref1 r]
  have hb : ns.length + 1 < scanBound := Nat.lt_of_lt_of_le (show ns.length + 1 < 65 by omega) (by decide +kernel)
  have fin : ∀ (g : Heap) (tk c : Nat), SetR X.w g s.heap.objs.size (fun j => decide (j ∈ ns)) c → c ≤ ns.length → (∀ b o, s.heap.get? b = some o → g.get? b = some o) →
      EP X pins σ Q (.ref s.heap.objs.size) { s with heap := g, toks := tk } := fun g tk c hS hc' hk =>
    ⟨.ref _, _, I.laid (t' := tk) hk (Nat.le_refl _) (setO_new hS), rfl, q _ c hc' I.fresh⟩
  rcases hs with hs | hs
  · obtain ⟨its, rv, hl, _⟩ := I.list hs
    exact set_of_list ns (I.ok.hd hc) hl.isList rv.ints hb fin
  · obtain ⟨its, rv, ht, _⟩ := I.tuple hs
    exact call_set_tupI ns (I.ok.hd hc) ht rv.ints hb fin
def dd : List Int → List Int
  | [] => []
  | x :: r => if x ∈ r then dd r else x :: dd r
def sset (ns : List Int) : List Int := isort (dd ns)
theorem mem_dd {x : Int} : ∀ {l : List Int}, x ∈ dd l ↔ x ∈ l
  | [] => Iff.rfl
  | y :: r => by
    unfold dd
    split
    · rename_i h
      rw [mem_dd, List.mem_cons]
      constructor
      · exact .inr
      · rintro (rfl | h2)
        · exact h
        · exact h2
    · rw [List.mem_cons, List.mem_cons, mem_dd]
theorem dd_nodup : ∀ l : List Int, (dd l).Nodup
  | [] => .nil
  | y :: r => by
    unfold dd
    split
    · exact dd_nodup r
    · rename_i h
      exact List.nodup_cons.mpr ⟨fun z => h (mem_dd.mp z), dd_nodup r⟩
theorem lt_of_le_nd : ∀ {l : List Int}, l.Pairwise (· ≤ ·) → l.Nodup → l.Pairwise (· < ·)
  | [], _, _ => .nil
  | x :: r, h, n => by
    obtain ⟨h1, h2⟩ := List.pairwise_cons.mp h
    obtain ⟨n1, n2⟩ := List.nodup_cons.mp n
    refine List.pairwise_cons.mpr ⟨fun y hy => ?_, lt_of_le_nd h2 n2⟩
    have := h1 y hy
    rcases Int.lt_or_eq_of_le this with z | z
    · exact z
    · exact absurd (z ▸ hy) n1
theorem sset_lt (ns : List Int) : (sset ns).Pairwise (· < ·) := lt_of_le_nd (isort_sorted _) ((isort_perm _).nodup_iff.mpr (dd_nodup ns))
theorem mem_sset {x : Int} {ns : List Int} : x ∈ sset ns ↔ x ∈ ns := (isort_perm _).mem_iff.trans mem_dd
theorem strict_uniq : ∀ {l m : List Int}, l.Pairwise (· < ·) → m.Pairwise (· < ·) → (∀ x, x ∈ l ↔ x ∈ m) → l = m
  | [], [], _, _, _ => rfl
  | [], y :: m, _, _, h => by have := (h y).mpr List.mem_cons_self; cases this
  | x :: l, [], _, _, h => by have := (h x).mp List.mem_cons_self; cases this
  | x :: l, y :: m, hl, hm, h => by
    obtain ⟨l1, l2⟩ := List.pairwise_cons.mp hl
    obtain ⟨m1, m2⟩ := List.pairwise_cons.mp hm
    have e : x = y := by
      rcases List.mem_cons.mp ((h x).mp List.mem_cons_self) with z | z
      · exact z
      · rcases List.mem_cons.mp ((h y).mpr List.mem_cons_self) with z2 | z2
        · exact z2.symm
        · have a := m1 x z
          have b := l1 y z2
          omega
    subst e
    rw [strict_uniq l2 m2 fun z => ?_]
    constructor
    · intro hz
      rcases List.mem_cons.mp ((h z).mp (List.mem_cons_of_mem _ hz)) with e | e
      · have := l1 z hz
        omega
      · exact e
    · intro hz
      rcases List.mem_cons.mp ((h z).mpr (List.mem_cons_of_mem _ hz)) with e | e
      · have := m1 z hz
        omega
      · exact e
def ssetT (fz : Bool) (t : T) (H : TH) (Q : KT) : Prop := match seqOf H t with
  | some xs => match asInts xs with
    | some ns => ns.length < 64 ∧ mk fz ((sset ns).map T.int) H Q
    | none => False
  | none => False
theorem L_sset {K : PySem.W.Frag} {w : World} {τ : L2.St} {Hc : Hp} {fz : Bool} {wa : WE} {R : VK} (h : L K (fun σ H Q => wa σ H fun t H1 => ssetT fz t H1 Q) τ Hc R) :
    tCB (rSortedSet w) (tCons (tCB (rSetI K w) (tCons (L K wa) tNil)) tNil) τ Hc R := by
  obtain ⟨Z, σ, H, Q, r, A, h, P⟩ := h
  refine ⟨Z, σ, H, _, r, A, h, fun t v H1 Hc1 rt A1 e1 q => ?_⟩
  unfold ssetT at q
  split at q
  · rename_i xs e
    split at q
    · rename_i ns e2
      obtain ⟨a, vs, rfl, h1, s1⟩ := seqOf_ok A1 rt e
      rw [asInts_eq e2] at s1
      rw [(reps_ints ns).mp s1] at h1
      refine ⟨a, ns, rfl, h1, q.1, fun p c hc n => ⟨p, _, c, rfl, upd_same, by omega, fun ms p2 m1 m2 m3 n2 => ?_⟩⟩
      have em : ms = sset ns := strict_uniq m1 (sset_lt ns) fun x => by
        rw [m2 x, decide_eq_true_eq, mem_sset]
      have A2 : Abs K Z H1 (upd Hc1 p (SetO w p (fun j => decide (j ∈ ns)) c)) := A1.con n
      rw [em]
      exact mk_ok q.2 A2 ((reps_ints _).mpr rfl) (P.ext (e1.trans (ext_con n))) p2 n2
    · exact q.elim
  · exact q.elim
end
end TL
set_option maxRecDepth 100000
set_option maxHeartbeats 1000000
namespace TL
open PySem PySem.Spec L2
/-! ### the text as small trees -/
inductive BI where
  | len | tuple | sorted (fz : Bool) | list (fz : Bool) | all | any | sum | max | min | int
def BI.o : BI → OC
  | .len => cLen
  | .tuple => cTuple
  | .sorted fz => cSorted fz
  | .list fz => cList fz
  | .all => cAll
  | .any => cAny
  | .sum => cSum
  | .max => cMax
  | .min => cMin
  | .int => cInt
def BI.nm : BI → Str
  | .len => "len"
  | .tuple => "tuple"
  | .sorted _ => "sorted"
  | .list _ => "list"
  | .all => "all"
  | .any => "any"
  | .sum => "sum"
  | .max => "max"
  | .min => "min"
  | .int => "int"
inductive ME where
  | append | pop | popAt | reverse | get1 | get2
def ME.o : ME → OM
  | .append => mAppend
  | .pop => mPop
  | .popAt => mPopAt
  | .reverse => mReverse
  | .get1 => mGet1
  | .get2 => mGet2
def ME.rv : ME → String
  | .get1 => "dict"
  | .get2 => "dict"
  | _ => "list"
def ME.nm : ME → Str
  | .append => "append"
  | .pop => "pop"
  | .popAt => "pop"
  | .reverse => "reverse"
  | .get1 => "get"
  | .get2 => "get"
def ME.ar : ME → Nat
  | .pop => 0
  | .reverse => 0
  | .get2 => 2
  | _ => 1
inductive Op2 where
  | add (fz : Bool) | sub | mul (fz : Bool) | div | mod | pow
def Op2.o : Op2 → O2
  | .add fz => oAdd fz
  | .sub => oSub
  | .mul fz => oMul fz
  | .div => oDiv
  | .mod => oMod
  | .pow => oPow
def Op2.is : Op2 → Operator → Bool
  | .add _, .Add => true
  | .sub, .Sub => true
  | .mul _, .Mult => true
  | .div, .FloorDiv => true
  | .mod, .Mod => true
  | .pow, .Pow => true
  | _, _ => false
inductive Cm where
  | eq | ne | lt | le | gt | ge | isN | notN | isIn | notIn
def Cm.o : Cm → O2
  | .eq => oEq false
  | .ne => oEq true
  | .lt => oCmp fun i j => decide (i < j)
  | .le => oCmp fun i j => decide (i ≤ j)
  | .gt => oCmp fun i j => decide (j < i)
  | .ge => oCmp fun i j => decide (j ≤ i)
  | .isN => oIs false
  | .notN => oIs true
  | .isIn => oIn false
  | .notIn => oIn true
def Cm.is : Cm → CmpOp → Bool
  | .eq, .Eq => true
  | .ne, .NotEq => true
  | .lt, .Lt => true
  | .le, .LtE => true
  | .gt, .Gt => true
  | .ge, .GtE => true
  | .isN, .Is => true
  | .notN, .IsNot => true
  | .isIn, .In => true
  | .notIn, .NotIn => true
  | _, _ => false
/-- targets: a name, or names in a row -/
inductive Tg where
  | n (i : Nat) | t (is : List Nat)
def Tg.slots : Tg → List Nat
  | .n i => [i]
  | .t is => is
def putAll : List Nat → List T → TSt → Option TSt
  | [], [], σ => some σ
  | i :: is, t :: ts, σ => putAll is ts (σ.set i (some t))
  | _, _, _ => none
def Tg.put : Tg → T → TSt → Option TSt
  | Tg.n i, u, σ => some (σ.set i (some u))
  | Tg.t is, .tup ts, σ => putAll is ts σ
  | Tg.t _, _, _ => none
mutual
inductive E where
  | v (i : Nat) | non | bl (b : Bool) | int (n : Int) | str (x : Str)
  | neg (a : E) | op (o : Op2) (a b : E) | cmp (o : Cm) (a b : E) | chain (o o' : Cm) (a b c : E)
  | and (a b : E) | or (a b : E) | not (a : E) | ite (c a b : E)
  | ix (a i : E) | sl (fz : Bool) (a lo hi : E) | tup (es : Es) | lst (fz : Bool) (es : Es) | dnew
  | call (k : Nat) (es : Es) | bi (f : BI) (es : Es) | isi (a : E) (y : Ty) | me (m : ME) (o : E) (es : Es)
  | lc (fz : Bool) (tg : Tg) (it : It) (elt cond : E) | dc (tg : Tg) (it : It) (k v : E)
  | sset (fz : Bool) (a : E) | frz (a : E) | nop
inductive Es where
  | nil | cons (e : E) (r : Es)
inductive It where
  | over (a : E) | rng1 (a : E) | rng2 (a b : E)
end
def isNop : E → Bool
  | .nop => true
  | _ => false
abbrev TSp := List T → TH → KT → Prop
abbrev WI := TSt → TH → ((TH → Prop) → List T → TH → Prop) → Prop
/-- the items that a loop goes through, and what must stay so -/
def overT (t : T) (H : TH) (R : (TH → Prop) → List T → TH → Prop) : Prop := match t with
  | .tup ts => R (fun _ => True) ts H
  | .lst ts => R (fun _ => True) ts H
  | .scr ts => R (fun _ => True) ts H
  | .ref p => match H p with
    | some (.lst ts) => R (fun H' => H' p = some (.lst ts)) ts H
    | _ => False
  | _ => False
def rngT (lo hi : Int) (H : TH) (R : (TH → Prop) → List T → TH → Prop) : Prop :=
  (-(2 ^ 62) ≤ lo ∧ lo < 2 ^ 62 ∧ -(2 ^ 62) ≤ hi ∧ hi < 2 ^ 62) ∧ R (fun _ => True) ((List.range (hi - lo).toNat).map fun (i : Nat) => T.int (lo + i)) H
/-- a comprehension's turns -/
def lcGo (ck : TH → Prop) (body : T → TH → (Option T → TH → Prop) → Prop) : List T → List T → TH → (List T → TH → Prop) → Prop
  | [], acc, H, K => ck H ∧ K acc H
  | x :: r, acc, H, K => ck H ∧ body x H fun o H' => match o with
    | none => lcGo ck body r acc H' K
    | some y => acc.length < sizeLine ∧ lcGo ck body r (acc ++ [y]) H' K
def dcGo (ck : TH → Prop) (body : T → TH → (T → T → TH → Prop) → Prop) : List T → List (Key × T) → TH → (List (Key × T) → TH → Prop) → Prop
  | [], acc, H, K => ck H ∧ K acc H
  | x :: r, acc, H, K => ck H ∧ body x H fun k y H' => match keyT k with
    | some k => acc.length < sizeLine ∧ dcGo ck body r (setK acc k y) H' K
    | none => False
def frzT (t : T) (H : TH) (Q : KT) : Prop := match t with
  | .ref p => match H p with
    | some (.lst ts) => Q (.lst ts) (del H p)
    | _ => False
  | t => Q t H
def asInt (t : T) (H : TH) (Q : Option Int → TH → Prop) : Prop := match t with
  | .int i => Q (some i) H
  | _ => False
mutual
def wE (C : Nat → TSp) : E → WE
  | .v i, σ, H, Q => match lk σ i with
    | some t => Q t H
    | none => False
  | .non, _, H, Q => Q .non H
  | .bl b, _, H, Q => Q (.bl b) H
  | .int n, _, H, Q => Q (.int n) H
  | .str x, _, H, Q => Q (.str x) H
  | .neg a, σ, H, Q => wE C a σ H fun t H1 => match t with
    | .int n => Q (.int (-n)) H1
    | _ => False
  | .op o a b, σ, H, Q => wE C a σ H fun x H1 => wE C b σ H1 fun y H2 => o.o x y H2 Q
  | .cmp o a b, σ, H, Q => wE C a σ H fun x H1 => wE C b σ H1 fun y H2 => o.o x y H2 Q
  | .chain o o' a b c, σ, H, Q => wE C a σ H fun x H1 => wE C b σ H1 fun y H2 => o.o x y H2 fun z H3 => match z with
    | .bl true => wE C c σ H3 fun u H4 => o'.o y u H4 Q
    | .bl false => Q (.bl false) H3
    | _ => False
  | .and a b, σ, H, Q => wE C a σ H fun x H1 => match x with
    | .bl true => wE C b σ H1 Q
    | .bl false => Q (.bl false) H1
    | _ => False
  | .or a b, σ, H, Q => wE C a σ H fun x H1 => match x with
    | .bl true => Q (.bl true) H1
    | .bl false => wE C b σ H1 Q
    | _ => False
  | .not a, σ, H, Q => wE C a σ H fun x H1 => match x with
    | .bl b => Q (.bl (!b)) H1
    | _ => False
  | .ite c a b, σ, H, Q => wE C c σ H fun x H1 => match x with
    | .bl true => wE C a σ H1 Q
    | .bl false => wE C b σ H1 Q
    | _ => False
  | .ix a i, σ, H, Q => wE C a σ H fun x H1 => wE C i σ H1 fun y H2 => oIx x y H2 Q
  | .sl fz a lo hi, σ, H, Q => wE C a σ H fun x H1 => (if isNop lo = true then fun R => R none H1 else fun R => wE C lo σ H1 fun t H2 => asInt t H2 R) fun l H2 =>
    (if isNop hi = true then fun R => R none H2 else fun R => wE C hi σ H2 fun t H3 => asInt t H3 R) fun u H3 => oSl fz x l u H3 Q
  | .tup es, σ, H, Q => wEs C es σ H fun ts H1 => ts.length ≤ sizeLine ∧ Q (.tup ts) H1
  | .lst fz es, σ, H, Q => wEs C es σ H fun ts H1 => ts.length ≤ sizeLine ∧ mk fz ts H1 Q
  | .dnew, _, H, Q => ∀ p, H p = none → Q (.ref p) (up H p (.dk []))
  | .call k es, σ, H, Q => wEs C es σ H fun ts H1 => C k ts H1 Q
  | .bi f es, σ, H, Q => wEs C es σ H fun ts H1 => f.o ts H1 Q
  | .isi a y, σ, H, Q => wE C a σ H fun t H1 => cIsinst y [t] H1 Q
  | .me m o es, σ, H, Q => wE C o σ H fun t H1 => recv m.rv t H1 ∧ wEs C es σ H1 fun ts H2 => m.o t ts H2 Q
  | .lc fz tg it elt cond, σ, H, Q => wI C it σ H fun ck xs H1 => lcGo ck (fun x H2 K => match tg.put x σ with
      | some σ' => if isNop cond = true then wE C elt σ' H2 fun y H3 => K (some y) H3 else wE C cond σ' H2 fun c H3 => match c with
        | .bl true => wE C elt σ' H3 fun y H4 => K (some y) H4
        | .bl false => K none H3
        | _ => False
      | none => False) xs [] H1 fun acc H2 => mk fz acc H2 Q
  | .dc tg it k v, σ, H, Q => wI C it σ H fun ck xs H1 => dcGo ck (fun x H2 K => match tg.put x σ with
      | some σ' => wE C k σ' H2 fun y H3 => wE C v σ' H3 fun z H4 => K y z H4
      | none => False) xs [] H1 fun acc H2 => ∀ p, H2 p = none → Q (.ref p) (up H2 p (.dk acc))
  | .sset fz a, σ, H, Q => wE C a σ H fun t H1 => ssetT fz t H1 Q
  | .frz a, σ, H, Q => wE C a σ H fun t H1 => frzT t H1 Q
  | .nop, _, _, _ => False
def wEs (C : Nat → TSp) : Es → WA
  | .nil, _, H, Q => Q [] H
  | .cons e r, σ, H, Q => wE C e σ H fun t H1 => wEs C r σ H1 fun ts H2 => Q (t :: ts) H2
def wI (C : Nat → TSp) : It → WI
  | .over a, σ, H, R => wE C a σ H fun t H1 => overT t H1 R
  | .rng1 a, σ, H, R => wE C a σ H fun t H1 => match t with
    | .int n => rngT 0 n H1 R
    | _ => False
  | .rng2 a b, σ, H, R => wE C a σ H fun t H1 => wE C b σ H1 fun u H2 => match t, u with
    | .int m, .int n => rngT m n H2 R
    | _, _ => False
end
/-! ### is this the text? -/
structure Info where
  N : List Str
  F : List Str
def vis (sc : Scope) (x : Str) : Bool := match sc.names.lookup x with
  | some .local => true
  | some .cell => true
  | some .free => true
  | _ => false
def locv (sc : Scope) (x : Str) : Bool := match sc.names.lookup x with
  | some .local => true
  | _ => false
def glob (sc : Scope) (x : Str) : Bool := match sc.names.lookup x with
  | some .globalImplicit => true
  | _ => false
def okN (I : Info) (sc : Scope) (i : Nat) (x : Str) : Bool := decide (I.N[i]? = some x) && vis sc x && !(x == ("__debug__" : Str)) && !(x == ("__classdict__" : Str))
def cellv (sc : Scope) (x : Str) : Bool := match sc.names.lookup x with
  | some .cell => true
  | _ => false
/-- top: a def's own body, whose cells were made at its entry -/
def okX (I : Info) (top : Bool) (sc : Scope) (i : Nat) (x : Str) : Bool := decide (I.N[i]? = some x) && (locv sc x || (top && cellv sc x))
def okXs (I : Info) (top : Bool) (sc : Scope) : List Nat → List Expr → Bool
  | [], [] => true
  | i :: is, .Name x _ :: es => okX I top sc i x && okXs I top sc is es
  | _, _ => false
def nodupN : List Nat → Bool
  | [] => true
  | x :: r => !(r.contains x) && nodupN r
def okG (I : Info) (top : Bool) (sc : Scope) : Tg → Expr → Bool
  | .n i, .Name x _ => okX I top sc i x
  | .t is, .Tuple es _ _ => okXs I top sc is es && nodupN is
  | _, _ => false
def plain : Expr → Bool
  | .Starred _ _ => false
  | .Slice _ _ _ _ => false
  | .Set _ _ _ => false
  | _ => true
def ownOf (I : Info) (tg : Tg) : List (Str × Nat) := tg.slots.map fun i => (I.N.getD i ("" : Str), i)
mutual
def okE (I : Info) (sc : Scope) : E → Expr → Bool
  | .v i, .Name x _ => okN I sc i x
  | .non, .Constant .none _ _ => true
  | .bl b, .Constant (.bool c) _ _ => b == c
  | .int n, .Constant (.int m) _ _ => decide (n = m)
  | .str x, .Constant (.str y) _ _ => decide (x = y)
  | .neg a, .UnaryOp .USub x _ => okE I sc a x
  | .op o a b, .BinOp x p y _ => o.is p && okE I sc a x && okE I sc b y
  | .cmp o a b, .Compare x [p] [y] _ => o.is p && okE I sc a x && okE I sc b y && plain y
  | .chain o o' a b c, .Compare x [p, p'] [y, z] _ => o.is p && o'.is p' && okE I sc a x && okE I sc b y && okE I sc c z && plain y && plain z
  | .and a b, .BoolOp .And (x :: y :: rest) pos => okE I sc a x && (match rest with
    | [] => okE I sc b y
    | z :: r => okE I sc b (.BoolOp .And (y :: z :: r) pos))
  | .or a b, .BoolOp .Or (x :: y :: rest) pos => okE I sc a x && (match rest with
    | [] => okE I sc b y
    | z :: r => okE I sc b (.BoolOp .Or (y :: z :: r) pos))
  | .not a, .UnaryOp .Not x _ => okE I sc a x
  | .ite c a b, .IfExp z x y _ => okE I sc c z && okE I sc a x && okE I sc b y
  | .ix a i, .Subscript x y _ => okE I sc a x && okE I sc i y && plain y
  | .sl _ a lo hi, .Subscript x (.Slice l h none _) _ => okE I sc a x && (match l with
    | none => isNop lo
    | some l => !isNop lo && okE I sc lo l) && (match h with
    | none => isNop hi
    | some h => !isNop hi && okE I sc hi h)
  | .tup es, .Tuple xs _ _ => okEs I sc es xs
  | .lst _ es, .List xs _ => okEs I sc es xs
  | .dnew, .Dict [] [] _ => true
  | .call k es, .Call (.Name x _) (y :: ys) [] _ => decide (I.F[k]? = some x) && glob sc x && !(x == ("__debug__" : Str)) && okEs I sc es (y :: ys)
  | .bi f es, .Call (.Name x _) (y :: ys) [] _ => decide (x = f.nm) && glob sc x && okEs I sc es (y :: ys)
  | .isi a y, .Call (.Name x _) [z, .Name u _] [] _ => decide (x = ("isinstance" : Str)) && glob sc x && decide (u = Str.ofString y.nm) && glob sc u && okE I sc a z && plain z
  | .me m o es, .Call (.Attribute x n p) ys [] q => decide (n = m.nm) && (p.endLine == q.line) && okE I sc o x && okEs I sc es ys && (ys.length == m.ar) && (match x with
    | .Call _ _ _ _ => false
    | _ => true)
  | .lc _ tg it elt cond, .ListComp y [⟨t, i, ifs, 0⟩] scope _ => okI I sc it i && plain i && blkC I.N sc scope (ownOf I tg) && okG I false (relS scope sc) tg t && okE I (relS scope sc) elt y && (match ifs with
    | [] => isNop cond
    | [c] => !isNop cond && okE I (relS scope sc) cond c
    | _ => false)
  | .dc tg it k v, .DictComp kx vx [⟨t, i, [], 0⟩] scope _ => okI I sc it i && plain i && blkC I.N sc scope (ownOf I tg) && okG I false (relS scope sc) tg t && okE I (relS scope sc) k kx && okE I (relS scope sc) v vx
  | .sset _ a, .Call (.Name f _) [.Call (.Name g _) [x] [] _] [] _ => decide (f = ("sorted" : Str)) && glob sc f && decide (g = ("set" : Str)) && glob sc g && okE I sc a x && plain x
  | .frz a, x => okE I sc a x
  | _, _ => false
def okEs (I : Info) (sc : Scope) : Es → List Expr → Bool
  | .nil, [] => true
  | .cons e r, x :: xs => okE I sc e x && plain x && okEs I sc r xs
  | _, _ => false
def okI (I : Info) (sc : Scope) : It → Expr → Bool
  | .over a, x => okE I sc a x
  | .rng1 a, .Call (.Name f _) [x] [] _ => decide (f = ("range" : Str)) && glob sc f && okE I sc a x && plain x
  | .rng2 a b, .Call (.Name f _) [x, y] [] _ => decide (f = ("range" : Str)) && glob sc f && okE I sc a x && okE I sc b y && plain x && plain y
  | _, _ => false
end
end TL
set_option maxRecDepth 100000
set_option maxHeartbeats 1000000
namespace TL
open PySem PySem.Spec L2
/-! ### composition -/
section
variable {K : PySem.W.Frag} {τ : L2.St} {Hc : Hp}
theorem L_op {o : O2} {wa wb : WE} {R : VK} (h : L K (fun σ H Q => wa σ H fun x H1 => wb σ H1 fun y H2 => o x y H2 Q) τ Hc R) : tOp (lift2 K o) (L K wa) (L K wb) τ Hc R := by
  obtain ⟨Z, σ, H, Q, r, A, h, P⟩ := h
  refine ⟨Z, σ, H, _, r, A, h, fun t v H1 Hc1 rt A1 e1 h1 => ?_⟩
  refine ⟨Z, σ, H1, _, r.ext e1, A1, h1, fun u w H2 Hc2 ru A2 e2 h2 => ?_⟩
  exact ⟨Z, H2, t, u, Q, A2, Rep.ext e2 _ _ rt, ru, h2, P.ext (e1.trans e2)⟩
theorem L_con {t : T} {v : V} {R : VK} (hr : ∀ Z H Hc, Rep K Z H Hc t v) (h : L K (fun _ H Q => Q t H) τ Hc R) : tC v τ Hc R := by
  obtain ⟨Z, σ, H, Q, r, A, h, P⟩ := h
  exact P t v H Hc (hr _ _ _) A .refl h
theorem L_var {i : Nat} {R : VK} (h : L K (fun σ H Q => match lk σ i with
    | some t => Q t H
    | none => False) τ Hc R) : tVar i τ Hc R := by
  obtain ⟨Z, σ, H, Q, r, A, h, P⟩ := h
  cases e : lk σ i with
  | none =>
    rw [e] at h
    exact h.elim
  | some t =>
    rw [e] at h
    obtain ⟨v, e2, rv⟩ := r.2 i t (lk_eq e)
    exact ⟨v, e2, P t v H Hc rv A .refl h⟩
theorem L_neg {wa : WE} {R : VK} (h : L K (fun σ H Q => wa σ H fun t H1 => match t with
    | .int n => Q (.int (-n)) H1
    | _ => False) τ Hc R) : tUn (rU fun i => .int (-i)) (L K wa) τ Hc R := by
  obtain ⟨Z, σ, H, Q, r, A, h, P⟩ := h
  refine ⟨Z, σ, H, _, r, A, h, fun t v H1 Hc1 rt A1 e1 h1 => ?_⟩
  cases t with
  | int i => exact ⟨i, rep_int.mp rt, p_int A1 h1 (P.ext e1)⟩
  | _ => exact h1.elim
theorem L_chain {o o' : O2} {wa wb wc : WE} {R : VK} (h : L K (fun σ H Q => wa σ H fun x H1 => wb σ H1 fun y H2 => o x y H2 fun z H3 => match z with
    | .bl true => wc σ H3 fun u H4 => o' y u H4 Q
    | .bl false => Q (.bl false) H3
    | _ => False) τ Hc R) : tChain (lift2 K o) (lift2 K o') (L K wa) (L K wb) (L K wc) τ Hc R := by
  obtain ⟨Z, σ, H, Q, r, A, h, P⟩ := h
  refine ⟨Z, σ, H, _, r, A, h, fun t v H1 Hc1 rt A1 e1 h1 => ?_⟩
  refine ⟨Z, σ, H1, _, r.ext e1, A1, h1, fun u w H2 Hc2 ru A2 e2 h2 => ?_⟩
  refine ⟨Z, H2, t, u, _, A2, Rep.ext e2 _ _ rt, ru, h2, fun z zv H3 Hc3 rz A3 e3 h3 => ?_⟩
  cases z with
  | bl k =>
    refine ⟨k, rep_bl.mp rz, ?_⟩
    have E := (e1.trans e2).trans e3
    cases k with
    | true =>
      rw [if_pos rfl]
      refine ⟨Z, σ, H3, _, r.ext E, A3, h3, fun p pv H4 Hc4 rp A4 e4 h4 => ?_⟩
      exact ⟨Z, H4, u, p, Q, A4, Rep.ext (e3.trans e4) _ _ ru, rp, h4, P.ext (E.trans e4)⟩
    | false =>
      rw [if_neg Bool.false_ne_true]
      exact p_bl A3 h3 (P.ext E)
  | _ => exact h3.elim
theorem L_and {wa wb : WE} {R : VK} (h : L K (fun σ H Q => wa σ H fun x H1 => match x with
    | .bl true => wb σ H1 Q
    | .bl false => Q (.bl false) H1
    | _ => False) τ Hc R) : tAndV (L K wa) (L K wb) τ Hc R := by
  obtain ⟨Z, σ, H, Q, r, A, h, P⟩ := h
  refine ⟨Z, σ, H, _, r, A, h, fun t v H1 Hc1 rt A1 e1 h1 => ?_⟩
  cases t with
  | bl k =>
    refine ⟨k, rep_bl.mp rt, ?_⟩
    cases k with
    | true =>
      rw [if_pos rfl]
      exact ⟨Z, σ, H1, Q, r.ext e1, A1, h1, P.ext e1⟩
    | false =>
      rw [if_neg Bool.false_ne_true]
      exact p_bl A1 h1 (P.ext e1)
  | _ => exact h1.elim
theorem L_or {wa wb : WE} {R : VK} (h : L K (fun σ H Q => wa σ H fun x H1 => match x with
    | .bl true => Q (.bl true) H1
    | .bl false => wb σ H1 Q
    | _ => False) τ Hc R) : tOrV (L K wa) (L K wb) τ Hc R := by
  obtain ⟨Z, σ, H, Q, r, A, h, P⟩ := h
  refine ⟨Z, σ, H, _, r, A, h, fun t v H1 Hc1 rt A1 e1 h1 => ?_⟩
  cases t with
  | bl k =>
    refine ⟨k, rep_bl.mp rt, ?_⟩
    cases k with
    | true =>
      rw [if_pos rfl]
      exact p_bl A1 h1 (P.ext e1)
    | false =>
      rw [if_neg Bool.false_ne_true]
      exact ⟨Z, σ, H1, Q, r.ext e1, A1, h1, P.ext e1⟩
  | _ => exact h1.elim
theorem L_not {wa : WE} {R : VK} (h : L K (fun σ H Q => wa σ H fun x H1 => match x with
    | .bl b => Q (.bl (!b)) H1
    | _ => False) τ Hc R) : tNotV (L K wa) τ Hc R := by
  obtain ⟨Z, σ, H, Q, r, A, h, P⟩ := h
  refine ⟨Z, σ, H, _, r, A, h, fun t v H1 Hc1 rt A1 e1 h1 => ?_⟩
  cases t with
  | bl k => exact ⟨k, rep_bl.mp rt, p_bl A1 h1 (P.ext e1)⟩
  | _ => exact h1.elim
theorem LT_and {wa wb : WE} {R : Bool → Hp → Prop} (h : LT K (fun σ H Q => wa σ H fun x H1 => match x with
    | .bl true => wb σ H1 Q
    | .bl false => Q (.bl false) H1
    | _ => False) τ Hc R) : tAnd (LT K wa) (LT K wb) τ Hc R := by
  refine L.mono (L_and h) fun v H ⟨c, e, q⟩ => ⟨c, e, ?_⟩
  cases c with
  | true =>
    rw [if_pos rfl] at q ⊢
    exact q
  | false =>
    rw [if_neg Bool.false_ne_true] at q ⊢
    obtain ⟨k, ek, q⟩ := q
    cases ek
    exact q
theorem LT_or {wa wb : WE} {R : Bool → Hp → Prop} (h : LT K (fun σ H Q => wa σ H fun x H1 => match x with
    | .bl true => Q (.bl true) H1
    | .bl false => wb σ H1 Q
    | _ => False) τ Hc R) : tOr (LT K wa) (LT K wb) τ Hc R := by
  refine L.mono (L_or h) fun v H ⟨c, e, q⟩ => ⟨c, e, ?_⟩
  cases c with
  | true =>
    rw [if_pos rfl] at q ⊢
    obtain ⟨k, ek, q⟩ := q
    cases ek
    exact q
  | false =>
    rw [if_neg Bool.false_ne_true] at q ⊢
    exact q
theorem LT_not {wa : WE} {R : Bool → Hp → Prop} (h : LT K (fun σ H Q => wa σ H fun x H1 => match x with
    | .bl b => Q (.bl (!b)) H1
    | _ => False) τ Hc R) : tNot (LT K wa) τ Hc R := by
  refine L.mono (L_not h) fun v H ⟨c, e, k, ek, q⟩ => ⟨c, e, ?_⟩
  cases ek
  exact q
theorem L_ite {wc wa wb : WE} {R : VK} (h : L K (fun σ H Q => wc σ H fun x H1 => match x with
    | .bl true => wa σ H1 Q
    | .bl false => wb σ H1 Q
    | _ => False) τ Hc R) : tIf (LT K wc) (L K wa) (L K wb) τ Hc R := by
  obtain ⟨Z, σ, H, Q, r, A, h, P⟩ := h
  refine ⟨Z, σ, H, _, r, A, h, fun t v H1 Hc1 rt A1 e1 h1 => ?_⟩
  cases t with
  | bl k =>
    refine ⟨k, rep_bl.mp rt, ?_⟩
    cases k with
    | true =>
      rw [if_pos rfl]
      exact ⟨Z, σ, H1, Q, r.ext e1, A1, h1, P.ext e1⟩
    | false =>
      rw [if_neg Bool.false_ne_true]
      exact ⟨Z, σ, H1, Q, r.ext e1, A1, h1, P.ext e1⟩
  | _ => exact h1.elim
theorem LA_nil {R : List V → Hp → Prop} (h : LA K (fun _ H Q => Q [] H) τ Hc R) : tNil τ Hc R := by
  obtain ⟨Z, σ, H, Q, r, A, h, P⟩ := h
  exact P [] [] H Hc (reps_nil.mpr rfl) A .refl h
theorem LA_cons {wa : WE} {wr : WA} {R : List V → Hp → Prop} (h : LA K (fun σ H Q => wa σ H fun t H1 => wr σ H1 fun ts H2 => Q (t :: ts) H2) τ Hc R) : tCons (L K wa) (LA K wr) τ Hc R := by
  obtain ⟨Z, σ, H, Q, r, A, h, P⟩ := h
  refine ⟨Z, σ, H, _, r, A, h, fun t v H1 Hc1 rt A1 e1 h1 => ?_⟩
  refine ⟨Z, σ, H1, _, r.ext e1, A1, h1, fun ts vs H2 Hc2 rts A2 e2 h2 => ?_⟩
  exact P _ _ H2 Hc2 (reps_cons.mpr ⟨v, vs, rfl, Rep.ext e2 _ _ rt, rts⟩) A2 (e1.trans e2) h2
theorem L_args {o : OC} {wa : WA} {R : VK} (h : L K (fun σ H Q => wa σ H fun ts H1 => o ts H1 Q) τ Hc R) : tCB (liftC K o) (LA K wa) τ Hc R := by
  obtain ⟨Z, σ, H, Q, r, A, h, P⟩ := h
  exact ⟨Z, σ, H, _, r, A, h, fun ts vs H1 Hc1 rt A1 e1 h1 => ⟨Z, H1, ts, Q, A1, rt, h1, P.ext e1⟩⟩
theorem L_tup {wa : WA} {R : VK} (h : L K (fun σ H Q => wa σ H fun ts H1 => ts.length ≤ sizeLine ∧ Q (.tup ts) H1) τ Hc R) : tTup (LA K wa) τ Hc R := by
  obtain ⟨Z, σ, H, Q, r, A, h, P⟩ := h
  exact ⟨Z, σ, H, _, r, A, h, fun ts vs H1 Hc1 rt A1 e1 h1 => ⟨by rw [← rt.length]; exact h1.1, tup_ok h1.2 A1 rt (P.ext e1)⟩⟩
theorem L_lst {fz : Bool} {wa : WA} {R : VK} (h : L K (fun σ H Q => wa σ H fun ts H1 => ts.length ≤ sizeLine ∧ mk fz ts H1 Q) τ Hc R) : tLst (LA K wa) τ Hc R := by
  obtain ⟨Z, σ, H, Q, r, A, h, P⟩ := h
  exact ⟨Z, σ, H, _, r, A, h, fun ts vs H1 Hc1 rt A1 e1 h1 => ⟨by rw [← rt.length]; exact h1.1, mk_ok h1.2 A1 rt (P.ext e1)⟩⟩
theorem dk_new {Z : Addr → Prop} {H : TH} {Hc : Hp} {kvs : List (Key × T)} {ws : List (Key × V)} {Q : KT} {R : VK} (A : Abs K Z H Hc) (r : RepK K Z H Hc kvs ws) (q : ∀ p, H p = none → Q (.ref p) (up H p (.dk kvs))) (P : Post K Z H Hc Q R) :
    ∀ p, Hc p = none → R (.ref p) (upd Hc p (.dK ws)) := fun p n =>
  P _ _ _ _ (rep_ref.mpr rfl) (A.new (u := .dk kvs) n ⟨ws, upd_same, RepK.ext (ext_new n) r⟩) (ext_new n) (q p (A.of_con n))
theorem L_dnew {R : VK} (h : L K (fun _ H Q => ∀ p, H p = none → Q (.ref p) (up H p (.dk []))) τ Hc R) : tDNewK τ Hc R := by
  obtain ⟨Z, σ, H, Q, r, A, h, P⟩ := h
  exact dk_new A .nil h P
def liftSp (K : PySem.W.Frag) (sp : TSp) : Sp := fun vs Hc R _ => ∃ (Z : Addr → Prop) (H : TH) (ts : List T) (Q : KT), Abs K Z H Hc ∧ Reps K Z H Hc ts vs ∧ sp ts H Q ∧ Post K Z H Hc Q R
theorem L_call {sp : TSp} {wa : WA} {R : VK} (h : L K (fun σ H Q => wa σ H fun ts H1 => sp ts H1 Q) τ Hc R) : tCall (liftSp K sp) [] E0 (LA K wa) τ Hc R := by
  obtain ⟨Z, σ, H, Q, r, A, h, P⟩ := h
  refine ⟨Z, σ, H, _, r, A, h, fun ts vs H1 Hc1 rt A1 e1 h1 => ?_⟩
  show liftSp K sp (vs ++ []) Hc1 R E0
  rw [List.append_nil]
  exact ⟨Z, H1, ts, Q, A1, rt, h1, P.ext e1⟩
theorem L_me {T' : String} {o : OM} {wa : WE} {wr : WA} {R : VK} (h : L K (fun σ H Q => wa σ H fun t H1 => recv T' t H1 ∧ wr σ H1 fun ts H2 => o t ts H2 Q) τ Hc R) : tBM K T' (liftM K o) (L K wa) (LA K wr) τ Hc R := by
  obtain ⟨Z, σ, H, Q, r, A, h, P⟩ := h
  refine ⟨Z, σ, H, _, r, A, h, fun t v H1 Hc1 rt A1 e1 h1 => ⟨recv_ok A1 rt h1.1, ?_⟩⟩
  exact ⟨Z, σ, H1, _, r.ext e1, A1, h1.2, fun ts vs H2 Hc2 rts A2 e2 h2 => ⟨Z, H2, t, ts, Q, A2, Rep.ext e2 _ _ rt, rts, h2, P.ext (e1.trans e2)⟩⟩
theorem L_me0 {T' : String} {o : OM} {wa : WE} {R : VK} (h : L K (fun σ H Q => wa σ H fun t H1 => recv T' t H1 ∧ o t [] H1 Q) τ Hc R) : tBM0 K T' (liftM K o) (L K wa) τ Hc R := by
  obtain ⟨Z, σ, H, Q, r, A, h, P⟩ := h
  exact ⟨Z, σ, H, _, r, A, h, fun t v H1 Hc1 rt A1 e1 h1 => ⟨recv_ok A1 rt h1.1, Z, H1, t, [], Q, A1, rt, reps_nil.mpr rfl, h1.2, P.ext e1⟩⟩
theorem L_frz {wa : WE} {R : VK} (h : L K (fun σ H Q => wa σ H fun t H1 => frzT t H1 Q) τ Hc R) : L K wa τ Hc R := by
  obtain ⟨Z, σ, H, Q, r, A, h, P⟩ := h
  refine ⟨Z, σ, H, _, r, A, h, fun t v H1 Hc1 rt A1 e1 h1 => ?_⟩
  unfold frzT at h1
  split at h1
  · rename_i p
    split at h1
    · rename_i ts e
      obtain ⟨vs, hc, rv⟩ := lst_at A1 e
      have s : Sub (del H1 p) H1 := sub_del
      refine P (.lst ts) v (del H1 p) Hc1 ?_ (A1.sub s) (e1.trans s.ext) h1
      rw [rep_ref.mp rt]
      refine rep_lst.mpr ⟨p, vs, rfl, ⟨hc, ?_, A1.notHid e⟩, Reps.ext s.ext _ _ rv⟩
      unfold del
      rw [if_pos rfl]
    · exact h1.elim
  · exact P _ _ _ _ rt A1 e1 h1
/-- a part of a slice -/
def LO (K : PySem.W.Frag) (w : TSt → TH → (Option Int → TH → Prop) → Prop) : L2.TO := fun τ Hc R => ∃ (Z : Addr → Prop) (σ : TSt) (H : TH) (Q : Option Int → TH → Prop), RepS K Z H Hc σ τ ∧ Abs K Z H Hc ∧ w σ H Q ∧
  ∀ o H' Hc', Abs K Z H' Hc' → Ext H Hc H' Hc' → Q o H' → R o Hc'
theorem L_sl {fz : Bool} {wa : WE} {wl wh : TSt → TH → (Option Int → TH → Prop) → Prop} {R : VK} (h : L K (fun σ H Q => wa σ H fun x H1 => wl σ H1 fun l H2 => wh σ H2 fun u H3 => oSl fz x l u H3 Q) τ Hc R) :
    tSl (liftSl K (oSl fz)) (L K wa) (LO K wl) (LO K wh) τ Hc R := by
  obtain ⟨Z, σ, H, Q, r, A, h, P⟩ := h
  refine ⟨Z, σ, H, _, r, A, h, fun t v H1 Hc1 rt A1 e1 h1 => ?_⟩
  refine ⟨Z, σ, H1, _, r.ext e1, A1, h1, fun l H2 Hc2 A2 e2 h2 => ?_⟩
  refine ⟨Z, σ, H2, _, r.ext (e1.trans e2), A2, h2, fun u H3 Hc3 A3 e3 h3 => ?_⟩
  exact ⟨Z, H3, t, Q, A3, Rep.ext (e2.trans e3) _ _ rt, h3, P.ext ((e1.trans e2).trans e3)⟩
theorem LO_none {R : Option Int → Hp → Prop} (h : LO K (fun _ H Q => Q none H) τ Hc R) : tNoPart τ Hc R := by
  obtain ⟨Z, σ, H, Q, r, A, h, P⟩ := h
  exact P none H Hc A .refl h
theorem LO_some {wa : WE} {R : Option Int → Hp → Prop} (h : LO K (fun σ H Q => wa σ H fun t H1 => asInt t H1 Q) τ Hc R) : tPart (L K wa) τ Hc R := by
  obtain ⟨Z, σ, H, Q, r, A, h, P⟩ := h
  refine ⟨Z, σ, H, _, r, A, h, fun t v H1 Hc1 rt A1 e1 h1 => ?_⟩
  cases t with
  | int i => exact ⟨i, rep_int.mp rt, P _ H1 Hc1 A1 e1 h1⟩
  | _ => exact h1.elim
end
/-! ### the walks -/
section
variable {K : PySem.W.Frag}
mutual
theorem Rep.hid {Z Z' : Addr → Prop} {H : TH} {Hc : Hp} (hz : ∀ a, Z' a → Z a ∨ Hc a = none) : ∀ (t : T) (v : V), Rep K Z H Hc t v → Rep K Z' H Hc t v
  | .non, _, h => by unfold Rep at *; exact h
  | .bl _, _, h => by unfold Rep at *; exact h
  | .int _, _, h => by unfold Rep at *; exact h
  | .str _, _, h => by unfold Rep at *; exact h
  | .ref _, _, h => by unfold Rep at *; exact h
  | .tup ts, _, h => by
    unfold Rep at *
    obtain ⟨a, vs, e1, e2, e3⟩ := h
    exact ⟨a, vs, e1, e2, Reps.hid hz ts vs e3⟩
  | .lst ts, _, h => by
    unfold Rep at *
    obtain ⟨a, vs, e1, e2, e3⟩ := h
    refine ⟨a, vs, e1, ⟨e2.1, e2.2.1, fun z => ?_⟩, Reps.hid hz ts vs e3⟩
    rcases hz a z with z | z
    · exact e2.2.2 z
    · rw [e2.1] at z
      cases z
  | .scr ts, _, h => by
    unfold Rep at *
    obtain ⟨a, vs, e1, e2, e3⟩ := h
    exact ⟨a, vs, e1, e2, Reps.hid hz ts vs e3⟩
theorem Reps.hid {Z Z' : Addr → Prop} {H : TH} {Hc : Hp} (hz : ∀ a, Z' a → Z a ∨ Hc a = none) : ∀ (ts : List T) (vs : List V), Reps K Z H Hc ts vs → Reps K Z' H Hc ts vs
  | [], _, h => by unfold Reps at *; exact h
  | t :: ts, _, h => by
    unfold Reps at *
    obtain ⟨v, r, e1, e2, e3⟩ := h
    exact ⟨v, r, e1, Rep.hid hz t v e2, Reps.hid hz ts r e3⟩
end
theorem RepS.hid {Z Z' : Addr → Prop} {H : TH} {Hc : Hp} (hz : ∀ a, Z' a → Z a ∨ Hc a = none) {σ : TSt} {τ : L2.St} (h : RepS K Z H Hc σ τ) : RepS K Z' H Hc σ τ :=
  ⟨h.1, fun i t q => let ⟨v, a, b⟩ := h.2 i t q; ⟨v, a, Rep.hid hz _ _ b⟩⟩
theorem RepK.hid {Z Z' : Addr → Prop} {H : TH} {Hc : Hp} (hz : ∀ a, Z' a → Z a ∨ Hc a = none) {kvs : List (Key × T)} {ws : List (Key × V)} (h : RepK K Z H Hc kvs ws) : RepK K Z' H Hc kvs ws :=
  Paired.mapP h fun _ _ r => ⟨r.1, Rep.hid hz _ _ r.2⟩
/-- J goes through xs as long as ck stands -/
def Walk (K : PySem.W.Frag) (Z : Addr → Prop) (H : TH) (Hc : Hp) (J : L2.It) (ck : TH → Prop) (xs : List T) : Prop :=
  ∀ Z' H' Hc', (∀ a, Z' a → Z a ∨ Hc a = none) → Abs K Z' H' Hc' → Ext H Hc H' Hc' → ck H' → ∀ i, (i < xs.length → J.go i Hc') ∧ (xs.length ≤ i → J.stop i Hc') ∧
    ∀ x Hc2, i < xs.length → J.yld i Hc' x Hc2 → Hc2 = Hc' ∧ ∀ t, xs[i]? = some t → Rep K Z' H' Hc' t x
def LI (K : PySem.W.Frag) (w : WI) : L2.TI := fun τ Hc R => ∃ (Z : Addr → Prop) (σ : TSt) (H : TH) (Q : (TH → Prop) → List T → TH → Prop), RepS K Z H Hc σ τ ∧ Abs K Z H Hc ∧ w σ H Q ∧
  ∀ ck xs J H' Hc', Abs K Z H' Hc' → Ext H Hc H' Hc' → Walk K Z H' Hc' J ck xs → Q ck xs H' → R J Hc'
theorem walk_list {Z : Addr → Prop} {H : TH} {Hc : Hp} {a : Addr} {ts : List T} {ck : TH → Prop}
    (h : ∀ Z' H' Hc', (∀ a, Z' a → Z a ∨ Hc a = none) → Abs K Z' H' Hc' → Ext H Hc H' Hc' → ck H' → ∃ vs, SqL K Hc' a vs ∧ Reps K Z' H' Hc' ts vs) : Walk K Z H Hc (Itl K a) ck ts := by
  intro Z' H' Hc' hz A e c i
  obtain ⟨vs, hs, r⟩ := h Z' H' Hc' hz A e c
  have hl := r.length
  refine ⟨fun hi => ⟨vs, vs[i]'(by omega), hs, by simp⟩, fun hi => ⟨vs, hs, by omega⟩, fun x Hc2 hi y => ⟨y.1, fun t ht => ?_⟩⟩
  obtain ⟨v, hv, rv⟩ := r.get ht
  have := y.2 vs hs
  rw [hv] at this
  cases this
  exact rv
theorem walk_tup {Z : Addr → Prop} {H : TH} {Hc : Hp} {a : Addr} {ts : List T} {ck : TH → Prop}
    (h : ∀ Z' H' Hc', (∀ a, Z' a → Z a ∨ Hc a = none) → Abs K Z' H' Hc' → Ext H Hc H' Hc' → ck H' → ∃ vs, SqT K Hc' a vs ∧ Reps K Z' H' Hc' ts vs) : Walk K Z H Hc (Itt K a) ck ts := by
  intro Z' H' Hc' hz A e c i
  obtain ⟨vs, hs, r⟩ := h Z' H' Hc' hz A e c
  have hl := r.length
  refine ⟨fun hi => ⟨vs, vs[i]'(by omega), hs, by simp⟩, fun hi => ⟨vs, hs, by omega⟩, fun x Hc2 hi y => ⟨y.1, fun t ht => ?_⟩⟩
  obtain ⟨v, hv, rv⟩ := r.get ht
  have := y.2 vs hs
  rw [hv] at this
  cases this
  exact rv
theorem walk_rng {Z : Addr → Prop} {H : TH} {Hc : Hp} {lo : Int} {n : Nat} {ck : TH → Prop} : Walk K Z H Hc (Itr lo n) ck ((List.range n).map fun (i : Nat) => T.int (lo + i)) := by
  intro Z' H' Hc' hz A e c i
  rw [List.length_map, List.length_range]
  refine ⟨fun hi => hi, fun hi => hi, fun x Hc2 hi y => ⟨y.1, fun t ht => ?_⟩⟩
  rw [List.getElem?_map, List.getElem?_range hi] at ht
  cases ht
  exact rep_int.mpr y.2
theorem LI_rng1 {wa : WE} {τ : L2.St} {Hc : Hp} {R : L2.It → Hp → Prop} (h : LI K (fun σ H R => wa σ H fun t H1 => match t with
    | .int n => rngT 0 n H1 R
    | _ => False) τ Hc R) : iRng1 (tCons (L K wa) tNil) τ Hc R := by
  obtain ⟨Z, σ, H, Q, r, A, h, P⟩ := h
  refine ⟨Z, σ, H, _, r, A, h, fun t v H1 Hc1 rt A1 e1 h1 => ?_⟩
  cases t with
  | int n =>
    obtain ⟨⟨b1, b2, b3, b4⟩, h1⟩ := h1
    rw [Int.sub_zero] at h1
    exact ⟨n, by rw [rep_int.mp rt], b3, b4, P _ _ _ H1 Hc1 A1 e1 walk_rng h1⟩
  | _ => exact h1.elim
theorem LI_rng2 {wa wb : WE} {τ : L2.St} {Hc : Hp} {R : L2.It → Hp → Prop} (h : LI K (fun σ H R => wa σ H fun t H1 => wb σ H1 fun u H2 => match t, u with
    | .int m, .int n => rngT m n H2 R
    | _, _ => False) τ Hc R) : iRng2 (tCons (L K wa) (tCons (L K wb) tNil)) τ Hc R := by
  obtain ⟨Z, σ, H, Q, r, A, h, P⟩ := h
  refine ⟨Z, σ, H, _, r, A, h, fun t v H1 Hc1 rt A1 e1 h1 => ?_⟩
  refine ⟨Z, σ, H1, _, r.ext e1, A1, h1, fun u w H2 Hc2 ru A2 e2 h2 => ?_⟩
  cases t with
  | int m => cases u with
    | int n =>
      obtain ⟨bs, h2⟩ := h2
      exact ⟨m, n, by rw [rep_int.mp rt, rep_int.mp ru], bs, P _ _ _ H2 Hc2 A2 (e1.trans e2) walk_rng h2⟩
    | _ => exact h2.elim
  | _ => exact h2.elim
theorem LI_over {wa : WE} {τ : L2.St} {Hc : Hp} {R : L2.It → Hp → Prop} (h : LI K (fun σ H R => wa σ H fun t H1 => overT t H1 R) τ Hc R) :
    L K wa τ Hc fun x H1 => (∃ a, x = .ref a ∧ (∃ xs, SqL K H1 a xs) ∧ R (Itl K a) H1) ∨ ∃ a, x = .ref a ∧ (∃ xs, SqT K H1 a xs) ∧ R (Itt K a) H1 := by
  obtain ⟨Z, σ, H, Q, r, A, h, P⟩ := h
  refine ⟨Z, σ, H, _, r, A, h, fun t v H1 Hc1 rt A1 e1 h1 => ?_⟩
  unfold overT at h1
  split at h1
  · obtain ⟨a, vs, rfl, h2, r2⟩ := rep_tup.mp rt
    exact .inr ⟨a, rfl, ⟨vs, h2.sq⟩, P _ _ _ H1 Hc1 A1 e1 (walk_tup fun Z' H' Hc' hz A' e _ => ⟨vs, (h2.ext e).sq, Reps.ext e _ _ (Reps.hid hz _ _ r2)⟩) h1⟩
  · obtain ⟨a, vs, rfl, h2, r2⟩ := rep_lst.mp rt
    exact .inl ⟨a, rfl, ⟨vs, h2.sq⟩, P _ _ _ H1 Hc1 A1 e1 (walk_list fun Z' H' Hc' hz A' e _ => ⟨vs, (h2.ext e).sq, Reps.ext e _ _ (Reps.hid hz _ _ r2)⟩) h1⟩
  · obtain ⟨a, vs, rfl, h2, r2⟩ := rep_scr.mp rt
    exact .inl ⟨a, rfl, ⟨vs, h2.sq⟩, P _ _ _ H1 Hc1 A1 e1 (walk_list fun Z' H' Hc' hz A' e _ => ⟨vs, (h2.ext e).sq, Reps.ext e _ _ (Reps.hid hz _ _ r2)⟩) h1⟩
  · split at h1
    · rename_i e
      obtain ⟨vs, hc, r2⟩ := lst_at A1 e
      refine .inl ⟨_, rep_ref.mp rt, ⟨vs, SqL.of hc⟩, P _ _ _ H1 Hc1 A1 e1 (walk_list fun Z' H' Hc' hz A' e' c => ?_) h1⟩
      obtain ⟨ws, hc2, r3⟩ := lst_at A' c
      exact ⟨ws, SqL.of hc2, r3⟩
    · exact h1.elim
  · exact h1.elim
end
end TL
set_option maxRecDepth 100000
set_option maxHeartbeats 1000000
namespace TL
open PySem PySem.Spec L2
section
variable {X : Cx} {tg l : Expr} {tl : TE}
theorem pie_new {pins : List (Addr × Obj)} {σ : L2.St} {H : Hp} {s : Shared} {R : L2.It → Hp → Prop} {o : Obj} {J : L2.It} {tn : Nat → Heap → Prop} (I : L2.Inv X pins σ H s) (T : Turn X.prog X.w X.K tg J [s.heap.objs.size] s.heap.objs.size tn)
    (h0 : tn 0 (s.heap.push o)) (q : R J H) : PIE X pins σ tg R (.ref s.heap.objs.size) { s with heap := s.heap.push o } :=
  ⟨_, _, tn, J, H, rfl, I.kept (t' := s.toks) fun _ _ => Heap.get?_push_of_some _, T, h0, fun b hb => by
    cases List.mem_singleton.mp hb
    exact I.fpOk (Nat.le_refl _) I.fresh, q⟩
theorem pi_seq (hl : PE X l tl) : PI X tg l fun σ H R => tl σ H fun x H1 => (∃ a, x = .ref a ∧ (∃ xs, SqL X.K H1 a xs) ∧ R (Itl X.K a) H1) ∨ ∃ a, x = .ref a ∧ (∃ xs, SqT X.K H1 a xs) ∧ R (Itt X.K a) H1 := by
  constructor
  intro pins s σ H R I h
  refine thn (hl.run pins s σ H _ I h) ?_
  rintro v s1 ⟨x, H1, I1, r1, ⟨a, rfl, ⟨xs, hq⟩, q⟩ | ⟨a, rfl, ⟨xs, hq⟩, q⟩⟩ <;> cases r1
  · obtain ⟨_, _, p, _⟩ := I1.list hq
    exact wpAny_pyIter_list p.isList (pie_new I1 (turn_list a _) ⟨_, Heap.get?_push_size _ rfl, rfl, rfl⟩ q)
  · obtain ⟨_, _, p, _⟩ := I1.tuple hq
    exact wpAny_pyIter_tuple (s := s1) p (pie_new I1 (turn_tuple a _) ⟨_, Heap.get?_push_size _ rfl, rfl, rfl⟩ q)
theorem PI.imp {w w' : L2.TI} (h : PI X tg l w) (i : ∀ σ H R, w' σ H R → w σ H R) : PI X tg l w' := ⟨fun pins s σ H R I q => h.run pins s σ H R I (i _ _ _ q)⟩
theorem PG.imp {e : Expr} {w w' : L2.TG} (h : PG X e w) (i : ∀ v σ H R, w' v σ H R → w v σ H R) : PG X e w' := ⟨fun pins s σ H v u R I r q => h.run pins s σ H v u R I r (i _ _ _ _ q)⟩
end
/-! ### targets -/
/-- the slots but those -/
def RepX (K : PySem.W.Frag) (Z : Addr → Prop) (H : TH) (Hc : Hp) (is : List Nat) (σ : TSt) (τ : L2.St) : Prop :=
  σ.length = τ.length ∧ ∀ (i : Nat) (t : T), i ∉ is → σ[i]? = some (some t) → ∃ v, τ[i]? = some (some v) ∧ Rep K Z H Hc t v
section
variable {K : PySem.W.Frag} {Z : Addr → Prop} {H : TH} {Hc : Hp}
theorem RepS.x {σ : TSt} {τ : L2.St} (h : RepS K Z H Hc σ τ) (is : List Nat) : RepX K Z H Hc is σ τ := ⟨h.1, fun i t _ q => h.2 i t q⟩
theorem RepX.all {σ : TSt} {τ : L2.St} (h : RepX K Z H Hc [] σ τ) : RepS K Z H Hc σ τ := ⟨h.1, fun i t q => h.2 i t (by simp) q⟩
theorem RepX.set {σ : TSt} {τ : L2.St} {i : Nat} {is : List Nat} {t : T} {v : V} (h : RepX K Z H Hc (i :: is) σ τ) (r : Rep K Z H Hc t v) : RepX K Z H Hc is (σ.set i (some t)) (τ.set i (some v)) := by
  refine ⟨by rw [List.length_set, List.length_set]; exact h.1, fun j u hj q => ?_⟩
  by_cases e : i = j
  · subst e
    by_cases hi : i < σ.length
    · rw [List.getElem?_set_self hi] at q
      cases q
      exact ⟨v, List.getElem?_set_self (by rw [← h.1]; exact hi), r⟩
    · rw [List.getElem?_eq_none (by rw [List.length_set]; omega)] at q
      cases q
  · rw [List.getElem?_set_ne e] at q ⊢
    exact h.2 j u (fun z => by rcases List.mem_cons.mp z with z | z; exact e z.symm; exact hj z) q
theorem RepS.set {σ : TSt} {τ : L2.St} {i : Nat} {t : T} {v : V} (h : RepS K Z H Hc σ τ) (r : Rep K Z H Hc t v) : RepS K Z H Hc (σ.set i (some t)) (τ.set i (some v)) :=
  ((h.x [i]).set r).all
theorem wipe_x {σ : TSt} {τ : L2.St} {is : List Nat} (h : RepS K Z H Hc σ τ) : RepX K Z H Hc is σ (wipe τ is) := by
  refine ⟨by rw [wipe_length]; exact h.1, fun i t hi q => ?_⟩
  obtain ⟨v, e, r⟩ := h.2 i t q
  refine ⟨v, ?_, r⟩
  clear r q
  induction is with
  | nil => exact e
  | cons j r ih =>
    unfold wipe
    rw [List.getElem?_set_ne (fun z => hi (by simp [z]))]
    exact ih fun z => hi (List.mem_cons_of_mem _ z)
def offs (is : List Nat) (τ τ' : L2.St) : Prop := τ'.length = τ.length ∧ ∀ i, i ∉ is → τ'[i]? = τ[i]?
theorem offs_refl {is : List Nat} {τ : L2.St} : offs is τ τ := ⟨rfl, fun _ _ => rfl⟩
theorem offs_set {is : List Nat} {τ τ' : L2.St} {i : Nat} {v : V} (h : offs is (τ.set i (some v)) τ') : offs (i :: is) τ τ' := by
  refine ⟨by rw [h.1, List.length_set], fun j hj => ?_⟩
  rw [h.2 j (fun z => hj (List.mem_cons_of_mem _ z)), List.getElem?_set_ne (fun z => hj (by simp [z]))]
theorem wipe_get {τ : L2.St} : ∀ {is : List Nat} {i : Nat}, (wipe τ is)[i]? = if i ∈ is ∧ i < τ.length then some none else τ[i]?
  | [], i => by simp [wipe]
  | j :: r, i => by
    unfold wipe
    by_cases e : j = i
    · subst e
      by_cases hl : j < τ.length
      · rw [List.getElem?_set_self (by rw [wipe_length]; exact hl), if_pos ⟨List.mem_cons_self, hl⟩]
      · rw [List.getElem?_eq_none (by rw [List.length_set, wipe_length]; omega), if_neg (fun z => hl z.2), List.getElem?_eq_none (by omega)]
    · rw [List.getElem?_set_ne e, wipe_get]
      have : (i ∈ j :: r ∧ i < τ.length) ↔ (i ∈ r ∧ i < τ.length) := by
        simp only [List.mem_cons]
        constructor
        · rintro ⟨z | z, h⟩
          · exact absurd z.symm e
          · exact ⟨z, h⟩
        · rintro ⟨z, h⟩
          exact ⟨.inr z, h⟩
      simp only [this]
theorem wipe_offs {τ τ' : L2.St} {is : List Nat} (h : offs is (wipe τ is) τ') : wipe τ' is = wipe τ is := by
  apply List.ext_getElem?
  intro i
  have hl : τ'.length = τ.length := by rw [h.1, wipe_length]
  rw [wipe_get, wipe_get, hl]
  by_cases e : i ∈ is ∧ i < τ.length
  · rw [if_pos e, if_pos e]
  · rw [if_neg e, if_neg e]
    by_cases m : i ∈ is
    · have : ¬ i < τ.length := fun z => e ⟨m, z⟩
      rw [List.getElem?_eq_none (by omega), List.getElem?_eq_none (by omega)]
    · rw [h.2 i m, wipe_get, if_neg e]
end
/-- what is stored by a target -/
def LG (K : PySem.W.Frag) (tg : Tg) : L2.TG := fun v τ Hc R => ∃ (Z : Addr → Prop) (H : TH) (σ σ' : TSt) (t : T), RepX K Z H Hc tg.slots σ τ ∧ Rep K Z H Hc t v ∧ tg.put t σ = some σ' ∧
  ∀ τ', RepS K Z H Hc σ' τ' → offs tg.slots τ τ' → R τ' Hc
structure XOk (I : Info) (C : Nat → TSp) (sc : Scope) (X : Cx) : Prop where
  N : X.N = I.N
  nd : X.N.Nodup
  scope : X.env.scope = sc
  calm : X.calm = true
  hu : X.A.units + 200 < cLine
  blt : ∀ x ∈ (["len", "tuple", "sorted", "list", "all", "any", "sum", "max", "min", "int", "isinstance", "range", "bool", "str", "set"] : List Str), X.mg x = none
  fns : ∀ k x, I.F[k]? = some x → ∃ j f fd ps, FnOk X.prog X.w X.K X.mg X.base CX0 j f fd ps (liftSp X.K (C k)) ∧ Room j X.A ∧ X.mg x = some (.ref f) ∧ PySem.W.keepIn X.K (.ref f) = true ∧ Binds X.K fd ps []
section
variable {I : Info} {C : Nat → TSp} {sc : Scope} {X : Cx}
theorem okX_loc (O : XOk I C sc X) {top : Bool} (hf : top = true → ∀ x, X.fn x = true) {i : Nat} {x : Str} (h : okX I top sc i x = true) :
    X.N[i]? = some x ∧ Loc X.env.scope x ∧ (X.fn x = true ∨ X.env.scope.names.lookup x = some .local) := by
  unfold okX at h
  rw [Bool.and_eq_true, decide_eq_true_eq, Bool.or_eq_true, Bool.and_eq_true] at h
  refine ⟨by rw [O.N]; exact h.1, ?_⟩
  rcases h.2 with h2 | ⟨h2, h3⟩
  · unfold locv at h2
    rw [O.scope]
    split at h2
    · rename_i e
      exact ⟨.inl e, .inr e⟩
    · cases h2
  · unfold cellv at h3
    rw [O.scope]
    split at h3
    · rename_i e
      exact ⟨.inr e, .inl (hf h2 x)⟩
    · cases h3
theorem name_pg (O : XOk I C sc X) {top : Bool} (hf : top = true → ∀ x, X.fn x = true) {i : Nat} {x : Str} {pos : Pos} (h : okX I top sc i x = true) : PG X (.Name x pos) (gName i) := by
  obtain ⟨h1, h2, h3⟩ := okX_loc O hf h
  exact pg_name O.nd h1 h2 h3
def gNames : List Nat → TGs
  | [] => gNil
  | i :: is => gCons (gName i) (gNames is)
theorem names_pgs (O : XOk I C sc X) {top : Bool} (hf : top = true → ∀ x, X.fn x = true) : ∀ {is : List Nat} {es : List Expr}, okXs I top sc is es = true → PGs X es (gNames is) ∧ (assignEach es X.env).length = is.length ∧ (assignEach es X.env).findIdx? (·.1) = none
  | [], [], _ => ⟨pgs_nil, rfl, rfl⟩
  | i :: is, .Name x p :: es, h => by
    unfold okXs at h
    rw [Bool.and_eq_true] at h
    obtain ⟨h1, h2, h3⟩ := names_pgs O hf h.2
    have e : assignEach (.Name x p :: es) X.env = (false, assign (.Name x p) X.env) :: assignEach es X.env := rfl
    refine ⟨pgs_cons (name_pg O hf h.1) h1, by rw [e, List.length_cons, List.length_cons, h2], ?_⟩
    rw [e, List.findIdx?_cons, h3]
    rfl
  | [], _ :: _, h => by cases h
  | _ :: _, [], h => by cases h
theorem gNames_of {K : PySem.W.Frag} {Z : Addr → Prop} {H : TH} {Hc : Hp} : ∀ {is : List Nat} {ts : List T} {vs : List V} {σ σ' : TSt} {τ : L2.St} {R : L2.St → Hp → Prop}, nodupN is = true → RepX K Z H Hc is σ τ → Reps K Z H Hc ts vs → putAll is ts σ = some σ' →
    (∀ τ', RepS K Z H Hc σ' τ' → offs is τ τ' → R τ' Hc) → gNames is vs τ Hc R
  | [], [], _, _, _, _, _, _, hx, hr, hp, hR => by
    cases hp
    exact ⟨reps_nil.mp hr, hR _ hx.all offs_refl⟩
  | i :: is, t :: ts, _, _, _, _, _, hn, hx, hr, hp, hR => by
    obtain ⟨v, w, rfl, h1, h2⟩ := reps_cons.mp hr
    unfold nodupN at hn
    rw [Bool.and_eq_true] at hn
    exact ⟨v, w, rfl, gNames_of hn.2 (hx.set h1) h2 hp fun τ' r o => hR τ' r (offs_set o)⟩
  | [], _ :: _, _, _, _, _, _, _, _, _, hp, _ => by cases hp
  | _ :: _, [], _, _, _, _, _, _, _, _, hp, _ => by cases hp
theorem okG_sound (O : XOk I C sc X) {top : Bool} (hf : top = true → ∀ x, X.fn x = true) {tg : Tg} {e : Expr} (h : okG I top sc tg e = true) : PG X e (LG X.K tg) := by
  unfold okG at h
  split at h
  · refine PG.imp (name_pg O hf h) ?_
    rintro v τ Hc R ⟨Z, H, σ, σ', t, hx, r, hp, hR⟩
    cases hp
    exact hR _ (hx.set r).all ⟨by rw [List.length_set], fun j hj => List.getElem?_set_ne fun z => hj (by simp [Tg.slots, z])⟩
  · rw [Bool.and_eq_true] at h
    obtain ⟨h1, h2, h3⟩ := names_pgs O hf h.1
    refine PG.imp (pg_tup O.calm h1 h2 h3) ?_
    rintro v τ Hc R ⟨Z, H, σ, σ', t, hx, r, hp, hR⟩
    have hlen : ∀ {is : List Nat} {ts : List T} {σ σ' : TSt}, putAll is ts σ = some σ' → ts.length = is.length := by
      intro is
      induction is with
      | nil =>
        intro ts σ σ' q
        cases ts with
        | nil => rfl
        | cons _ _ => cases q
      | cons i is ih =>
        intro ts σ σ' q
        cases ts with
        | nil => cases q
        | cons _ _ => rw [List.length_cons, List.length_cons, ih q]
    cases t with
    | tup ts =>
      obtain ⟨a, vs, rfl, ht, rv⟩ := rep_tup.mp r
      exact ⟨a, vs, rfl, ht.sq, by rw [← rv.length]; exact hlen hp, gNames_of h.2 hx rv hp hR⟩
    | _ => cases hp
  · cases h
end
end TL
set_option maxRecDepth 100000
set_option maxHeartbeats 1000000
namespace TL
open PySem PySem.Spec L2
/-! ### comprehensions -/
section
variable {K : PySem.W.Frag} {Z : Addr → Prop} {H : TH} {Hc : Hp} {D : Addr} {u : TO}
def withD (Z : Addr → Prop) (D : Addr) : Addr → Prop := fun a => Z a ∨ a = D
mutual
theorem Rep.pub (hD : ∀ vs o w, Hc D ≠ some (.tup vs) ∧ Hc D ≠ some (.frz o w)) : ∀ (t : T) (v : V), Rep K (withD Z D) H Hc t v → Rep K Z (up H D u) Hc t v
  | .non, _, h => by unfold Rep at *; exact h
  | .bl _, _, h => by unfold Rep at *; exact h
  | .int _, _, h => by unfold Rep at *; exact h
  | .str _, _, h => by unfold Rep at *; exact h
  | .ref _, _, h => by unfold Rep at *; exact h
  | .tup ts, _, h => by
    unfold Rep at *
    obtain ⟨a, vs, e1, e2, e3⟩ := h
    refine ⟨a, vs, e1, ?_, Reps.pub hD ts vs e3⟩
    rcases e2 with ⟨e2, n⟩ | e2
    · have ne : a ≠ D := fun z => by
        subst z
        rcases e2 with e2 | ⟨o, e2⟩
        · exact (hD vs ⟨.none, none, .fields #[], #[]⟩ (.tup vs)).1 e2
        · exact (hD vs o _).2 e2
      exact .inl ⟨e2, by rw [up_ne ne]; exact n⟩
    · exact .inr e2
  | .lst ts, _, h => by
    unfold Rep at *
    obtain ⟨a, vs, e1, e2, e3⟩ := h
    have ne : a ≠ D := fun z => e2.2.2 (.inr z)
    exact ⟨a, vs, e1, ⟨e2.1, by rw [up_ne ne]; exact e2.2.1, fun z => e2.2.2 (.inl z)⟩, Reps.pub hD ts vs e3⟩
  | .scr ts, _, h => by
    unfold Rep at *
    obtain ⟨a, vs, e1, e2, e3⟩ := h
    refine ⟨a, vs, e1, ?_, Reps.pub hD ts vs e3⟩
    rcases e2 with ⟨⟨o, e2⟩, n⟩ | e2
    · have ne : a ≠ D := fun z => by
        subst z
        exact (hD vs o _).2 e2
      exact .inl ⟨⟨o, e2⟩, by rw [up_ne ne]; exact n⟩
    · exact .inr e2
theorem Reps.pub (hD : ∀ vs o w, Hc D ≠ some (.tup vs) ∧ Hc D ≠ some (.frz o w)) : ∀ (ts : List T) (vs : List V), Reps K (withD Z D) H Hc ts vs → Reps K Z (up H D u) Hc ts vs
  | [], _, h => by unfold Reps at *; exact h
  | t :: ts, _, h => by
    unfold Reps at *
    obtain ⟨v, r, e1, e2, e3⟩ := h
    exact ⟨v, r, e1, Rep.pub hD t v e2, Reps.pub hD ts r e3⟩
end
theorem RepK.pub (hD : ∀ vs o w, Hc D ≠ some (.tup vs) ∧ Hc D ≠ some (.frz o w)) {kvs : List (Key × T)} {ws : List (Key × V)} (h : RepK K (withD Z D) H Hc kvs ws) : RepK K Z (up H D u) Hc kvs ws :=
  Paired.mapP h fun _ _ r => ⟨r.1, Rep.pub hD _ _ r.2⟩
theorem RepO.hid {Z Z' : Addr → Prop} (hz : ∀ a, Z' a → Z a ∨ Hc a = none) {a : Addr} {o : TO} (h : RepO K Z H Hc a o) : RepO K Z' H Hc a o := by
  cases o with
  | lst ts => obtain ⟨vs, e1, e2⟩ := h; exact ⟨vs, e1, Reps.hid hz _ _ e2⟩
  | dk kvs => obtain ⟨ws, e1, e2⟩ := h; exact ⟨ws, e1, RepK.hid hz e2⟩
theorem hz_with (n : Hc D = none) : ∀ a, withD Z D a → Z a ∨ Hc a = none := fun a h => by
  rcases h with h | h
  · exact .inl h
  · subst h
    exact .inr n
theorem hz_less : ∀ a, Z a → withD Z D a ∨ Hc a = none := fun a h => .inl (.inl h)
/-- the new object is hidden -/
theorem Abs.hide (A : Abs K Z H Hc) {o : HO} (n : Hc D = none) : Abs K (withD Z D) H (upd Hc D o) where
  objs := fun a w h => RepO.ext (ext_con n) (fun w q => by rw [upd_ne (ne_of_none q n)]; exact q) (RepO.hid (hz_with n) (A.objs a w h))
  hid := fun a z => by
    rcases z with z | z
    · obtain ⟨h, o', q⟩ := A.hid a z
      exact ⟨h, o', by rw [upd_ne (ne_of_none q n)]; exact q⟩
    · subst z
      exact ⟨A.of_con n, o, upd_same⟩
/-- it is not hidden any more, nor changed -/
theorem Abs.show_ (A : Abs K (withD Z D) H Hc) : Abs K Z H Hc where
  objs := fun a w h => RepO.hid hz_less (A.objs a w h)
  hid := fun a z => A.hid a (.inl z)
/-- .. and tracked -/
theorem Abs.pub (A : Abs K (withD Z D) H Hc) (hZ : ¬ Z D) (hD : ∀ vs o w, Hc D ≠ some (.tup vs) ∧ Hc D ≠ some (.frz o w)) (r : RepO K Z (up H D u) Hc D u) : Abs K Z (up H D u) Hc where
  objs := fun a w h => by
    by_cases e : a = D
    · subst e
      rw [up_same] at h
      cases h
      exact r
    · rw [up_ne e] at h
      have q := A.objs a w h
      cases w with
      | lst ts => obtain ⟨vs, e1, e2⟩ := q; exact ⟨vs, e1, Reps.pub hD _ _ e2⟩
      | dk kvs => obtain ⟨ws, e1, e2⟩ := q; exact ⟨ws, e1, RepK.pub hD e2⟩
  hid := fun a z => by
    have ne : a ≠ D := fun e => hZ (e ▸ z)
    obtain ⟨h, q⟩ := A.hid a (.inl z)
    exact ⟨by rw [up_ne ne]; exact h, q⟩
/-- the hidden object is written -/
theorem ext_hid {H : TH} {Hc : Hp} {o : HO} {H0 : TH} {Hc0 : Hp} (e : Ext H0 Hc0 H Hc) (n : Hc0 D = none) : Ext H0 Hc0 H (upd Hc D o) :=
  ⟨fun a w h m => by
    obtain ⟨q, m'⟩ := e.keep a w h m
    exact ⟨by rw [upd_ne (ne_of_none h n)]; exact q, m'⟩⟩
mutual
theorem Rep.hw {o : HO} (hD : ∀ vs o w, Hc D ≠ some (.tup vs) ∧ Hc D ≠ some (.frz o w)) : ∀ (t : T) (v : V), Rep K (withD Z D) H Hc t v → Rep K (withD Z D) H (upd Hc D o) t v
  | .non, _, h => by unfold Rep at *; exact h
  | .bl _, _, h => by unfold Rep at *; exact h
  | .int _, _, h => by unfold Rep at *; exact h
  | .str _, _, h => by unfold Rep at *; exact h
  | .ref _, _, h => by unfold Rep at *; exact h
  | .tup ts, _, h => by
    unfold Rep at *
    obtain ⟨a, vs, e1, e2, e3⟩ := h
    refine ⟨a, vs, e1, ?_, Reps.hw hD ts vs e3⟩
    rcases e2 with ⟨e2, n⟩ | e2
    · have ne : a ≠ D := fun z => by
        subst z
        rcases e2 with e2 | ⟨o, e2⟩
        · exact (hD vs ⟨.none, none, .fields #[], #[]⟩ (.tup vs)).1 e2
        · exact (hD vs o _).2 e2
      refine .inl ⟨?_, n⟩
      rcases e2 with e2 | ⟨o, e2⟩
      · exact .inl (by rw [upd_ne ne]; exact e2)
      · exact .inr ⟨o, by rw [upd_ne ne]; exact e2⟩
    · exact .inr e2
  | .lst ts, _, h => by
    unfold Rep at *
    obtain ⟨a, vs, e1, e2, e3⟩ := h
    have ne : a ≠ D := fun z => e2.2.2 (.inr z)
    exact ⟨a, vs, e1, ⟨by rw [upd_ne ne]; exact e2.1, e2.2⟩, Reps.hw hD ts vs e3⟩
  | .scr ts, _, h => by
    unfold Rep at *
    obtain ⟨a, vs, e1, e2, e3⟩ := h
    refine ⟨a, vs, e1, ?_, Reps.hw hD ts vs e3⟩
    rcases e2 with ⟨⟨o, e2⟩, n⟩ | e2
    · have ne : a ≠ D := fun z => by
        subst z
        exact (hD vs o _).2 e2
      exact .inl ⟨⟨o, by rw [upd_ne ne]; exact e2⟩, n⟩
    · exact .inr e2
theorem Reps.hw {o : HO} (hD : ∀ vs o w, Hc D ≠ some (.tup vs) ∧ Hc D ≠ some (.frz o w)) : ∀ (ts : List T) (vs : List V), Reps K (withD Z D) H Hc ts vs → Reps K (withD Z D) H (upd Hc D o) ts vs
  | [], _, h => by unfold Reps at *; exact h
  | t :: ts, _, h => by
    unfold Reps at *
    obtain ⟨v, r, e1, e2, e3⟩ := h
    exact ⟨v, r, e1, Rep.hw hD t v e2, Reps.hw hD ts r e3⟩
end
theorem RepK.hw {o : HO} (hD : ∀ vs o w, Hc D ≠ some (.tup vs) ∧ Hc D ≠ some (.frz o w)) {kvs : List (Key × T)} {ws : List (Key × V)} (h : RepK K (withD Z D) H Hc kvs ws) : RepK K (withD Z D) H (upd Hc D o) kvs ws :=
  Paired.mapP h fun _ _ r => ⟨r.1, Rep.hw hD _ _ r.2⟩
theorem Abs.hw (A : Abs K (withD Z D) H Hc) {o : HO} (hD : ∀ vs o w, Hc D ≠ some (.tup vs) ∧ Hc D ≠ some (.frz o w)) : Abs K (withD Z D) H (upd Hc D o) where
  objs := fun a w h => by
    have ne : a ≠ D := fun e => A.notHid h (.inr e)
    have q := A.objs a w h
    cases w with
    | lst ts => obtain ⟨vs, e1, e2⟩ := q; exact ⟨vs, by rw [upd_ne ne]; exact e1, Reps.hw hD _ _ e2⟩
    | dk kvs => obtain ⟨ws, e1, e2⟩ := q; exact ⟨ws, by rw [upd_ne ne]; exact e1, RepK.hw hD e2⟩
  hid := fun a z => by
    obtain ⟨h, o', q⟩ := A.hid a z
    refine ⟨h, ?_⟩
    by_cases e : a = D
    · subst e
      exact ⟨o, upd_same⟩
    · exact ⟨o', by rw [upd_ne e]; exact q⟩
theorem notT_lst {vs : List V} (h : Hc D = some (.lst vs)) : ∀ ws o w, Hc D ≠ some (.tup ws) ∧ Hc D ≠ some (.frz o w) := fun ws o w => by
  rw [h]
  exact ⟨(fun z => by cases z), (fun z => by cases z)⟩
theorem notT_dk {vs : List (Key × V)} (h : Hc D = some (.dK vs)) : ∀ ws o w, Hc D ≠ some (.tup ws) ∧ Hc D ≠ some (.frz o w) := fun ws o w => by
  rw [h]
  exact ⟨(fun z => by cases z), (fun z => by cases z)⟩
end
def condT (K : PySem.W.Frag) : Option WE → TT
  | none => tYes
  | some wc => LT K wc
def bodyC (tg : Tg) (cond : Option WE) (we : WE) (σ : TSt) : T → TH → (Option T → TH → Prop) → Prop := fun x H G => match tg.put x σ with
  | some σ' => match cond with
    | none => we σ' H fun y H3 => G (some y) H3
    | some wc => wc σ' H fun c H3 => match c with
      | .bl true => we σ' H3 fun y H4 => G (some y) H4
      | .bl false => G none H3
      | _ => False
  | none => False
theorem L_lc {K : PySem.W.Frag} {τ : L2.St} {Hc : Hp} {R : VK} {fz : Bool} {tg : Tg} {wi : WI} {cond : Option WE} {we : WE}
    (h : L K (fun σ H Q => wi σ H fun ck xs H1 => lcGo ck (bodyC tg cond we σ) xs [] H1 fun acc H2 => mk fz acc H2 Q) τ Hc R) : tLc (LI K wi) (LG K tg) (condT K cond) (L K we) tg.slots τ Hc R := by
  obtain ⟨Z, σ, H, Q, r, A, h, P⟩ := h
  refine ⟨Z, σ, H, _, r, A, h, fun ck xs J H1 Hc1 A1 e1 wk h1 D nD => ?_⟩
  have hZ : ¬ Z D := A1.newHid nD
  let G : List T → TH → Prop := fun acc H2 => mk fz acc H2 Q
  refine ⟨fun i m Hcx => ∃ (Hx : TH) (acc : List T) (vs : List V), m = xs.length - i ∧ i ≤ xs.length ∧ Hcx D = some (.lst vs) ∧ Reps K (withD Z D) Hx Hcx acc vs ∧ Abs K (withD Z D) Hx Hcx ∧ Ext H1 Hc1 Hx Hcx ∧ lcGo ck (bodyC tg cond we σ) (xs.drop i) acc Hx G,
    ⟨xs.length, H1, [], [], by simp, Nat.zero_le _, upd_same, reps_nil.mpr rfl, A1.hide nD, ext_con nD, by rw [List.drop_zero]; exact h1⟩, ?_⟩
  rintro i m Hcx ⟨Hx, acc, vs, rfl, hi, hD, rv, Ax, ex, hgo⟩
  by_cases hlt : i < xs.length
  · rw [List.drop_eq_getElem_cons hlt] at hgo
    obtain ⟨hck, hb⟩ := hgo
    obtain ⟨k1, _, k3⟩ := wk _ _ _ (hz_with nD) Ax ex hck i
    refine .inr ⟨k1 hlt, _, fun H' z => ⟨xs.length - (i + 1), by omega, z⟩, fun x Hcy y => ?_⟩
    obtain ⟨rfl, k3⟩ := k3 x Hcy hlt y
    have rx := k3 _ (List.getElem?_eq_getElem hlt)
    unfold bodyC at hb
    split at hb
    · rename_i σ' hp
      have rS : RepS K (withD Z D) Hx Hcy σ τ := RepS.ext ex (RepS.hid (hz_with nD) (r.ext e1))
      refine ⟨withD Z D, Hx, σ, σ', _, wipe_x rS, rx, hp, fun τ' r' o' => ⟨wipe_offs o', ?_⟩⟩
      -- the element
      have elt : ∀ Hb Hcb, RepS K (withD Z D) Hb Hcb σ' τ' → Abs K (withD Z D) Hb Hcb → Ext H1 Hc1 Hb Hcb → Hcb D = some (.lst vs) → Reps K (withD Z D) Hb Hcb acc vs →
          (we σ' Hb fun y H4 => acc.length < sizeLine ∧ lcGo ck (bodyC tg cond we σ) (xs.drop (i + 1)) (acc ++ [y]) H4 G) →
          L K we τ' Hcb fun y Hc4 => ∃ acc, Hc4 D = some (.lst acc) ∧ acc.length < sizeLine ∧ (fun Hcx => ∃ (Hx : TH) (acc : List T) (vs : List V), xs.length - (i + 1) = xs.length - (i + 1) ∧ i + 1 ≤ xs.length ∧ Hcx D = some (.lst vs) ∧
            Reps K (withD Z D) Hx Hcx acc vs ∧ Abs K (withD Z D) Hx Hcx ∧ Ext H1 Hc1 Hx Hcx ∧ lcGo ck (bodyC tg cond we σ) (xs.drop (i + 1)) acc Hx G) (upd Hc4 D (.lst (acc ++ [y]))) := by
        intro Hb Hcb rb Ab eb hDb racc hw
        refine ⟨withD Z D, σ', Hb, _, rb, Ab, hw, fun t v H4 Hc4 rt A4 e4 q => ?_⟩
        have nb : Hb D = none := (Ab.hid D (.inr rfl)).1
        have hD4 : Hc4 D = some (.lst vs) := (e4.keep D _ hDb nb).1
        have rv4 := Reps.ext e4 _ _ racc
        refine ⟨vs, hD4, by rw [← rv4.length]; exact q.1, H4, acc ++ [t], vs ++ [v], rfl, hlt, upd_same, ?_, A4.hw (notT_lst hD4), ext_hid (eb.trans e4) nD, q.2⟩
        exact Reps.hw (notT_lst hD4) _ _ (rv4.snoc rt)
      cases cond with
      | none =>
        exact elt Hx Hcy r' Ax ex hD rv hb
      | some wc =>
        refine ⟨withD Z D, σ', Hx, _, r', Ax, hb, fun c cv H3 Hc3 rc A3 e3 q => ?_⟩
        have nb : Hx D = none := (Ax.hid D (.inr rfl)).1
        have hD3 : Hc3 D = some (.lst vs) := (e3.keep D _ hD nb).1
        have rv3 := Reps.ext e3 _ _ rv
        split at q
        · exact ⟨true, rep_bl.mp rc, iteT (elt H3 Hc3 (r'.ext e3) A3 (ex.trans e3) hD3 rv3 q)⟩
        · exact ⟨false, rep_bl.mp rc, iteF ⟨H3, acc, vs, rfl, hlt, hD3, rv3, A3, ex.trans e3, q⟩⟩
        · exact q.elim
    · exact hb.elim
  · have e : i = xs.length := by omega
    subst e
    rw [List.drop_length] at hgo
    obtain ⟨hck, hk⟩ := hgo
    obtain ⟨_, k2, _⟩ := wk _ _ _ (hz_with nD) Ax ex hck xs.length
    refine .inl ⟨k2 (Nat.le_refl _), ?_⟩
    have hk : mk fz acc Hx Q := hk
    unfold mk at hk
    split at hk
    · exact P _ _ Hx Hcx (rep_lst.mpr ⟨D, vs, rfl, ⟨hD, (Ax.hid D (.inr rfl)).1, hZ⟩, Reps.hid hz_less _ _ rv⟩) Ax.show_ (e1.trans ex) hk
    · refine P _ _ (up Hx D (.lst acc)) Hcx (rep_ref.mpr rfl) (Ax.pub hZ (notT_lst hD) ⟨vs, hD, Reps.pub (notT_lst hD) _ _ rv⟩) ⟨fun a w q m => ?_⟩ (hk D (Ax.hid D (.inr rfl)).1)
      obtain ⟨q1, m1⟩ := e1.keep a w q m
      obtain ⟨q2, m2⟩ := ex.keep a w q1 m1
      exact ⟨q2, by rw [up_ne (ne_of_none q1 nD)]; exact m2⟩
theorem L_dc {K : PySem.W.Frag} {τ : L2.St} {Hc : Hp} {R : VK} {tg : Tg} {wi : WI} {wk wv : WE}
    (h : L K (fun σ H Q => wi σ H fun ck xs H1 => dcGo ck (fun x H2 G => match tg.put x σ with
      | some σ' => wk σ' H2 fun y H3 => wv σ' H3 fun z H4 => G y z H4
      | none => False) xs [] H1 fun acc H2 => ∀ p, H2 p = none → Q (.ref p) (up H2 p (.dk acc))) τ Hc R) : tDc (LI K wi) (LG K tg) tYes (L K wk) (L K wv) tg.slots τ Hc R := by
  obtain ⟨Z, σ, H, Q, r, A, h, P⟩ := h
  refine ⟨Z, σ, H, _, r, A, h, fun ck xs J H1 Hc1 A1 e1 wlk h1 D nD => ?_⟩
  have hZ : ¬ Z D := A1.newHid nD
  let G : List (Key × T) → TH → Prop := fun acc H2 => ∀ p, H2 p = none → Q (.ref p) (up H2 p (.dk acc))
  let B : T → TH → (T → T → TH → Prop) → Prop := fun x H2 G => match tg.put x σ with
      | some σ' => wk σ' H2 fun y H3 => wv σ' H3 fun z H4 => G y z H4
      | none => False
  refine ⟨fun i m Hcx => ∃ (Hx : TH) (acc : List (Key × T)) (vs : List (Key × V)), m = xs.length - i ∧ i ≤ xs.length ∧ Hcx D = some (.dK vs) ∧ RepK K (withD Z D) Hx Hcx acc vs ∧ Abs K (withD Z D) Hx Hcx ∧ Ext H1 Hc1 Hx Hcx ∧ dcGo ck B (xs.drop i) acc Hx G,
    ⟨xs.length, H1, [], [], by simp, Nat.zero_le _, upd_same, .nil, A1.hide nD, ext_con nD, by rw [List.drop_zero]; exact h1⟩, ?_⟩
  rintro i m Hcx ⟨Hx, acc, vs, rfl, hi, hD, rv, Ax, ex, hgo⟩
  by_cases hlt : i < xs.length
  · rw [List.drop_eq_getElem_cons hlt] at hgo
    obtain ⟨hck, hb⟩ := hgo
    obtain ⟨k1, _, k3⟩ := wlk _ _ _ (hz_with nD) Ax ex hck i
    refine .inr ⟨k1 hlt, _, fun H' z => ⟨xs.length - (i + 1), by omega, z⟩, fun x Hcy y => ?_⟩
    obtain ⟨rfl, k3⟩ := k3 x Hcy hlt y
    have rx := k3 _ (List.getElem?_eq_getElem hlt)
    have hb : (match tg.put xs[i] σ with
      | some σ' => wk σ' Hx fun y H3 => wv σ' H3 fun z H4 => (match keyT y with
        | some k => acc.length < sizeLine ∧ dcGo ck B (xs.drop (i + 1)) (setK acc k z) H4 G
        | none => False)
      | none => False) := hb
    split at hb
    · rename_i σ' hp
      have rS : RepS K (withD Z D) Hx Hcy σ τ := RepS.ext ex (RepS.hid (hz_with nD) (r.ext e1))
      refine ⟨withD Z D, Hx, σ, σ', _, wipe_x rS, rx, hp, fun τ' r' o' => ⟨wipe_offs o', ?_⟩⟩
      show L K wk τ' Hcy _
      refine ⟨withD Z D, σ', Hx, _, r', Ax, hb, fun t v H3 Hc3 rt A3 e3 q => ?_⟩
      refine ⟨withD Z D, σ', H3, _, r'.ext e3, A3, q, fun z zv H4 Hc4 rz A4 e4 q4 => ?_⟩
      have nb : Hx D = none := (Ax.hid D (.inr rfl)).1
      have hD4 : Hc4 D = some (.dK vs) := ((e3.trans e4).keep D _ hD nb).1
      have rv4 := RepK.ext (e3.trans e4) rv
      split at q4
      · rename_i k ek
        refine ⟨vs, k, keyT_ok ek (Rep.ext e4 _ _ rt), hD4, by rw [← repK_length rv4]; exact q4.1, H4, setK acc k z, putK vs k zv, rfl, hlt, upd_same, ?_, A4.hw (notT_dk hD4), ext_hid (ex.trans (e3.trans e4)) nD, q4.2⟩
        exact RepK.hw (notT_dk hD4) (repK_put rv4 rz)
      · exact q4.elim
    · exact hb.elim
  · have e : i = xs.length := by omega
    subst e
    rw [List.drop_length] at hgo
    obtain ⟨hck, hk⟩ := hgo
    obtain ⟨_, k2, _⟩ := wlk _ _ _ (hz_with nD) Ax ex hck xs.length
    refine .inl ⟨k2 (Nat.le_refl _), ?_⟩
    refine P _ _ (up Hx D (.dk acc)) Hcx (rep_ref.mpr rfl) (Ax.pub hZ (notT_dk hD) ⟨vs, hD, RepK.pub (notT_dk hD) rv⟩) ⟨fun a w q m => ?_⟩ (hk D (Ax.hid D (.inr rfl)).1)
    obtain ⟨q1, m1⟩ := e1.keep a w q m
    obtain ⟨q2, m2⟩ := ex.keep a w q1 m1
    exact ⟨q2, by rw [up_ne (ne_of_none q1 nD)]; exact m2⟩
end TL
set_option maxRecDepth 100000
set_option maxHeartbeats 4000000
namespace TL
open PySem PySem.Spec L2
section
variable {I : Info} {C : Nat → TSp} {sc : Scope} {X : Cx}
def Both (X : Cx) (e : Expr) (w : WE) : Prop := PE X e (L X.K w) ∧ PT X e (LT X.K w)
theorem Both.val {e : Expr} {w : WE} (h : PE X e (L X.K w)) (he : ∀ whole, isTrue e X.env whole = (do let v ← whole; standAt e.pos; holding [v] (truthy v))) : Both X e w :=
  ⟨h, PT.imp (pt_val h he) fun _ _ _ q => q⟩
theorem XOk.blk (O : XOk I C sc X) (s : Shared) (H : Hp) (scope : Scope) (c : Addr) (cl : List (Str × Addr)) (fp : List Addr) : XOk I C (relS scope sc) (X.blk s H scope (compEnvC scope cl c X.env) fp) where
  N := O.N
  nd := O.nd
  scope := by rw [← O.scope]; rfl
  calm := O.calm
  hu := O.hu
  blt := O.blt
  fns := O.fns
theorem okN_pv (O : XOk I C sc X) {i : Nat} {x : Str} {pos : Pos} (h : okN I sc i x = true) : PE X (.Name x pos) (tVar i) := by
  unfold okN at h
  simp only [Bool.and_eq_true, decide_eq_true_eq, Bool.not_eq_true'] at h
  obtain ⟨⟨⟨h1, h2⟩, h3⟩, h4⟩ := h
  refine pe_var (by rw [O.N]; exact h1) ?_ h3 h4
  unfold vis at h2
  rw [O.scope]
  split at h2
  · exact .inl (by assumption)
  · exact .inr (.inl (by assumption))
  · exact .inr (.inr (by assumption))
  · cases h2
theorem gl_of (O : XOk I C sc X) {x : Str} (h : glob sc x = true) : Gl X x := by
  unfold glob at h
  show X.env.scope.names.lookup x = some .globalImplicit
  rw [O.scope]
  split at h
  · assumption
  · cases h
theorem nonset {op : CmpOp} {b : Expr} (h : plain b = true) : behindInMarks op b = false := by
  cases b <;> first | rfl | cases h
theorem nosub {b : Expr} (h : plain b = true) : PlainIx b := by
  intro o i
  cases b <;> first | rfl | cases h
theorem nofold {b : Expr} {env : Env} (h : plain b = true) : ∀ x, foldedSetIterable b env x = pure x := by
  intro x
  cases b <;> first | rfl | cases h
theorem star1 {env : Env} {x : Expr} {xs : List Expr} (h : plain x = true) : starEach (x :: xs) env = (false, eval x env) :: starEach xs env := by
  cases x <;> first | rfl | cases h
def plains : List Expr → Bool
  | [] => true
  | x :: r => plain x && plains r
theorem star_any {env : Env} {pos : Pos} : ∀ {xs : List Expr}, plains xs = true → (backTo pos (starEach xs env)).any (·.1) = false
  | [], _ => rfl
  | x :: r, h => by
    have h := Bool.and_eq_true_iff.mp h
    rw [star1 h.1]
    unfold backTo
    rw [List.map_cons, List.any_cons, Bool.false_or]
    exact star_any h.2
theorem star_all {env : Env} {pos : Pos} : ∀ {xs : List Expr}, plains xs = true → (backTo pos (starEach xs env)).all (fun x => !x.1) = true
  | [], _ => rfl
  | x :: r, h => by
    have h := Bool.and_eq_true_iff.mp h
    rw [star1 h.1]
    unfold backTo
    rw [List.map_cons, List.all_cons]
    exact star_all h.2
theorem okEs_plains : ∀ {es : Es} {xs : List Expr}, okEs I sc es xs = true → plains xs = true
  | .nil, [], _ => rfl
  | .cons e r, x :: xs, h => by
    have h : (okE I sc e x && plain x && okEs I sc r xs) = true := h
    rw [Bool.and_eq_true, Bool.and_eq_true] at h
    exact Bool.and_eq_true_iff.mpr ⟨h.1.2, okEs_plains h.2⟩
  | .nil, _ :: _, h => absurd (show false = true from h) Bool.false_ne_true
  | .cons _ _, [], h => absurd (show false = true from h) Bool.false_ne_true
theorem lastM {p p' : CmpOp} {y z : Expr} (h : plain z = true) : lastMarks [p, p'] [y, z] = false := nonset h
theorem nope {b : Bool} {p : Prop} (h : b = true) (e : b = false) : p := absurd (e.symm.trans h) Bool.false_ne_true
theorem op_rule (O : XOk I C sc X) {o : Op2} {p : Operator} (h : o.is p = true) : OpR X (binaryOp p) (lift2 X.K o.o) := by
  cases o with
  | add fz => cases p <;> first | exact nope h rfl | exact t_add _
  | sub => cases p <;> first | exact nope h rfl | exact t_sub
  | mul fz => cases p <;> first | exact nope h rfl | exact t_mul _
  | div => cases p <;> first | exact nope h rfl | exact t_div
  | mod => cases p <;> first | exact nope h rfl | exact t_mod
  | pow => cases p <;> first | exact nope h rfl | exact t_pow
theorem cm_rule (O : XOk I C sc X) {o : Cm} {p : CmpOp} (h : o.is p = true) : OpR X (compareOp p) (lift2 X.K o.o) := by
  have hu : X.A.units + 64 < cLine := by have := O.hu; omega
  cases o with
  | eq => cases p <;> first | exact nope h rfl | exact t_eq hu
  | ne => cases p <;> first | exact nope h rfl | exact t_ne hu
  | lt => cases p <;> first | exact nope h rfl | exact t_lt
  | le => cases p <;> first | exact nope h rfl | exact t_le
  | gt => cases p <;> first | exact nope h rfl | exact t_gt
  | ge => cases p <;> first | exact nope h rfl | exact t_ge
  | isN => cases p <;> first | exact nope h rfl | exact t_is
  | notN => cases p <;> first | exact nope h rfl | exact t_isnot
  | isIn => cases p <;> first | exact nope h rfl | exact t_in hu
  | notIn => cases p <;> first | exact nope h rfl | exact t_notin hu
theorem bi_rule (O : XOk I C sc X) {f : BI} {x : Str} {p pos : Pos} {y : Expr} {ys : List Expr} {wa : WA} (hx : x = f.nm) (hg : glob sc x = true) (hp : plains (y :: ys) = true) (ha : PA X (y :: ys) (LA X.K wa)) :
    PE X (.Call (.Name x p) (y :: ys) [] pos) (tCB (liftC X.K f.o) (LA X.K wa)) := by
  have hp' := Bool.and_eq_true_iff.mp hp
  have g := gl_of O hg
  have he := star1 (env := X.env) (xs := ys) hp'.1
  have hpl := star_any (env := X.env) (pos := pos) hp'.2
  subst hx
  cases f
  · exact pe_callB (x := ("len" : Str)) t_len g (O.blt ("len" : Str) (by decide +kernel)) PySem.boot_len ha (by decide +kernel) (by decide +kernel) he hpl
  · exact pe_callTy (x := ("tuple" : Str)) t_tuple g (O.blt ("tuple" : Str) (by decide +kernel)) (by decide +kernel) ha (by decide +kernel) (by decide +kernel) he hpl
  · exact pe_callB (x := ("sorted" : Str)) (t_sorted O.calm _) g (O.blt ("sorted" : Str) (by decide +kernel)) PyProof.Rows.boot_sorted ha (by decide +kernel) (by decide +kernel) he hpl
  · exact pe_callTy (x := ("list" : Str)) (t_list _) g (O.blt ("list" : Str) (by decide +kernel)) (by decide +kernel) ha (by decide +kernel) (by decide +kernel) he hpl
  · exact pe_callB (x := ("all" : Str)) (t_all O.calm) g (O.blt ("all" : Str) (by decide +kernel)) PyProof.Rows.boot_all ha (by decide +kernel) (by decide +kernel) he hpl
  · exact pe_callB (x := ("any" : Str)) (t_any O.calm) g (O.blt ("any" : Str) (by decide +kernel)) PyProof.Rows.boot_any ha (by decide +kernel) (by decide +kernel) he hpl
  · exact pe_callB (x := ("sum" : Str)) (t_sum O.calm) g (O.blt ("sum" : Str) (by decide +kernel)) PyProof.Rows.boot_sum ha (by decide +kernel) (by decide +kernel) he hpl
  · exact pe_callB (x := ("max" : Str)) (t_max O.calm) g (O.blt ("max" : Str) (by decide +kernel)) PyProof.Rows.boot_max ha (by decide +kernel) (by decide +kernel) he hpl
  · exact pe_callB (x := ("min" : Str)) (t_min O.calm) g (O.blt ("min" : Str) (by decide +kernel)) PyProof.Rows.boot_min ha (by decide +kernel) (by decide +kernel) he hpl
  · exact pe_callTy (x := ("int" : Str)) t_int g (O.blt ("int" : Str) (by decide +kernel)) (by decide +kernel) ha (by decide +kernel) (by decide +kernel) he hpl
theorem nosuper {x : Expr} {n : Str} {env : Env} (h : (match x with
    | .Call _ _ _ _ => false
    | _ => true) = true) : attributeBase x n env (eval x env) = eval x env := by
  cases x <;> first | rfl | cases h
end
end TL
set_option maxRecDepth 100000
set_option maxHeartbeats 4000000
namespace TL
open PySem PySem.Spec L2
section
variable {I : Info} {C : Nat → TSp}
theorem own_slots {I : Info} {tg : Tg} : (ownOf I tg).map (·.2) = tg.slots := by
  unfold ownOf
  rw [List.map_map]
  exact List.map_id' _
theorem L_isi {K : PySem.W.Frag} {τ : L2.St} {Hc : Hp} {wa : WE} {y : Ty} {R : VK} (h : L K (fun σ H Q => wa σ H fun t H1 => cIsinst y [t] H1 Q) τ Hc R) :
    tCB (fun xs Hc R => ∃ x, xs = [x, .ty y.nm] ∧ liftC K (cIsinst y) [x] Hc R) (tCons (L K wa) (tCons (tC (.ty y.nm)) tNil)) τ Hc R := by
  obtain ⟨Z, σ, H, Q, r, A, h, P⟩ := h
  exact ⟨Z, σ, H, _, r, A, h, fun t v H1 Hc1 rt A1 e1 q => ⟨v, rfl, Z, H1, [t], Q, A1, reps_cons.mpr ⟨v, [], rfl, rt, reps_nil.mpr rfl⟩, q, P.ext e1⟩⟩
/-- a test that is itself a choice -/
theorem pt_ifExp {X : Cx} {c a b : Expr} {pos : Pos} {tc ta tb : TT} (hc : PT X c tc) (ha : PT X a ta) (hb : PT X b tb) : PT X (.IfExp c a b pos) (fun σ H Q => tc σ H fun k H1 => if k = true then ta σ H1 Q else tb σ H1 Q) := by
  refine ⟨fun pins s σ H Q I h => ?_⟩
  have e : isTrue (.IfExp c a b pos) X.env (eval (.IfExp c a b pos) X.env) = (do
    if ← isTrue c X.env (eval c X.env) then isTrue a X.env (eval a X.env) else isTrue b X.env (eval b X.env)) := rfl
  rw [e]
  refine wpAny_bind (thn (hc.run pins s σ H _ I h) fun k s1 ⟨H1, I1, q1⟩ => ?_)
  cases k with
  | true => exact ha.run pins s1 σ H1 Q I1 q1
  | false => exact hb.run pins s1 σ H1 Q I1 q1
theorem ty_rule {sc : Scope} {X : Cx} (O : XOk I C sc X) {y : Ty} {p : Pos} (h : glob sc (Str.ofString y.nm) = true) : PE X (.Name (Str.ofString y.nm) p) (tC (.ty y.nm)) := by
  have g := gl_of O h
  cases y
  · exact pe_bltn (x := ("int" : Str)) g (O.blt ("int" : Str) (by decide +kernel)) (by decide +kernel) rfl (by decide +kernel) (by decide +kernel)
  · exact pe_bltn (x := ("bool" : Str)) g (O.blt ("bool" : Str) (by decide +kernel)) (by decide +kernel) rfl (by decide +kernel) (by decide +kernel)
  · exact pe_bltn (x := ("str" : Str)) g (O.blt ("str" : Str) (by decide +kernel)) (by decide +kernel) rfl (by decide +kernel) (by decide +kernel)
  · exact pe_bltn (x := ("tuple" : Str)) g (O.blt ("tuple" : Str) (by decide +kernel)) (by decide +kernel) rfl (by decide +kernel) (by decide +kernel)
theorem few_of {X : Cx} {xs : List Expr} {q : Pos} (hp : plains xs = true) (hl : xs.length ≤ 2) : ((backTo q (starEach xs X.env)).all (fun x => !x.1) && (backToKw q (keywordEach [] X.env)).all (fun x => x.1.isSome)
      && decide (xs.length + ([] : List Keyword).length + (if ([] : List Keyword).isEmpty then 0 else 1) < 30)) = true := by
  rw [star_all hp, Bool.and_eq_true, Bool.and_eq_true]
  refine ⟨⟨rfl, rfl⟩, decide_eq_true ?_⟩
  show xs.length + 0 + 0 < 30
  omega
theorem me_rule {sc : Scope} {X : Cx} (O : XOk I C sc X) {m : ME} {o : Expr} {ys : List Expr} {p q : Pos} {wo : WE} {es : Es} (ho : PE X o (L X.K wo)) (ha : PA X ys (LA X.K (wEs C es))) (hp : plains ys = true) (h0 : ys = [] → es = .nil) (hl : (p.endLine == q.line) = true) (hn : ys.length = m.ar)
    (hb : attributeBase o m.nm X.env (eval o X.env) = eval o X.env) :
    PE X (.Call (.Attribute o m.nm p) ys [] q) (L X.K fun σ H Q => wo σ H fun t H1 => recv m.rv t H1 ∧ wEs C es σ H1 fun ts H2 => m.o t ts H2 Q) := by
  have hu : X.A.units + 1 < cLine := by have := O.hu; omega
  have go : ∀ {T' id : String} {y : Expr} {r : List Expr}, ys = y :: r → r.length ≤ 1 → PlainAttrs T' → Slot T' m.nm id → typeOf (.builtin id) = pure (.type "method_descriptor") → MtR X id (liftM X.K m.o) → m.rv = T' →
      PE X (.Call (.Attribute o m.nm p) ys [] q) (L X.K fun σ H Q => wo σ H fun t H1 => recv m.rv t H1 ∧ wEs C es σ H1 fun ts H2 => m.o t ts H2 Q) := by
    intro T' id y r e hr pa sl ty hm hv
    subst e
    have h2 := Bool.and_eq_true_iff.mp hp
    rw [hv]
    exact PE.imp (pe_bm pa sl ty hm ho ha hb (few_of hp (by rw [List.length_cons]; omega)) hl (star1 h2.1) (star_any h2.2)) fun _ _ _ q => L_me q
  have go0 : ∀ {T' id : String}, ys = [] → PlainAttrs T' → Slot T' m.nm id → typeOf (.builtin id) = pure (.type "method_descriptor") → MtR X id (liftM X.K m.o) → m.rv = T' →
      PE X (.Call (.Attribute o m.nm p) ys [] q) (L X.K fun σ H Q => wo σ H fun t H1 => recv m.rv t H1 ∧ wEs C es σ H1 fun ts H2 => m.o t ts H2 Q) := by
    intro T' id e pa sl ty hm hv
    subst e
    rw [hv]
    rw [h0 rfl]
    exact PE.imp (pe_bm0 pa sl ty hm ho hb hl) fun _ _ _ q => L_me0 q
  have one : ∀ {n : Nat}, ys.length = n + 1 → n ≤ 1 → ∃ y r, ys = y :: r ∧ r.length ≤ 1 := by
    intro n e hn
    match ys, e with
    | y :: r, e => exact ⟨y, r, rfl, by rw [List.length_cons] at e; omega⟩
  cases m
  · obtain ⟨y, r, e, hr⟩ := one hn (by omega)
    exact go e hr PySem.F.plainAttrs_list PySem.F.slot_list_append PySem.F.type_list_append t_append rfl
  · exact go0 (List.eq_nil_of_length_eq_zero hn) PySem.F.plainAttrs_list PySem.F.slot_list_pop PySem.F.type_list_pop t_pop rfl
  · obtain ⟨y, r, e, hr⟩ := one hn (by omega)
    exact go e hr PySem.F.plainAttrs_list PySem.F.slot_list_pop PySem.F.type_list_pop t_popAt rfl
  · exact go0 (List.eq_nil_of_length_eq_zero hn) PySem.F.plainAttrs_list PySem.F.slot_list_reverse PySem.F.type_list_reverse t_reverse rfl
  · obtain ⟨y, r, e, hr⟩ := one hn (by omega)
    exact go e hr PySem.F.plainAttrs_dict PySem.F.slot_dict_get PySem.F.type_dict_get (t_get1 hu) rfl
  · obtain ⟨y, r, e, hr⟩ := one hn (by omega)
    exact go e hr PySem.F.plainAttrs_dict PySem.F.slot_dict_get PySem.F.type_dict_get (t_get2 hu) rfl
theorem okEs_nil {sc : Scope} : ∀ {es : Es} {ys : List Expr}, okEs I sc es ys = true → ys = [] → es = .nil
  | .nil, _, _, _ => rfl
  | .cons _ _, _, h, e => by
    subst e
    exact nope h rfl
mutual
theorem okE_sound : ∀ (x : E) {sc : Scope} {X : Cx} (_ : XOk I C sc X) {e : Expr} (_ : okE I sc x e = true), Both X e (wE C x)
  | .v i, sc, X, O, e, h => by
    unfold okE at h
    split at h <;> (try contradiction)
    rename_i hx
    cases hx
    exact Both.val (PE.imp (okN_pv O h) fun _ _ _ q => L_var q) fun _ => rfl
  | .non, sc, X, O, e, h => by
    unfold okE at h
    split at h <;> (try contradiction)
    rename_i hx
    cases hx
    exact Both.val (PE.imp pe_non fun _ _ _ q => L_con (fun _ _ _ => rep_non.mpr rfl) q) fun _ => rfl
  | .bl b, sc, X, O, e, h => by
    unfold okE at h
    split at h <;> (try contradiction)
    rename_i hx
    cases hx
    cases beq_iff_eq.mp h
    exact Both.val (PE.imp pe_bl fun _ _ _ q => L_con (fun _ _ _ => rep_bl.mpr rfl) q) fun _ => rfl
  | .int b, sc, X, O, e, h => by
    unfold okE at h
    split at h <;> (try contradiction)
    rename_i hx
    cases hx
    cases of_decide_eq_true h
    exact Both.val (PE.imp pe_int fun _ _ _ q => L_con (fun _ _ _ => rep_int.mpr rfl) q) fun _ => rfl
  | .str b, sc, X, O, e, h => by
    unfold okE at h
    split at h <;> (try contradiction)
    rename_i hx
    cases hx
    cases of_decide_eq_true h
    exact Both.val (PE.imp pe_str fun _ _ _ q => L_con (fun _ _ _ => rep_str.mpr rfl) q) fun _ => rfl
  | .neg a, sc, X, O, e, h => by
    unfold okE at h
    split at h <;> (try contradiction)
    rename_i hx
    cases hx
    exact Both.val (PE.imp (pe_un un_neg (okE_sound a O h).1) fun _ _ _ q => L_neg q) fun _ => rfl
  | .op o a b, sc, X, O, e, h => by
    unfold okE at h
    split at h <;> (try contradiction)
    rename_i hx
    cases hx
    simp only [Bool.and_eq_true] at h
    obtain ⟨⟨h1, h2⟩, h3⟩ := h
    exact Both.val (PE.imp (pe_op (op_rule O h1) (okE_sound a O h2).1 (okE_sound b O h3).1) fun _ _ _ q => L_op q) fun _ => rfl
  | .cmp o a b, sc, X, O, e, h => by
    unfold okE at h
    split at h <;> (try contradiction)
    rename_i hx
    cases hx
    simp only [Bool.and_eq_true] at h
    obtain ⟨⟨⟨h1, h2⟩, h3⟩, h4⟩ := h
    have ha := (okE_sound a O h2).1
    have hb := (okE_sound b O h3).1
    exact ⟨PE.imp (pe_cmpR (cm_rule O h1) ha hb (nonset h4)) fun _ _ _ q => L_op q, PT.imp (pt_cmpR (cm_rule O h1) ha hb (nonset h4)) fun _ _ _ q => L_op q⟩
  | .chain o o' a b c, sc, X, O, e, h => by
    unfold okE at h
    split at h <;> (try contradiction)
    rename_i hx
    cases hx
    simp only [Bool.and_eq_true] at h
    obtain ⟨⟨⟨⟨⟨⟨h1, h2⟩, h3⟩, h4⟩, h5⟩, h6⟩, h7⟩ := h
    have ha := (okE_sound a O h3).1
    have hb := (okE_sound b O h4).1
    have hc := (okE_sound c O h5).1
    exact ⟨PE.imp (pe_chain (cm_rule O h1) (cm_rule O h2) ha hb hc (lastM h7)) fun _ _ _ q => L_chain q, PT.imp (pt_chain (cm_rule O h1) (cm_rule O h2) ha hb hc (lastM h7)) fun _ _ _ q => L_chain q⟩
  | .and a b, sc, X, O, e, h => by
    unfold okE at h
    split at h <;> (try contradiction)
    rename_i hx
    cases hx
    rw [Bool.and_eq_true] at h
    obtain ⟨h1, h2⟩ := h
    have ha := okE_sound a O h1
    split at h2
    · have hb := okE_sound b O h2
      exact ⟨PE.imp (pe_and ha.1 (pe_one hb.1)) fun _ _ _ q => L_and q, PT.imp (PW.pt (pw_and ha.2 (pw_and1 hb.2))) fun _ _ _ q => LT_and q⟩
    · have hb := okE_sound b O h2
      exact ⟨PE.imp (pe_and ha.1 hb.1) fun _ _ _ q => L_and q, PT.imp (PW.pt (pw_and ha.2 ⟨fun _ => hb.2.run⟩)) fun _ _ _ q => LT_and q⟩
  | .or a b, sc, X, O, e, h => by
    unfold okE at h
    split at h <;> (try contradiction)
    rename_i hx
    cases hx
    rw [Bool.and_eq_true] at h
    obtain ⟨h1, h2⟩ := h
    have ha := okE_sound a O h1
    split at h2
    · have hb := okE_sound b O h2
      exact ⟨PE.imp (pe_or ha.1 (pe_one hb.1)) fun _ _ _ q => L_or q, PT.imp (PW.pt (pw_or ha.2 (pw_or1 hb.2))) fun _ _ _ q => LT_or q⟩
    · have hb := okE_sound b O h2
      exact ⟨PE.imp (pe_or ha.1 hb.1) fun _ _ _ q => L_or q, PT.imp (PW.pt (pw_or ha.2 ⟨fun _ => hb.2.run⟩)) fun _ _ _ q => LT_or q⟩
  | .not a, sc, X, O, e, h => by
    unfold okE at h
    split at h <;> (try contradiction)
    rename_i hx
    cases hx
    have ha := okE_sound a O h
    exact ⟨PE.imp (pe_not ha.1) fun _ _ _ q => L_not q, PT.imp (pt_not ha.2) fun _ _ _ q => LT_not q⟩
  | .ite c a b, sc, X, O, e, h => by
    unfold okE at h
    split at h <;> (try contradiction)
    rename_i hx
    cases hx
    simp only [Bool.and_eq_true] at h
    obtain ⟨⟨h1, h2⟩, h3⟩ := h
    have hc := okE_sound c O h1
    have ha := okE_sound a O h2
    have hb := okE_sound b O h3
    exact ⟨PE.imp (pe_ifExp hc.2 ha.1 hb.1) fun _ _ _ q => L_ite q, PT.imp (pt_ifExp hc.2 ha.2 hb.2) fun _ _ _ q => L_ite q⟩
  | .ix a i, sc, X, O, e, h => by
    unfold okE at h
    split at h <;> (try contradiction)
    rename_i hx
    cases hx
    simp only [Bool.and_eq_true] at h
    obtain ⟨⟨h1, h2⟩, h3⟩ := h
    exact Both.val (PE.imp (pe_ix (t_ix (by have := O.hu; omega)) (okE_sound a O h1).1 (okE_sound i O h2).1 (nosub h3)) fun _ _ _ q => L_op q) fun _ => rfl
  | .sl fz a lo hi, sc, X, O, e, h => by
    unfold okE at h
    split at h <;> (try contradiction)
    rename_i hx
    cases hx
    simp only [Bool.and_eq_true] at h
    obtain ⟨⟨h1, h2⟩, h3⟩ := h
    have part : ∀ (x : E) (l : Option Expr), (match l with
        | none => isNop x
        | some l => !isNop x && okE I sc x l) = true → (∀ l, okE I sc x l = true → PE X l (L X.K (wE C x))) → PO X l (LO X.K fun σ H => if isNop x = true then fun R => R none H else fun R => wE C x σ H fun t H2 => asInt t H2 R) := by
      intro x l hl ih
      cases l with
      | none =>
        have hl : isNop x = true := hl
        simp only [hl, if_true]
        exact ⟨fun pins s σ H Q I q => po_none.run pins s σ H Q I (LO_none q)⟩
      | some l =>
        have hl : (!isNop x && okE I sc x l) = true := hl
        rw [Bool.and_eq_true, Bool.not_eq_true'] at hl
        simp only [hl.1, Bool.false_eq_true, if_false]
        exact ⟨fun pins s σ H Q I q => (po_some (ih l hl.2)).run pins s σ H Q I (LO_some q)⟩
    exact Both.val (PE.imp (pe_slice (t_sl fz) (okE_sound a O h1).1 (part lo _ h2 fun l hl => (okE_sound lo O hl).1) (part hi _ h3 fun l hl => (okE_sound hi O hl).1)) fun _ _ _ q => L_sl q) fun _ => rfl
  | .tup es, sc, X, O, e, h => by
    unfold okE at h
    split at h <;> (try contradiction)
    rename_i hx
    cases hx
    exact Both.val (PE.imp (pe_tup (okEs_sound es O h)) fun _ _ _ q => L_tup q) fun _ => rfl
  | .lst fz es, sc, X, O, e, h => by
    unfold okE at h
    split at h <;> (try contradiction)
    rename_i hx
    cases hx
    exact Both.val (PE.imp (pe_lst (okEs_sound es O h)) fun _ _ _ q => L_lst q) fun _ => rfl
  | .dnew, sc, X, O, e, h => by
    unfold okE at h
    split at h <;> (try contradiction)
    rename_i hx
    cases hx
    exact Both.val (PE.imp pe_dnewK fun _ _ _ q => L_dnew q) fun _ => rfl
  | .call k es, sc, X, O, e, h => by
    unfold okE at h
    split at h <;> (try contradiction)
    rename_i hx
    cases hx
    simp only [Bool.and_eq_true] at h
    obtain ⟨⟨⟨h1, h2⟩, h3⟩, h4⟩ := h
    obtain ⟨j, f, fd, ps, F, hr, hm, hk, hb⟩ := O.fns k _ (of_decide_eq_true h1)
    have hp := Bool.and_eq_true_iff.mp (okEs_plains h4)
    exact Both.val (PE.imp (pe_call F hr (gl_of O h2) hm hk hb .nil pass0 (okEs_sound es O h4) (by simpa using h3) (star1 hp.1) (star_any hp.2)) fun _ _ _ q => L_call q) fun _ => rfl
  | .bi f es, sc, X, O, e, h => by
    unfold okE at h
    split at h <;> (try contradiction)
    rename_i hx
    cases hx
    simp only [Bool.and_eq_true] at h
    obtain ⟨⟨h1, h2⟩, h3⟩ := h
    exact Both.val (PE.imp (bi_rule O (of_decide_eq_true h1) h2 (okEs_plains h3) (okEs_sound es O h3)) fun _ _ _ q => L_args q) fun _ => rfl
  | .isi a y, sc, X, O, e, h => by
    unfold okE at h
    split at h <;> (try contradiction)
    rename_i hx
    cases hx
    simp only [Bool.and_eq_true] at h
    obtain ⟨⟨⟨⟨⟨h1, h2⟩, h3⟩, h4⟩, h5⟩, h6⟩ := h
    cases of_decide_eq_true h1
    cases of_decide_eq_true h3
    have hy : ∀ p, PE X (.Name (Str.ofString y.nm) p) (tC (.ty y.nm)) := fun p => ty_rule O h4
    exact Both.val (PE.imp (pe_callB (t_isinst y) (gl_of O h2) (O.blt ("isinstance" : Str) (by decide +kernel)) PyProof.Rows.boot_isinstance (pa_cons (okE_sound a O h5).1 (pa_cons (hy _) pa_nil) (star1 h6)) (by decide +kernel) (by decide +kernel) (star1 h6) rfl) fun _ _ _ q => L_isi q) fun _ => rfl
  | .me m o es, sc, X, O, e, h => by
    unfold okE at h
    split at h <;> (try contradiction)
    rename_i hx
    cases hx
    simp only [Bool.and_eq_true] at h
    obtain ⟨⟨⟨⟨⟨h1, h2⟩, h3⟩, h4⟩, h5⟩, h6⟩ := h
    cases of_decide_eq_true h1
    exact Both.val (me_rule O (okE_sound o O h3).1 (okEs_sound es O h4) (okEs_plains h4) (okEs_nil h4) h2 (beq_iff_eq.mp h5) (nosuper h6)) fun _ => rfl
  | .lc fz tg it elt cond, sc, X, O, e, h => by
    unfold okE at h
    split at h <;> (try contradiction)
    rename_i hx
    cases hx
    simp only [Bool.and_eq_true] at h
    obtain ⟨⟨⟨⟨⟨h1, h2⟩, h3⟩, h4⟩, h5⟩, h6⟩ := h
    have hi := fun t => okI_sound it O (t := t) h1
    have hg := fun s H c cl fp => okG_sound (O.blk s H _ c cl fp) (top := false) (fun z => by cases z) h4
    have he := fun s H c cl fp => (okE_sound elt (O.blk s H _ c cl fp) h5).1
    rename_i scope pos
    have hB : BlkOk X.N X.env.scope scope (ownOf I tg) := by
      rw [O.N, O.scope]
      exact blkOk_by h3
    refine Both.val ?_ fun _ => rfl
    split at h6
    · refine PE.imp (pe_lc (te := L X.K (wE C elt)) (g := LG X.K tg) (tt := condT X.K none) O.calm O.nd (hi _) hB hg (fun _ _ _ _ _ => pts_nil) he (nofold h2)) fun _ _ _ q => ?_
      rw [own_slots]
      have e : wE C (.lc fz tg it elt cond) = fun σ H Q => wI C it σ H fun ck xs H1 => lcGo ck (bodyC tg none (wE C elt) σ) xs [] H1 fun acc H2 => mk fz acc H2 Q := by
        funext σ H Q
        simp only [wE, h6, if_true]
        rfl
      rw [e] at q
      exact L_lc q
    · simp only [Bool.and_eq_true, Bool.not_eq_true'] at h6
      have hc := fun s H c cl fp => (okE_sound cond (O.blk s H _ c cl fp) h6.2).2
      refine PE.imp (pe_lc (te := L X.K (wE C elt)) (g := LG X.K tg) (tt := condT X.K (some (wE C cond))) O.calm O.nd (hi _) hB hg (fun s H c cl fp => pts_one (hc s H c cl fp)) he (nofold h2)) fun _ _ _ q => ?_
      rw [own_slots]
      have e : wE C (.lc fz tg it elt cond) = fun σ H Q => wI C it σ H fun ck xs H1 => lcGo ck (bodyC tg (some (wE C cond)) (wE C elt) σ) xs [] H1 fun acc H2 => mk fz acc H2 Q := by
        funext σ H Q
        simp only [wE, h6.1, Bool.false_eq_true, if_false]
        rfl
      rw [e] at q
      exact L_lc q
    · cases h6
  | .dc tg it k v, sc, X, O, e, h => by
    unfold okE at h
    split at h <;> (try contradiction)
    rename_i hx
    cases hx
    simp only [Bool.and_eq_true] at h
    obtain ⟨⟨⟨⟨⟨h1, h2⟩, h3⟩, h4⟩, h5⟩, h6⟩ := h
    have hi := fun t => okI_sound it O (t := t) h1
    have hg := fun s H c cl fp => okG_sound (O.blk s H _ c cl fp) (top := false) (fun z => by cases z) h4
    have hk := fun s H c cl fp => (okE_sound k (O.blk s H _ c cl fp) h5).1
    have hv := fun s H c cl fp => (okE_sound v (O.blk s H _ c cl fp) h6).1
    rename_i scope pos
    have hB : BlkOk X.N X.env.scope scope (ownOf I tg) := by
      rw [O.N, O.scope]
      exact blkOk_by h3
    refine Both.val (PE.imp (pe_dc (tk := L X.K (wE C k)) (tv := L X.K (wE C v)) (g := LG X.K tg) O.calm O.nd (hi _) hB hg (fun _ _ _ _ _ => pts_nil) hk hv (nofold h2)) fun _ _ _ q => ?_) fun _ => rfl
    rw [own_slots]
    exact L_dc q
  | .sset fz a, sc, X, O, e, h => by
    unfold okE at h
    split at h <;> (try contradiction)
    rename_i hx
    cases hx
    simp only [Bool.and_eq_true] at h
    obtain ⟨⟨⟨⟨⟨h1, h2⟩, h3⟩, h4⟩, h5⟩, h6⟩ := h
    cases of_decide_eq_true h1
    cases of_decide_eq_true h3
    have hs := star1 (env := X.env) (xs := []) h6
    have h0 := fun p pos => pe_callTy (p := p) (pos := pos) (x := ("set" : Str)) (cr_setI O.calm) (gl_of O h4) (O.blt ("set" : Str) (by decide +kernel)) (by decide +kernel) (pa_cons (okE_sound a O h5).1 pa_nil hs) (by decide +kernel) (by decide +kernel) hs rfl
    exact Both.val (PE.imp (pe_callB (x := ("sorted" : Str)) (cr_sortedSet O.calm) (gl_of O h2) (O.blt ("sorted" : Str) (by decide +kernel)) PyProof.Rows.boot_sorted (pa_cons (h0 _ _) pa_nil rfl) (by decide +kernel) (by decide +kernel) rfl rfl) fun _ _ _ q => L_sset q) fun _ => rfl
  | .frz a, sc, X, O, e, h => by
    have h : okE I sc a e = true := by
      unfold okE at h
      exact h
    have ha := okE_sound a O h
    exact ⟨PE.imp ha.1 fun _ _ _ q => L_frz q, PT.imp ha.2 fun _ _ _ q => L_frz q⟩
  | .nop, sc, X, O, e, h => by
    unfold okE at h
    cases h
theorem okEs_sound : ∀ (x : Es) {sc : Scope} {X : Cx} (_ : XOk I C sc X) {xs : List Expr} (_ : okEs I sc x xs = true), PA X xs (LA X.K (wEs C x))
  | .nil, sc, X, O, [], h => PA.imp pa_nil fun _ _ _ q => LA_nil q
  | .cons e r, sc, X, O, x :: xs, h => by
    have h : (okE I sc e x && plain x && okEs I sc r xs) = true := h
    simp only [Bool.and_eq_true] at h
    obtain ⟨⟨h1, h2⟩, h3⟩ := h
    exact PA.imp (pa_cons (okE_sound e O h1).1 (okEs_sound r O h3) (star1 h2)) fun _ _ _ q => LA_cons q
  | .nil, _, _, _, _ :: _, h => nope h rfl
  | .cons _ _, _, _, _, [], h => nope h rfl
theorem okI_sound : ∀ (x : It) {sc : Scope} {X : Cx} (_ : XOk I C sc X) {t e : Expr} (_ : okI I sc x e = true), PI X t e (LI X.K (wI C x))
  | .over a, sc, X, O, t, e, h => by
    have h : okE I sc a e = true := h
    exact PI.imp (pi_seq (okE_sound a O h).1) fun _ _ _ q => LI_over q
  | .rng1 a, sc, X, O, t, e, h => by
    unfold okI at h
    split at h <;> (try contradiction)
    rename_i hx
    cases hx
    simp only [Bool.and_eq_true] at h
    obtain ⟨⟨⟨h1, h2⟩, h3⟩, h4⟩ := h
    cases of_decide_eq_true h1
    exact PI.imp (pi_range1 (gl_of O h2) (O.blt ("range" : Str) (by decide +kernel)) (pa_cons (okE_sound a O h3).1 pa_nil (star1 h4)) (star1 h4)) fun _ _ _ q => LI_rng1 q
  | .rng2 a b, sc, X, O, t, e, h => by
    unfold okI at h
    split at h <;> (try contradiction)
    rename_i hx
    cases hx
    simp only [Bool.and_eq_true] at h
    obtain ⟨⟨⟨⟨⟨h1, h2⟩, h3⟩, h4⟩, h5⟩, h6⟩ := h
    cases of_decide_eq_true h1
    have s2 := star1 (env := X.env) (xs := []) h6
    exact PI.imp (pi_range2 (gl_of O h2) (O.blt ("range" : Str) (by decide +kernel)) (pa_cons (okE_sound a O h3).1 (pa_cons (okE_sound b O h4).1 pa_nil s2) (star1 h5)) ((star1 h5).trans (congrArg _ s2)) s2) fun _ _ _ q => LI_rng2 q
end
end
end TL
set_option maxRecDepth 100000
set_option maxHeartbeats 4000000
namespace TL
open PySem PySem.Spec L2
/-! ### statements -/
mutual
inductive S where
  | set (i : Nat) (e : E) | unp (is : List Nat) (e : E) | setix (o i e : E) | aug (i : Nat) (e : E) | expr (e : E) | ret (e : E) | retN
  | ife (c : E) (a b : Ss) | for_ (tg : Tg) (it : It) (body : Ss) | while_ (c : E) (body : Ss) | pass | brk | cont | never
inductive Ss where
  | nil | cons (s : S) (r : Ss)
end
def forGo (ck : TH → Prop) (body : T → TEnds → TSt → TH → Prop) : List T → TEnds → TSt → TH → Prop
  | [], D, σ, H => ck H ∧ D.nx σ H
  | x :: r, D, σ, H => ck H ∧ body x { nx := forGo ck body r D, rt := D.rt, bk := D.nx, ct := forGo ck body r D } σ H
def whGo (c : WE) (body : WS) : Nat → TEnds → TSt → TH → Prop
  | 0, _, _, _ => False
  | n + 1, D, σ, H => c σ H fun t H1 => match t with
    | .bl true => body { nx := whGo c body n D, rt := D.rt, bk := D.nx, ct := whGo c body n D } σ H1
    | .bl false => D.nx σ H1
    | _ => False
mutual
def wS (C : Nat → TSp) : S → WS
  | .set i e, D, σ, H => wE C e σ H fun t H1 => D.nx (σ.set i (some t)) H1
  | .unp is e, D, σ, H => wE C e σ H fun t H1 => match (Tg.t is).put t σ with
    | some σ' => D.nx σ' H1
    | none => False
  | .setix o i e, D, σ, H => wE C e σ H fun w H1 => wE C o σ H1 fun t H2 => wE C i σ H2 fun u H3 => oSet t u w H3 fun H4 => D.nx σ H4
  | .aug i e, D, σ, H => match lk σ i with
    | some t => wE C e σ H fun u H1 => oAug t u H1 fun z H2 => D.nx (σ.set i (some z)) H2
    | none => False
  | .expr e, D, σ, H => wE C e σ H fun _ H1 => D.nx σ H1
  | .ret e, D, σ, H => wE C e σ H D.rt
  | .retN, D, _, H => D.rt .non H
  | .ife c a b, D, σ, H => wE C c σ H fun t H1 => match t with
    | .bl true => wSs C a D σ H1
    | .bl false => wSs C b D σ H1
    | _ => False
  | .for_ tg it body, D, σ, H => wI C it σ H fun ck xs H1 => forGo ck (fun x D' σ' H2 => match tg.put x σ' with
    | some σ'' => wSs C body D' σ'' H2
    | none => False) xs D σ H1
  | .while_ c body, D, σ, H => ∃ n, whGo (wE C c) (wSs C body) n D σ H
  | .pass, D, σ, H => D.nx σ H
  | .brk, D, σ, H => D.bk σ H
  | .cont, D, σ, H => D.ct σ H
  | .never, _, _, _ => False
def wSs (C : Nat → TSp) : Ss → WS
  | .nil, D, σ, H => D.nx σ H
  | .cons s r, D, σ, H => wS C s { nx := wSs C r D, rt := D.rt, bk := D.bk, ct := D.ct } σ H
end
def plainV : Expr → Bool
  | .ListComp _ _ _ _ => false
  | .DictComp _ _ _ _ _ => false
  | .SetComp _ _ _ _ => false
  | .Tuple _ _ _ => false
  | .Starred _ _ => false
  | _ => true
def plainW : Expr → Bool
  | .ListComp _ _ _ _ => false
  | .DictComp _ _ _ _ _ => false
  | .SetComp _ _ _ _ => false
  | _ => true
/-- a name gets what the text says: is it a comprehension that is stored in the frame? -/
def isFrz : E → Bool
  | .frz _ => true
  | _ => false
def okSet (e : E) (sc : Scope) (x : Str) (p : Pos) : Expr → Bool
  | .ListComp _ gs scope q => !locv sc x || (!isFrz e && (match sc.kind with
    | .function => true
    | _ => false) && (p.line == q.line) && !(scope.names.any fun (n, k) => n == x && (k == .local || k == .cell)) && (match gs with
    | [⟨_, _, _, 0⟩] => true
    | _ => false))
  | .DictComp _ _ gs scope q => !locv sc x || (!isFrz e && (match sc.kind with
    | .function => true
    | _ => false) && (p.line == q.line) && !(scope.names.any fun (n, k) => n == x && (k == .local || k == .cell)) && (match gs with
    | [⟨_, _, [], 0⟩] => true
    | _ => false))
  | .SetComp _ _ _ _ => false
  | _ => true
mutual
def okS (I : Info) (sc : Scope) : S → Stmt → Bool
  | .set i e, .Assign [.Name x p] y _ => okX I true sc i x && okE I sc e y && okSet e sc x p y
  | .unp is e, .Assign [.Tuple ts k p] y _ => okG I true sc (.t is) (.Tuple ts k p) && okE I sc e y && plainV y
  | .setix o i e, .Assign [.Subscript x j _] y _ => okE I sc o x && okE I sc i j && okE I sc e y && plainW y && plain j
  | .aug i e, .AugAssign (.Name x _) .Add y _ => okX I true sc i x && okE I sc e y
  | .expr e, .Expr x _ => okE I sc e x && plainW x
  | .ret e, .Return (some x) _ => okE I sc e x
  | .retN, .Return none _ => true
  | .ife c a b, .If x xs ys _ => okE I sc c x && okSs I sc a xs && okSs I sc b ys
  | .for_ tg it body, .For t i xs [] _ => okG I true sc tg t && okI I sc it i && plain i && okSs I sc body xs
  | .while_ c body, .While x xs [] _ => okE I sc c x && okSs I sc body xs
  | .pass, .Pass _ => true
  | .brk, .Break _ => true
  | .cont, .Continue _ => true
  | .never, _ => true
  | _, _ => false
def okSs (I : Info) (sc : Scope) : Ss → List Stmt → Bool
  | .nil, [] => true
  | .cons s r, x :: xs => okS I sc s x && okSs I sc r xs
  | _, _ => false
end
/-! ### composition -/
section
variable {K : PySem.W.Frag} {τ : L2.St} {Hc : Hp}
structure PostD (K : PySem.W.Frag) (Z : Addr → Prop) (H : TH) (Hc : Hp) (G : TEnds) (D : Ends) : Prop where
  nx : PostS K Z H Hc G.nx D.nx
  rt : Post K Z H Hc G.rt D.rt
  bk : PostS K Z H Hc G.bk D.bk
  ct : PostS K Z H Hc G.ct D.ct
theorem PostD.ext {Z : Addr → Prop} {H H' : TH} {Hc Hc' : Hp} {G : TEnds} {D : Ends} (h : PostD K Z H Hc G D) (e : Ext H Hc H' Hc') : PostD K Z H' Hc' G D := ⟨h.nx.ext e, h.rt.ext e, h.bk.ext e, h.ct.ext e⟩
theorem LS.mk {w : WS} {Z : Addr → Prop} {σ : TSt} {H : TH} {G : TEnds} {D : Ends} (r : RepS K Z H Hc σ τ) (A : Abs K Z H Hc) (h : w G σ H) (P : PostD K Z H Hc G D) : LS K w D τ Hc := ⟨Z, σ, H, G, r, A, h, P.nx, P.rt, P.bk, P.ct⟩
theorem LS.get {w : WS} {D : Ends} (h : LS K w D τ Hc) : ∃ (Z : Addr → Prop) (σ : TSt) (H : TH) (G : TEnds), RepS K Z H Hc σ τ ∧ Abs K Z H Hc ∧ w G σ H ∧ PostD K Z H Hc G D :=
  let ⟨Z, σ, H, G, r, A, h, a, b, c, d⟩ := h
  ⟨Z, σ, H, G, r, A, h, a, b, c, d⟩
theorem S_set {i : Nat} {we : WE} {D : Ends} (h : LS K (fun D σ H => we σ H fun t H1 => D.nx (σ.set i (some t)) H1) D τ Hc) : tAsg (L K we) (gName i) D τ Hc := by
  obtain ⟨Z, σ, H, G, r, A, h, P⟩ := h.get
  exact ⟨Z, σ, H, _, r, A, h, fun t v H1 Hc1 rt A1 e1 q => P.nx _ _ H1 Hc1 ((r.ext e1).set rt) A1 e1 q⟩
theorem S_unp {is : List Nat} {we : WE} {D : Ends} (h : LS K (fun D σ H => we σ H fun t H1 => match (Tg.t is).put t σ with
    | some σ' => D.nx σ' H1
    | none => False) D τ Hc) : tAsg (L K we) (LG K (.t is)) D τ Hc := by
  obtain ⟨Z, σ, H, G, r, A, h, P⟩ := h.get
  refine ⟨Z, σ, H, _, r, A, h, fun t v H1 Hc1 rt A1 e1 q => ?_⟩
  split at q
  · rename_i σ' hp
    exact ⟨Z, H1, σ, σ', t, (r.ext e1).x _, rt, hp, fun τ' r' _ => P.nx _ _ H1 Hc1 r' A1 e1 q⟩
  · exact q.elim
theorem S_setix {wo wi we : WE} {D : Ends} (h : LS K (fun D σ H => we σ H fun w H1 => wo σ H1 fun t H2 => wi σ H2 fun u H3 => oSet t u w H3 fun H4 => D.nx σ H4) D τ Hc) :
    tAsg (L K we) (gSub (L K wo) (L K wi) (liftSet K oSet)) D τ Hc := by
  obtain ⟨Z, σ, H, G, r, A, h, P⟩ := h.get
  refine ⟨Z, σ, H, _, r, A, h, fun w v H1 Hc1 rw A1 e1 q => ?_⟩
  refine ⟨Z, σ, H1, _, r.ext e1, A1, q, fun t x H2 Hc2 rt A2 e2 q => ?_⟩
  refine ⟨Z, σ, H2, _, r.ext (e1.trans e2), A2, q, fun u y H3 Hc3 ru A3 e3 q => ?_⟩
  exact ⟨Z, H3, t, u, w, _, A3, Rep.ext e3 _ _ rt, ru, Rep.ext (e2.trans e3) _ _ rw, q, fun H4 Hc4 A4 e4 q => P.nx _ _ H4 Hc4 (r.ext (((e1.trans e2).trans e3).trans e4)) A4 (((e1.trans e2).trans e3).trans e4) q⟩
theorem S_aug {i : Nat} {we : WE} {D : Ends} (h : LS K (fun D σ H => match lk σ i with
    | some t => we σ H fun u H1 => oAug t u H1 fun z H2 => D.nx (σ.set i (some z)) H2
    | none => False) D τ Hc) : tAug i (L K we) (lift2 K oAug) D τ Hc := by
  obtain ⟨Z, σ, H, G, r, A, h, P⟩ := h.get
  cases e : lk σ i with
  | none =>
    rw [e] at h
    exact h.elim
  | some t =>
    rw [e] at h
    obtain ⟨x, e2, rx⟩ := r.2 i t (lk_eq e)
    refine ⟨x, e2, Z, σ, H, _, r, A, h, fun u v H1 Hc1 ru A1 e1 q => ?_⟩
    exact ⟨Z, H1, t, u, _, A1, Rep.ext e1 _ _ rx, ru, q, fun z w H2 Hc2 rz A2 e2 q => P.nx _ _ H2 Hc2 ((r.ext (e1.trans e2)).set rz) A2 (e1.trans e2) q⟩
theorem S_expr {we : WE} {D : Ends} (h : LS K (fun D σ H => we σ H fun _ H1 => D.nx σ H1) D τ Hc) : tDrop (L K we) D τ Hc := by
  obtain ⟨Z, σ, H, G, r, A, h, P⟩ := h.get
  exact ⟨Z, σ, H, _, r, A, h, fun t v H1 Hc1 rt A1 e1 q => P.nx _ _ H1 Hc1 (r.ext e1) A1 e1 q⟩
theorem S_ret {we : WE} {D : Ends} (h : LS K (fun D σ H => we σ H D.rt) D τ Hc) : tRet (L K we) D τ Hc := by
  obtain ⟨Z, σ, H, G, r, A, h, P⟩ := h.get
  exact ⟨Z, σ, H, _, r, A, h, P.rt⟩
theorem S_retN {D : Ends} (h : LS K (fun D _ H => D.rt .non H) D τ Hc) : tRetN D τ Hc := by
  obtain ⟨Z, σ, H, G, r, A, h, P⟩ := h.get
  exact P.rt _ _ H Hc (rep_non.mpr rfl) A .refl h
theorem S_nx {D : Ends} (h : LS K (fun D σ H => D.nx σ H) D τ Hc) : tNext D τ Hc := by
  obtain ⟨Z, σ, H, G, r, A, h, P⟩ := h.get
  exact P.nx _ _ H Hc r A .refl h
theorem S_bk {D : Ends} (h : LS K (fun D σ H => D.bk σ H) D τ Hc) : tBreak D τ Hc := by
  obtain ⟨Z, σ, H, G, r, A, h, P⟩ := h.get
  exact P.bk _ _ H Hc r A .refl h
theorem S_ct {D : Ends} (h : LS K (fun D σ H => D.ct σ H) D τ Hc) : tCont D τ Hc := by
  obtain ⟨Z, σ, H, G, r, A, h, P⟩ := h.get
  exact P.ct _ _ H Hc r A .refl h
theorem S_ife {wc : WE} {wa wb : WS} {D : Ends} (h : LS K (fun D σ H => wc σ H fun t H1 => match t with
    | .bl true => wa D σ H1
    | .bl false => wb D σ H1
    | _ => False) D τ Hc) : tIfS (LT K wc) (LS K wa) (LS K wb) D τ Hc := by
  obtain ⟨Z, σ, H, G, r, A, h, P⟩ := h.get
  refine ⟨Z, σ, H, _, r, A, h, fun t v H1 Hc1 rt A1 e1 q => ?_⟩
  cases t with
  | bl k =>
    refine ⟨k, rep_bl.mp rt, ?_⟩
    cases k with
    | true => exact LS.mk (r.ext e1) A1 q (P.ext e1)
    | false => exact LS.mk (r.ext e1) A1 q (P.ext e1)
  | _ => exact q.elim
theorem S_seq {wa wb : WS} {D : Ends} (h : LS K (fun D σ H => wa { nx := wb D, rt := D.rt, bk := D.bk, ct := D.ct } σ H) D τ Hc) : tSeq (LS K wa) (LS K wb) D τ Hc := by
  obtain ⟨Z, σ, H, G, r, A, h, P⟩ := h.get
  exact LS.mk r A h ⟨fun σ' τ' H1 Hc1 r1 A1 e1 q => LS.mk r1 A1 q (P.ext e1), P.rt, P.bk, P.ct⟩
theorem S_for {tg : Tg} {wi : WI} {wb : WS} {D : Ends} (h : LS K (fun D σ H => wi σ H fun ck xs H1 => forGo ck (fun x D' σ' H2 => match tg.put x σ' with
    | some σ'' => wb D' σ'' H2
    | none => False) xs D σ H1) D τ Hc) : tFor (LI K wi) (LG K tg) (LS K wb) D τ Hc := by
  obtain ⟨Z, σ, H, G, r, A, h, P⟩ := h.get
  refine ⟨Z, σ, H, _, r, A, h, fun ck xs J H1 Hc1 A1 e1 wk h1 => ?_⟩
  let B : T → TEnds → TSt → TH → Prop := fun x D' σ' H2 => match tg.put x σ' with
    | some σ'' => wb D' σ'' H2
    | none => False
  refine ⟨fun i m τx Hcx => ∃ (σx : TSt) (Hx : TH), m = xs.length - i ∧ i ≤ xs.length ∧ RepS K Z Hx Hcx σx τx ∧ Abs K Z Hx Hcx ∧ Ext H1 Hc1 Hx Hcx ∧ forGo ck B (xs.drop i) G σx Hx,
    ⟨xs.length, σ, H1, by simp, Nat.zero_le _, r.ext e1, A1, .refl, by rw [List.drop_zero]; exact h1⟩, ?_⟩
  rintro i m τx Hcx ⟨σx, Hx, rfl, hi, rx, Ax, ex, hgo⟩
  by_cases hlt : i < xs.length
  · rw [List.drop_eq_getElem_cons hlt] at hgo
    obtain ⟨hck, hb⟩ := hgo
    obtain ⟨k1, _, k3⟩ := wk _ _ _ (fun a z => .inl z) Ax ex hck i
    refine .inr ⟨k1 hlt, _, fun τ' H' z => ⟨xs.length - (i + 1), by omega, z⟩, fun x Hcy y => ?_⟩
    obtain ⟨rfl, k3⟩ := k3 x Hcy hlt y
    have rxx := k3 _ (List.getElem?_eq_getElem hlt)
    have hb : (match tg.put xs[i] σx with
      | some σ'' => wb { nx := forGo ck B (xs.drop (i + 1)) G, rt := G.rt, bk := G.nx, ct := forGo ck B (xs.drop (i + 1)) G } σ'' Hx
      | none => False) := hb
    split at hb
    · rename_i σ' hp
      refine ⟨Z, Hx, σx, σ', _, rx.x _, rxx, hp, fun τ' r' o' => ?_⟩
      have PX := P.ext (e1.trans ex)
      exact LS.mk r' Ax hb ⟨fun σ2 τ2 H2 Hc2 r2 A2 e2 q => ⟨σ2, H2, rfl, hlt, r2, A2, ex.trans e2, q⟩, PX.rt, PX.nx, fun σ2 τ2 H2 Hc2 r2 A2 e2 q => ⟨σ2, H2, rfl, hlt, r2, A2, ex.trans e2, q⟩⟩
    · exact hb.elim
  · have e : i = xs.length := by omega
    subst e
    rw [List.drop_length] at hgo
    obtain ⟨hck, hk⟩ := hgo
    obtain ⟨_, k2, _⟩ := wk _ _ _ (fun a z => .inl z) Ax ex hck xs.length
    exact .inl ⟨k2 (Nat.le_refl _), P.nx _ _ Hx Hcx rx Ax (e1.trans ex) hk⟩
theorem S_while {wc : WE} {wb : WS} {D : Ends} (h : LS K (fun D σ H => ∃ n, whGo wc wb n D σ H) D τ Hc) : tWhile (LT K wc) (LS K wb) D τ Hc := by
  obtain ⟨Z, σ, H, G, r, A, ⟨n, h⟩, P⟩ := h.get
  refine ⟨fun m τx Hcx => ∃ (σx : TSt) (Hx : TH), RepS K Z Hx Hcx σx τx ∧ Abs K Z Hx Hcx ∧ Ext H Hc Hx Hcx ∧ whGo wc wb m G σx Hx, ⟨n, σ, H, r, A, .refl, h⟩, ?_⟩
  rintro m τx Hcx ⟨σx, Hx, rx, Ax, ex, hgo⟩
  cases m with
  | zero => exact hgo.elim
  | succ m =>
    refine ⟨Z, σx, Hx, _, rx, Ax, hgo, fun t v H1 Hc1 rt A1 e1 q => ?_⟩
    cases t with
    | bl k =>
      refine ⟨k, rep_bl.mp rt, ?_⟩
      have PX := P.ext (ex.trans e1)
      cases k with
      | true =>
        refine iteT ⟨_, fun τ' H' z => ⟨m, Nat.lt_succ_self m, z⟩, LS.mk (rx.ext e1) A1 q ⟨fun σ2 τ2 H2 Hc2 r2 A2 e2 q => ⟨σ2, H2, r2, A2, (ex.trans e1).trans e2, q⟩, PX.rt, PX.nx, fun σ2 τ2 H2 Hc2 r2 A2 e2 q => ⟨σ2, H2, r2, A2, (ex.trans e1).trans e2, q⟩⟩⟩
      | false => exact PX.nx _ _ H1 Hc1 (rx.ext e1) A1 .refl q
    | _ => exact q.elim
end
section
variable {X : Cx}
theorem t_aug : OpR X (inplaceOp .Add) (lift2 X.K oAug) := by
  refine OpR.imp (OpR.or iop_add iop_ext) fun x y Hc R q => ?_
  obtain ⟨Z, H, t, u, Q, A, r1, r2, q, P⟩ := q
  unfold oAug at q
  split at q
  · exact .inl ⟨_, _, rep_int.mp r1, rep_int.mp r2, p_int A q P⟩
  · split at q
    · rename_i e1 e2
      obtain ⟨vs, hc, s1⟩ := lst_at A e1
      obtain ⟨b, ws, e3, h2, s2⟩ := lstOf_ok A r2 e2
      refine .inr ⟨_, b, vs, ws, rep_ref.mp r1, e3, hc, h2, by rw [← s1.length, ← s2.length]; exact q.1, ?_⟩
      exact put_ok e1 q.2 A (rep_ref.mpr rfl) (s1.append s2) P
    · exact q.elim
  · exact q.elim
theorem sw_trueD {kx vx : Expr} {gs : List Comprehension} {scope : Scope} {pos py : Pos} {y : Str} {l : Nat} {env : Env} (hk : env.scope.kind = .function) (hy : env.scope.names.lookup y = some .local) (hl : (py.line == pos.line) = true)
    (ha : (scope.names.any fun (n, k) => n == y && (k == .local || k == .cell)) = false) : swapsWith (.DictComp kx vx gs scope pos) (some (.Name y py)) l env = pure true := by
  have h1 : env.kindOf y = some .local := hy
  have h2 : env.blockKind = .function := by
    unfold Env.blockKind
    rw [hk]
    rfl
  simp only [swapsWith, h2, h1, ha, Expr.pos, hl]
  rfl
/-- x = {..}: stored while the comprehension's own names stand -/
theorem ps_setDc {i : Nat} {y : Str} {py : Pos} {kx vx tg iter : Expr} {scope : Scope} {own : List (Str × Nat)} {pos spos : Pos} {wi : L2.TI} {g : L2.TG} {tk tv : TE} (O : X.calm = true ∧ X.N.Nodup) (hy : X.N[i]? = some y) (hyl : X.env.scope.names.lookup y = some .local)
    (hsw : swapsWith (.DictComp kx vx [⟨tg, iter, [], 0⟩] scope pos) (some (.Name y py)) spos.line X.env = pure true) (hi : PI X tg iter wi) (ok : BlkOk X.N X.env.scope scope own)
    (hg : ∀ (s : Shared) (H : Hp) (c : Addr) (cl : List (Str × Addr)) (fp : List Addr), PG (X.blk s H scope (compEnvC scope cl c X.env) fp) tg g)
    (hk : ∀ (s : Shared) (H : Hp) (c : Addr) (cl : List (Str × Addr)) (fp : List Addr), PE (X.blk s H scope (compEnvC scope cl c X.env) fp) kx tk)
    (hv : ∀ (s : Shared) (H : Hp) (c : Addr) (cl : List (Str × Addr)) (fp : List Addr), PE (X.blk s H scope (compEnvC scope cl c X.env) fp) vx tv) (hs : ∀ x, foldedSetIterable iter X.env x = pure x) :
    PS X (.Assign [.Name y py] (.DictComp kx vx [⟨tg, iter, [], 0⟩] scope pos) spos) (tAsg (tDc wi g tYes tk tv (own.map (·.2))) (gName i)) := by
  constructor
  intro pins s σ H D I h
  rw [exec_Assign_Name_used _ _ _ _ hsw]
  have core := dc_core (pos := pos) (pos' := firstIterPos [⟨tg, iter, [], 0⟩] pos) (use := some (assign (.Name y py) X.env)) (Qf := fun _ s' => SP X pins D .next s') O.1 O.2 I hi ok hg (fun _ _ _ _ _ => pts_nil) hk hv hs h
  refine wpAny_bind (wpAny_standAt (wpAny_bind (thn (wpAny_bind (thn (core fun A c s' m H' I' q hn f => ?_) fun _ s' hq => wpAny_pure hq)) fun _ s' hq => wpAny_pure hq)))
  obtain ⟨f0, f1, f2, f3, f4, f5⟩ := f
  show wpAny _ _ (assign (.Name y py) X.env (.ref A)) _ _ _
  refine wpAny_assign_Name (store_ok2 (v := V.ref A) I' O.2 hy (.inl hyl) rfl (fun s2 I2 ⟨a, sb, ha⟩ => ?_) (.inr hyl))
  have ne : c ≠ a := by
    rcases ha with z | z
    · exact z ▸ f1
    · exact (f4 y a z).symm
  exact ⟨m, hn.sameBut sb ne, fun h3 sb3 => ⟨_, H', I2.turned (t' := s2.toks) (fun b o hb e => (sb3.2 b hb).trans e) f0 f1 f3 f4 f5, q⟩⟩
end
end TL
set_option maxRecDepth 100000
set_option maxHeartbeats 4000000
namespace TL
open PySem PySem.Spec L2
section
variable {I : Info} {C : Nat → TSp}
structure SOk (I : Info) (C : Nat → TSp) (sc : Scope) (X : Cx) : Prop where
  x : XOk I C sc X
  hp : PassesOwn (model X.prog X.w) X.A X.env X.xe
  fn : ∀ x, X.fn x = true
theorem sw_cell {e : Expr} {x : Str} {p : Pos} {n : Nat} {env : Env} (h : env.scope.names.lookup x ≠ some .local) : swapsWith e (some (.Name x p)) n env = pure false := by
  have hk : (env.kindOf x == some .local) = false := by
    have e : env.kindOf x = env.scope.names.lookup x := rfl
    rw [e]
    cases q : env.scope.names.lookup x with
    | none => rfl
    | some k => cases k <;> first | rfl | exact absurd q h
  cases e <;> first | rfl | simp only [swapsWith, hk, Bool.and_false, Bool.false_and]; done
theorem plainV_sw {e tg : Expr} {n : Nat} {env : Env} (h : plainV e = true) : swapsWithSole [tg] e n env = pure false ∧ swappedStores [tg] e env = pure none := by
  cases e <;> first | exact nope h rfl | exact ⟨rfl, by cases tg <;> rfl⟩
theorem plainW_sub {o i e : Expr} {p : Pos} {n : Nat} {env : Env} (h : plainW e = true) : swapsWithSole [.Subscript o i p] e n env = pure false ∧ swappedStores [.Subscript o i p] e env = pure none := by
  cases e <;> first | exact nope h rfl | exact ⟨rfl, rfl⟩
theorem plainW_drop {e : Expr} {n : Nat} {env : Env} (h : plainW e = true) : swapsWith e none n env = pure false := by
  cases e <;> first | exact nope h rfl | rfl
theorem assign_sub {o i : Expr} {p : Pos} {env : Env} (h : plain i = true) : ∀ v, assign (.Subscript o i p) env v = (do
      let ov ← holding [v] (eval o env)
      let iv ← holding [v, ov] (eval i env)
      standAt p
      holding [v, ov, iv] (setItem ov iv v)
      release [v, ov, iv] []) := by
  intro v
  cases i <;> first | exact nope h rfl | rfl
theorem set_rule {sc : Scope} {X : Cx} (O : SOk I C sc X) {i : Nat} {e : E} {x : Str} {p pos : Pos} {y : Expr} (h1 : okX I true sc i x = true) (h2 : okE I sc e y = true) (h3 : okSet e sc x p y = true) :
    PS X (.Assign [.Name x p] y pos) (LS X.K fun D σ H => wE C e σ H fun t H1 => D.nx (σ.set i (some t)) H1) := by
  obtain ⟨hi, hlc, hlf⟩ := okX_loc O.x (fun _ => O.fn) h1
  have plainr : (swapsWith y (some (.Name x p)) pos.line X.env = pure false) → PS X (.Assign [.Name x p] y pos) (LS X.K fun D σ H => wE C e σ H fun t H1 => D.nx (σ.set i (some t)) H1) := fun hs =>
    PS.imp (ps_set O.x.nd hi hlc (okE_sound e O.x h2).1 hs hlf) fun _ _ _ q => S_set q
  cases y with
  | ListComp elt gs scope q =>
    unfold okSet at h3
    rw [Bool.or_eq_true] at h3
    by_cases hl : X.env.scope.names.lookup x = some .local
    case neg => exact plainr (sw_cell hl)
    have hv : locv sc x = true := by
      unfold locv
      rw [← O.x.scope, hl]
    rw [hv] at h3
    have h3 := h3.resolve_left Bool.false_ne_true
    simp only [Bool.and_eq_true] at h3
    obtain ⟨⟨⟨⟨k0, k1⟩, k2⟩, k3⟩, k4⟩ := h3
    rw [Bool.not_eq_true'] at k3
    have hk : X.env.scope.kind = .function := by
      rw [O.x.scope]
      split at k1
      · assumption
      · cases k1
    split at k4
    · rename_i t it ifs
      have go : ∀ {fz : Bool} {tg : Tg} {wi : It} {we wc : E}, okE I sc (.lc fz tg wi we wc) (.ListComp elt [⟨t, it, ifs, 0⟩] scope q) = true →
          PS X (.Assign [.Name x p] (.ListComp elt [⟨t, it, ifs, 0⟩] scope q) pos) (LS X.K fun D σ H => wE C (.lc fz tg wi we wc) σ H fun t H1 => D.nx (σ.set i (some t)) H1) := by
        intro fz tg wi we wc g0
        clear h2 plainr
        unfold okE at g0
        simp only [Bool.and_eq_true] at g0
        obtain ⟨⟨⟨⟨⟨g1, g2⟩, g3⟩, g4⟩, g5⟩, h6⟩ := g0
        have hit := okI_sound wi O.x (t := t) g1
        have hg := fun s H c cl fp => okG_sound (O.x.blk s H _ c cl fp) (top := false) (fun z => by cases z) g4
        have he := fun s H c cl fp => (okE_sound we (O.x.blk s H _ c cl fp) g5).1
        have hB : BlkOk X.N X.env.scope scope (ownOf I tg) := by
          rw [O.x.N, O.x.scope]
          exact blkOk_by g3
        have sw := sw_true (elt := elt) (gs := [⟨t, it, ifs, 0⟩]) (l := pos.line) (env := X.env) hk hl k2 k3
        split at h6
        · refine PS.imp (ps_setLc (te := L X.K (wE C we)) (g := LG X.K tg) (tt := condT X.K none) O.x.calm O.x.nd hi hl sw hit hB hg (fun _ _ _ _ _ => pts_nil) he (nofold g2)) fun D τ Hc h => ?_
          rw [own_slots]
          obtain ⟨Z, σ, H, G, r, A, h, P⟩ := h.get
          refine L_lc (cond := none) (we := wE C we) (wi := wI C wi) (fz := fz) ⟨Z, σ, H, fun t H1 => G.nx (σ.set i (some t)) H1, r, A, ?_, fun t v H1 Hc1 rt A1 e1 q => P.nx _ _ H1 Hc1 ((r.ext e1).set rt) A1 e1 q⟩
          simp only [wE, h6, if_true] at h
          exact h
        · simp only [Bool.and_eq_true, Bool.not_eq_true'] at h6
          have hc := fun s H c cl fp => (okE_sound wc (O.x.blk s H _ c cl fp) h6.2).2
          refine PS.imp (ps_setLc (te := L X.K (wE C we)) (g := LG X.K tg) (tt := condT X.K (some (wE C wc))) O.x.calm O.x.nd hi hl sw hit hB hg (fun s H c cl fp => pts_one (hc s H c cl fp)) he (nofold g2)) fun D τ Hc h => ?_
          rw [own_slots]
          obtain ⟨Z, σ, H, G, r, A, h, P⟩ := h.get
          refine L_lc (cond := some (wE C wc)) (we := wE C we) (wi := wI C wi) (fz := fz) ⟨Z, σ, H, fun t H1 => G.nx (σ.set i (some t)) H1, r, A, ?_, fun t v H1 Hc1 rt A1 e1 q => P.nx _ _ H1 Hc1 ((r.ext e1).set rt) A1 e1 q⟩
          simp only [wE, h6.1, Bool.false_eq_true, if_false] at h
          exact h
        · cases h6
      unfold okE at h2
      split at h2 <;> (try contradiction)
      · rename_i hx
        cases hx
        refine go ?_
        unfold okE
        exact h2
    · cases k4
  | DictComp kx vx gs scope q =>
    unfold okSet at h3
    rw [Bool.or_eq_true] at h3
    by_cases hl : X.env.scope.names.lookup x = some .local
    case neg => exact plainr (sw_cell hl)
    have hv : locv sc x = true := by
      unfold locv
      rw [← O.x.scope, hl]
    rw [hv] at h3
    have h3 := h3.resolve_left Bool.false_ne_true
    simp only [Bool.and_eq_true] at h3
    obtain ⟨⟨⟨⟨k0, k1⟩, k2⟩, k3⟩, k4⟩ := h3
    rw [Bool.not_eq_true'] at k3
    have hk : X.env.scope.kind = .function := by
      rw [O.x.scope]
      split at k1
      · assumption
      · cases k1
    split at k4
    · rename_i t it
      have go : ∀ {tg : Tg} {wi : It} {wk wv : E}, okE I sc (.dc tg wi wk wv) (.DictComp kx vx [⟨t, it, [], 0⟩] scope q) = true →
          PS X (.Assign [.Name x p] (.DictComp kx vx [⟨t, it, [], 0⟩] scope q) pos) (LS X.K fun D σ H => wE C (.dc tg wi wk wv) σ H fun t H1 => D.nx (σ.set i (some t)) H1) := by
        intro tg wi wk wv g0
        clear h2 plainr
        unfold okE at g0
        simp only [Bool.and_eq_true] at g0
        obtain ⟨⟨⟨⟨⟨g1, g2⟩, g3⟩, g4⟩, g5⟩, g6⟩ := g0
        have hit := okI_sound wi O.x (t := t) g1
        have hg := fun s H c cl fp => okG_sound (O.x.blk s H _ c cl fp) (top := false) (fun z => by cases z) g4
        have hkk := fun s H c cl fp => (okE_sound wk (O.x.blk s H _ c cl fp) g5).1
        have hv := fun s H c cl fp => (okE_sound wv (O.x.blk s H _ c cl fp) g6).1
        have hB : BlkOk X.N X.env.scope scope (ownOf I tg) := by
          rw [O.x.N, O.x.scope]
          exact blkOk_by g3
        have sw := sw_trueD (kx := kx) (vx := vx) (gs := [⟨t, it, [], 0⟩]) (l := pos.line) (env := X.env) hk hl k2 k3
        refine PS.imp (ps_setDc (tk := L X.K (wE C wk)) (tv := L X.K (wE C wv)) (g := LG X.K tg) ⟨O.x.calm, O.x.nd⟩ hi hl sw hit hB hg hkk hv (nofold g2)) fun D τ Hc h => ?_
        rw [own_slots]
        obtain ⟨Z, σ, H, G, r, A, h, P⟩ := h.get
        exact L_dc ⟨Z, σ, H, fun t H1 => G.nx (σ.set i (some t)) H1, r, A, h, fun t v H1 Hc1 rt A1 e1 q => P.nx _ _ H1 Hc1 ((r.ext e1).set rt) A1 e1 q⟩
      unfold okE at h2
      split at h2 <;> (try contradiction)
      · rename_i hx
        cases hx
        refine go ?_
        unfold okE
        exact h2
    · cases k4
  | SetComp _ _ _ _ => exact nope h3 rfl
  | _ => exact plainr rfl
mutual
theorem okS_sound : ∀ (s : S) {sc : Scope} {X : Cx} (_ : SOk I C sc X) {x : Stmt} (_ : okS I sc s x = true), PS X x (LS X.K (wS C s))
  | .set i e, sc, X, O, x, h => by
    unfold okS at h
    split at h <;> (try contradiction)
    rename_i hx
    cases hx
    simp only [Bool.and_eq_true] at h
    exact set_rule O h.1.1 h.1.2 h.2
  | .unp is e, sc, X, O, x, h => by
    unfold okS at h
    split at h <;> (try contradiction)
    rename_i hx
    cases hx
    simp only [Bool.and_eq_true] at h
    obtain ⟨⟨h1, h2⟩, h3⟩ := h
    exact PS.imp (ps_asg (okE_sound e O.x h2).1 (okG_sound O.x (fun _ => O.fn) h1) (plainV_sw h3).1 (plainV_sw (n := 0) h3).2) fun _ _ _ q => S_unp q
  | .setix o i e, sc, X, O, x, h => by
    unfold okS at h
    split at h <;> (try contradiction)
    rename_i hx
    cases hx
    simp only [Bool.and_eq_true] at h
    obtain ⟨⟨⟨⟨h1, h2⟩, h3⟩, h4⟩, h5⟩ := h
    exact PS.imp (ps_asg (okE_sound e O.x h3).1 (pg_sub (okE_sound o O.x h1).1 (okE_sound i O.x h2).1 (t_set (by have := O.x.hu; omega)) (assign_sub h5)) (plainW_sub h4).1 (plainW_sub (n := 0) h4).2) fun _ _ _ q => S_setix q
  | .aug i e, sc, X, O, x, h => by
    unfold okS at h
    split at h <;> (try contradiction)
    rename_i hx
    cases hx
    simp only [Bool.and_eq_true] at h
    obtain ⟨hi, hl, hf⟩ := okX_loc O.x (fun _ => O.fn) h.1
    exact PS.imp (ps_aug O.x.nd hi hl (okE_sound e O.x h.2).1 t_aug hf) fun _ _ _ q => S_aug q
  | .expr e, sc, X, O, x, h => by
    unfold okS at h
    split at h <;> (try contradiction)
    rename_i hx
    cases hx
    simp only [Bool.and_eq_true] at h
    exact PS.imp (ps_expr (okE_sound e O.x h.1).1 (plainW_drop h.2)) fun _ _ _ q => S_expr q
  | .ret e, sc, X, O, x, h => by
    unfold okS at h
    split at h <;> (try contradiction)
    rename_i hx
    cases hx
    exact PS.imp (ps_ret (okE_sound e O.x h).1) fun _ _ _ q => S_ret q
  | .retN, sc, X, O, x, h => by
    unfold okS at h
    split at h <;> (try contradiction)
    exact PS.imp ps_retN fun _ _ _ q => S_retN q
  | .ife c a b, sc, X, O, x, h => by
    unfold okS at h
    split at h <;> (try contradiction)
    rename_i hx
    cases hx
    simp only [Bool.and_eq_true] at h
    obtain ⟨⟨h1, h2⟩, h3⟩ := h
    exact PS.imp (ps_if (okE_sound c O.x h1).2 (okSs_sound a O h2) (okSs_sound b O h3)) fun _ _ _ q => S_ife q
  | .for_ tg it body, sc, X, O, x, h => by
    unfold okS at h
    split at h <;> (try contradiction)
    rename_i hx
    cases hx
    simp only [Bool.and_eq_true] at h
    obtain ⟨⟨⟨h1, h2⟩, h3⟩, h4⟩ := h
    exact PS.imp (ps_for O.hp O.x.calm (okI_sound it O.x h2) (okG_sound O.x (fun _ => O.fn) h1) (okSs_sound body O h4) (nofold h3)) fun _ _ _ q => S_for q
  | .while_ c body, sc, X, O, x, h => by
    unfold okS at h
    split at h <;> (try contradiction)
    rename_i hx
    cases hx
    simp only [Bool.and_eq_true] at h
    exact PS.imp (ps_while O.hp (okE_sound c O.x h.1).2 (okSs_sound body O h.2)) fun _ _ _ q => S_while q
  | .pass, sc, X, O, x, h => by
    unfold okS at h
    split at h <;> (try contradiction)
    exact PS.imp ps_pass fun _ _ _ q => S_nx q
  | .brk, sc, X, O, x, h => by
    unfold okS at h
    split at h <;> (try contradiction)
    exact PS.imp ps_break fun _ _ _ q => S_bk q
  | .cont, sc, X, O, x, h => by
    unfold okS at h
    split at h <;> (try contradiction)
    exact PS.imp ps_continue fun _ _ _ q => S_ct q
  | .never, sc, X, O, x, h => PS.imp ps_never fun _ _ _ q => by
    obtain ⟨_, _, _, _, _, _, h, _⟩ := q
    exact h.elim
theorem okSs_sound : ∀ (s : Ss) {sc : Scope} {X : Cx} (_ : SOk I C sc X) {xs : List Stmt} (_ : okSs I sc s xs = true), PSs X xs (LS X.K (wSs C s))
  | .nil, sc, X, O, [], h => PSs.imp pss_nil fun _ _ _ q => S_nx q
  | .cons s r, sc, X, O, x :: xs, h => by
    have h : (okS I sc s x && okSs I sc r xs) = true := h
    rw [Bool.and_eq_true] at h
    exact PSs.imp (pss_cons (okS_sound s O h.1) (okSs_sound r O h.2)) fun _ _ _ q => S_seq q
  | .nil, _, _, _, _ :: _, h => nope h rfl
  | .cons _ _, _, _, _, [], h => nope h rfl
end
end
/-! ### a def -/
/-- the def at its name keeps a promise over trees, by at most level k -/
structure DefAt (P : Program) (w : World) (K : PySem.W.Frag) (mg : Str → Option Value) (base : Heap) (k : Nat) (x : Str) (sp : TSp) : Prop where
  ex : ∃ j f fd ps, j ≤ k ∧ FnOk P w K mg base CX0 j f fd ps (liftSp K sp) ∧ mg x = some (.ref f) ∧ PySem.W.keepIn K (.ref f) = true ∧ Binds K fd ps []
def bltNames : List Str := ["len", "tuple", "sorted", "list", "all", "any", "sum", "max", "min", "int", "isinstance", "range", "bool", "str", "set"]
theorem DefAt.mono {P : Program} {w : World} {K : PySem.W.Frag} {mg : Str → Option Value} {base : Heap} {k k' : Nat} {x : Str} {sp : TSp} (h : DefAt P w K mg base k x sp) (e : k ≤ k') : DefAt P w K mg base k' x sp := by
  obtain ⟨j, f, fd, ps, hj, r⟩ := h.ex
  exact ⟨j, f, fd, ps, by omega, r⟩
/-- what stands around all defs -/
structure Top (K : PySem.W.Frag) (mg : Str → Option Value) : Prop where
  blt : ∀ x ∈ bltNames, mg x = none
/-- behind a body: what is not wanted any more is let go -/
def bodyEnds (Q : KT) : TEnds where
  nx := fun _ H' => ∃ H'', Sub H'' H' ∧ Q .non H''
  rt := fun t H' => ∃ H'', Sub H'' H' ∧ Q t H''
def start0 (N : List Str) (ts : List T) : TSt := ts.map some ++ List.replicate (N.length - ts.length) none
theorem reps_start {K : PySem.W.Frag} {Z : Addr → Prop} {H : TH} {Hc : Hp} {N : List Str} {ts : List T} {vs : List V} (r : Reps K Z H Hc ts vs) : RepS K Z H Hc (start0 N ts) (L2.start N vs) := by
  have hl := r.length
  refine ⟨by simp [start0, L2.start, hl], fun i t q => ?_⟩
  unfold start0 at q
  unfold L2.start
  by_cases h : i < ts.length
  · rw [List.getElem?_append_left (by simpa using h), List.getElem?_map] at q
    rw [List.getElem?_append_left (by rw [List.length_map, ← hl]; exact h), List.getElem?_map]
    cases e : ts[i]? with
    | none => rw [e] at q; cases q
    | some u =>
      rw [e] at q
      cases q
      obtain ⟨v, e2, r2⟩ := r.get e
      exact ⟨v, by rw [e2]; rfl, r2⟩
  · rw [List.getElem?_append_right (by simpa using h), List.getElem?_replicate] at q
    split at q <;> cases q
theorem fn_ok {P : Program} {w : World} {K : PySem.W.Frag} {mg : Str → Option Value} {base : Heap} {x qual : Str} {st : Stmt} {f : Addr} {fd : FuncData} {N ps Fs : List Str} {k : Nat} {sp : TSp} {C : Nat → TSp} (b : Ss)
    (F : Fun K x qual st f fd) (S : FnScope N ps (defScope st)) (T : Top K mg) 
    (hc : ∀ i y, Fs[i]? = some y → DefAt P w K mg base k y (C i)) (ok : okSs ⟨N, Fs⟩ (defScope st) b (defBody st) = true)
    (len : ∀ ts H Q, sp ts H Q → ts.length = ps.length) (h : ∀ ts H Q, sp ts H Q → wSs C b (bodyEnds Q) (start0 N ts) H) : FnOk P w K mg base CX0 (k + 1) f fd ps (liftSp K sp) := by
  refine F.ok S (fun vs H Q E q => ?_) (fun cdv A outer s Hc vs R E hr q => ?_)
  · obtain ⟨Z, H, ts, Q, _, r, q, _⟩ := q
    rw [← r.length]
    exact len _ _ _ q
  · obtain ⟨Z, H, ts, Q, A', r, q, P'⟩ := q
    have O : SOk ⟨N, Fs⟩ C (defScope st) (cxOf CX0 P w K mg base N qual (defScope st) f cdv A outer s Hc E).nox := {
      x := {
        N := rfl
        nd := S.nd
        scope := rfl
        calm := rfl
        hu := by have := hr.un; show (A.deeper _).units + 200 < cLine; omega
        blt := T.blt
        fns := fun i y hy => by
          obtain ⟨j, f', fd', ps', hj, F', hm', hk', hb'⟩ := (hc i y hy).ex
          exact ⟨j, f', fd', ps', F', hr.mono hj, hm', hk', hb'⟩ }
      hp := PassesOwn.never
      fn := fun _ => rfl }
    refine ⟨_, okSs_sound b O ok, LS.mk (reps_start r) A' (h ts H Q q) ⟨fun σ' τ' H' Hc' _ A2 e q => ?_, fun t v H' Hc' rt A2 e q => ?_, fun _ _ _ _ _ _ _ z => z.elim, fun _ _ _ _ _ _ _ z => z.elim⟩⟩
    · obtain ⟨H2, s2, q⟩ := q
      exact P' _ _ H2 Hc' (rep_non.mpr rfl) (A2.sub s2) (e.trans s2.ext) q
    · obtain ⟨H2, s2, q⟩ := q
      exact P' _ _ H2 Hc' (Rep.ext s2.ext _ _ rt) (A2.sub s2) (e.trans s2.ext) q
theorem def_ok {P : Program} {w : World} {K : PySem.W.Frag} {mg : Str → Option Value} {base : Heap} {x qual : Str} {st : Stmt} {f : Addr} {fd : FuncData} {N ps Fs : List Str} {k : Nat} {sp : TSp} {C : Nat → TSp} (b : Ss)
    (F : Fun K x qual st f fd) (S : FnScope N ps (defScope st)) (T : Top K mg) (hm : mg x = some (.ref f)) (hb : Binds K fd ps [])
    (hc : ∀ i y, Fs[i]? = some y → DefAt P w K mg base k y (C i)) (ok : okSs ⟨N, Fs⟩ (defScope st) b (defBody st) = true)
    (len : ∀ ts H Q, sp ts H Q → ts.length = ps.length) (h : ∀ ts H Q, sp ts H Q → wSs C b (bodyEnds Q) (start0 N ts) H) : DefAt P w K mg base (k + 1) x sp :=
  ⟨k + 1, f, fd, ps, Nat.le_refl _, fn_ok b F S T hc ok len h, hm, F.kp, hb⟩
/-- the law's entry: the script alone stands there -/
theorem law_start {K : PySem.W.Frag} {sp : TSp} {Hc : Hp} {a : Addr} {ns : List Int} {R : VK} {E : XK} (hO : Only Hc) (hS : SqL K Hc a (ns.map V.int)) {Q : KT} (q : sp [.scr (ns.map T.int)] (fun _ => none) Q) (hR : ∀ v Hc', Q (.bl true) (fun _ => none) → v = .bl true → R v Hc')
    (hQ : ∀ t H', Q t H' → t = .bl true) : liftSp K sp [.ref a] Hc (fun v _ => v = .bl true) E := by
  refine ⟨fun _ => False, fun _ => none, _, Q, ⟨fun _ _ h => (by cases h), fun _ h => h.elim⟩, ?_, q, fun t v H' Hc' r _ _ h => ?_⟩
  · refine reps_cons.mpr ⟨_, [], rfl, rep_scr.mpr ⟨a, _, rfl, ?_, (reps_ints ns).mpr rfl⟩, reps_nil.mpr rfl⟩
    rcases hS with (h | h) | h
    · rcases hO a with z | ⟨o, xs, z⟩
      · rw [z] at h
        cases h
      · rw [z] at h
        cases h
    · exact .inl ⟨h, rfl⟩
    · exact .inr h
  · rw [hQ t H' h] at r
    exact rep_bl.mp r
end TL
set_option maxRecDepth 100000
namespace TL
open PySem PySem.Spec L2
/-! ### words for walking -/
theorem lk_0 {x : Option T} {r : TSt} : lk (x :: r) 0 = x := rfl
theorem lk_s {x : Option T} {r : TSt} {n : Nat} : lk (x :: r) (n + 1) = lk r n := rfl
theorem st_0 {x y : Option T} {r : TSt} : List.set (x :: r) 0 y = y :: r := rfl
theorem st_s {x y : Option T} {r : TSt} {n : Nat} : List.set (x :: r) (n + 1) y = x :: List.set r n y := rfl
abbrev nT (n : Nat) : T := .int (n : Int)
abbrev nTs (l : List Nat) : T := .tup (l.map nT)
abbrev iTs (l : List Int) : T := .tup (l.map T.int)
def oT : Option Int → T
  | none => .non
  | some i => .int i
abbrev oTs (l : List (Option Int)) : T := .tup (l.map oT)
/-- a turn of a loop -/
def loopB (C : Nat → TSp) (tg : Tg) (body : Ss) : T → TEnds → TSt → TH → Prop := fun x D' σ' H2 => match tg.put x σ' with
  | some σ'' => wSs C body D' σ'' H2
  | none => False
theorem wS_for {C : Nat → TSp} {tg : Tg} {it : It} {body : Ss} {D : TEnds} {σ : TSt} {H : TH} : wS C (.for_ tg it body) D σ H = wI C it σ H fun ck xs H1 => forGo ck (loopB C tg body) xs D σ H1 := rfl
theorem wS_while {C : Nat → TSp} {c : E} {body : Ss} {D : TEnds} {σ : TSt} {H : TH} : wS C (.while_ c body) D σ H = ∃ n, whGo (wE C c) (wSs C body) n D σ H := rfl
theorem loopB_n {C : Nat → TSp} {i : Nat} {body : Ss} {x : T} {D : TEnds} {σ : TSt} {H : TH} : loopB C (.n i) body x D σ H = wSs C body D (σ.set i (some x)) H := rfl
theorem forGo_nil {ck : TH → Prop} {B : T → TEnds → TSt → TH → Prop} {D : TEnds} {σ : TSt} {H : TH} : forGo ck B [] D σ H = (ck H ∧ D.nx σ H) := rfl
theorem forGo_cons {ck : TH → Prop} {B : T → TEnds → TSt → TH → Prop} {x : T} {r : List T} {D : TEnds} {σ : TSt} {H : TH} :
    forGo ck B (x :: r) D σ H = (ck H ∧ B x { nx := forGo ck B r D, rt := D.rt, bk := D.nx, ct := forGo ck B r D } σ H) := rfl
section
variable {C : Nat → TSp} {D : TEnds} {σ : TSt} {H : TH} {Q : KT}
theorem wSs_nil : wSs C .nil D σ H = D.nx σ H := rfl
theorem wSs_cons {s : S} {r : Ss} : wSs C (.cons s r) D σ H = wS C s { nx := wSs C r D, rt := D.rt, bk := D.bk, ct := D.ct } σ H := rfl
theorem wS_set {i : Nat} {e : E} : wS C (.set i e) D σ H = wE C e σ H fun t H1 => D.nx (σ.set i (some t)) H1 := rfl
theorem wS_unp {is : List Nat} {e : E} : wS C (.unp is e) D σ H = wE C e σ H fun t H1 => match (Tg.t is).put t σ with
    | some σ' => D.nx σ' H1
    | none => False := rfl
theorem wS_setix {o i e : E} : wS C (.setix o i e) D σ H = wE C e σ H fun w H1 => wE C o σ H1 fun t H2 => wE C i σ H2 fun u H3 => oSet t u w H3 fun H4 => D.nx σ H4 := rfl
theorem wS_aug {i : Nat} {e : E} : wS C (.aug i e) D σ H = match lk σ i with
    | some t => wE C e σ H fun u H1 => oAug t u H1 fun z H2 => D.nx (σ.set i (some z)) H2
    | none => False := rfl
theorem wS_expr {e : E} : wS C (.expr e) D σ H = wE C e σ H fun _ H1 => D.nx σ H1 := rfl
theorem wS_ret {e : E} : wS C (.ret e) D σ H = wE C e σ H D.rt := rfl
theorem wS_retN : wS C .retN D σ H = D.rt .non H := rfl
theorem wS_ife {c : E} {a b : Ss} : wS C (.ife c a b) D σ H = wE C c σ H fun t H1 => match t with
    | .bl true => wSs C a D σ H1
    | .bl false => wSs C b D σ H1
    | _ => False := rfl
theorem wS_pass : wS C .pass D σ H = D.nx σ H := rfl
theorem wS_brk : wS C .brk D σ H = D.bk σ H := rfl
theorem wS_cont : wS C .cont D σ H = D.ct σ H := rfl
theorem wE_v {i : Nat} : wE C (.v i) σ H Q = match lk σ i with
    | some t => Q t H
    | none => False := rfl
theorem wE_non : wE C .non σ H Q = Q .non H := rfl
theorem wE_bl {b : Bool} : wE C (.bl b) σ H Q = Q (.bl b) H := rfl
theorem wE_int {n : Int} : wE C (.int n) σ H Q = Q (.int n) H := rfl
theorem wE_str {x : Str} : wE C (.str x) σ H Q = Q (.str x) H := rfl
theorem wE_neg {a : E} : wE C (.neg a) σ H Q = wE C a σ H fun t H1 => match t with
    | .int n => Q (.int (-n)) H1
    | _ => False := rfl
theorem wE_op {o : Op2} {a b : E} : wE C (.op o a b) σ H Q = wE C a σ H fun x H1 => wE C b σ H1 fun y H2 => o.o x y H2 Q := rfl
theorem wE_cmp {o : Cm} {a b : E} : wE C (.cmp o a b) σ H Q = wE C a σ H fun x H1 => wE C b σ H1 fun y H2 => o.o x y H2 Q := rfl
theorem wE_chain {o o' : Cm} {a b c : E} : wE C (.chain o o' a b c) σ H Q = wE C a σ H fun x H1 => wE C b σ H1 fun y H2 => o.o x y H2 fun z H3 => match z with
    | .bl true => wE C c σ H3 fun u H4 => o'.o y u H4 Q
    | .bl false => Q (.bl false) H3
    | _ => False := rfl
theorem wE_and {a b : E} : wE C (.and a b) σ H Q = wE C a σ H fun x H1 => match x with
    | .bl true => wE C b σ H1 Q
    | .bl false => Q (.bl false) H1
    | _ => False := rfl
theorem wE_or {a b : E} : wE C (.or a b) σ H Q = wE C a σ H fun x H1 => match x with
    | .bl true => Q (.bl true) H1
    | .bl false => wE C b σ H1 Q
    | _ => False := rfl
theorem wE_not {a : E} : wE C (.not a) σ H Q = wE C a σ H fun x H1 => match x with
    | .bl b => Q (.bl (!b)) H1
    | _ => False := rfl
theorem wE_ite {c a b : E} : wE C (.ite c a b) σ H Q = wE C c σ H fun x H1 => match x with
    | .bl true => wE C a σ H1 Q
    | .bl false => wE C b σ H1 Q
    | _ => False := rfl
theorem wE_ix {a i : E} : wE C (.ix a i) σ H Q = wE C a σ H fun x H1 => wE C i σ H1 fun y H2 => oIx x y H2 Q := rfl
theorem wE_sl {fz : Bool} {a lo hi : E} : wE C (.sl fz a lo hi) σ H Q = wE C a σ H fun x H1 => (if isNop lo = true then fun R => R none H1 else fun R => wE C lo σ H1 fun t H2 => asInt t H2 R) fun l H2 =>
    (if isNop hi = true then fun R => R none H2 else fun R => wE C hi σ H2 fun t H3 => asInt t H3 R) fun u H3 => oSl fz x l u H3 Q := rfl
theorem wE_tup {es : Es} : wE C (.tup es) σ H Q = wEs C es σ H fun ts H1 => ts.length ≤ sizeLine ∧ Q (.tup ts) H1 := rfl
theorem wE_lst {fz : Bool} {es : Es} : wE C (.lst fz es) σ H Q = wEs C es σ H fun ts H1 => ts.length ≤ sizeLine ∧ mk fz ts H1 Q := rfl
theorem wE_dnew : wE C .dnew σ H Q = ∀ p, H p = none → Q (.ref p) (up H p (.dk [])) := rfl
theorem wE_call {k : Nat} {es : Es} : wE C (.call k es) σ H Q = wEs C es σ H fun ts H1 => C k ts H1 Q := rfl
theorem wE_bi {f : BI} {es : Es} : wE C (.bi f es) σ H Q = wEs C es σ H fun ts H1 => f.o ts H1 Q := rfl
theorem wE_isi {a : E} {y : Ty} : wE C (.isi a y) σ H Q = wE C a σ H fun t H1 => cIsinst y [t] H1 Q := rfl
theorem wE_me {m : ME} {o : E} {es : Es} : wE C (.me m o es) σ H Q = wE C o σ H fun t H1 => recv m.rv t H1 ∧ wEs C es σ H1 fun ts H2 => m.o t ts H2 Q := rfl
theorem wE_lc0 {fz : Bool} {tg : Tg} {it : It} {elt : E} : wE C (.lc fz tg it elt .nop) σ H Q = wI C it σ H fun ck xs H1 => lcGo ck (bodyC tg none (wE C elt) σ) xs [] H1 fun acc H2 => mk fz acc H2 Q := rfl
theorem nop_cmp {o : Cm} {a b : E} : isNop (.cmp o a b) = false := rfl
theorem nop_chain {o o' : Cm} {a b c : E} : isNop (.chain o o' a b c) = false := rfl
theorem nop_and {a b : E} : isNop (.and a b) = false := rfl
theorem nop_or {a b : E} : isNop (.or a b) = false := rfl
theorem nop_not {a : E} : isNop (.not a) = false := rfl
theorem nop_call {k : Nat} {es : Es} : isNop (.call k es) = false := rfl
theorem nop_bi {f : BI} {es : Es} : isNop (.bi f es) = false := rfl
theorem nop_ite {a b c : E} : isNop (.ite a b c) = false := rfl
theorem nop_ix {a b : E} : isNop (.ix a b) = false := rfl
theorem nop_v {i : Nat} : isNop (.v i) = false := rfl
theorem nop_int {i : Int} : isNop (.int i) = false := rfl
theorem nop_op {o : Op2} {a b : E} : isNop (.op o a b) = false := rfl
theorem nop_neg {a : E} : isNop (.neg a) = false := rfl
theorem nop_nop : isNop .nop = true := rfl
theorem wE_lc1 {fz : Bool} {tg : Tg} {it : It} {elt cond : E} (h : isNop cond = false) : wE C (.lc fz tg it elt cond) σ H Q = wI C it σ H fun ck xs H1 => lcGo ck (bodyC tg (some (wE C cond)) (wE C elt) σ) xs [] H1 fun acc H2 => mk fz acc H2 Q := by
  simp only [wE, h, Bool.false_eq_true, if_false]
  rfl
theorem wE_lc_cmp {fz : Bool} {tg : Tg} {it : It} {elt : E} {o : Cm} {a b : E} : wE C (.lc fz tg it elt (.cmp o a b)) σ H Q = wI C it σ H fun ck xs H1 => lcGo ck (bodyC tg (some (wE C (.cmp o a b))) (wE C elt) σ) xs [] H1 fun acc H2 => mk fz acc H2 Q := wE_lc1 rfl
theorem wE_lc_chain {fz : Bool} {tg : Tg} {it : It} {elt : E} {o o' : Cm} {a b c : E} : wE C (.lc fz tg it elt (.chain o o' a b c)) σ H Q = wI C it σ H fun ck xs H1 => lcGo ck (bodyC tg (some (wE C (.chain o o' a b c))) (wE C elt) σ) xs [] H1 fun acc H2 => mk fz acc H2 Q := wE_lc1 rfl
theorem wE_lc_and {fz : Bool} {tg : Tg} {it : It} {elt : E} {a b : E} : wE C (.lc fz tg it elt (.and a b)) σ H Q = wI C it σ H fun ck xs H1 => lcGo ck (bodyC tg (some (wE C (.and a b))) (wE C elt) σ) xs [] H1 fun acc H2 => mk fz acc H2 Q := wE_lc1 rfl
theorem wE_lc_or {fz : Bool} {tg : Tg} {it : It} {elt : E} {a b : E} : wE C (.lc fz tg it elt (.or a b)) σ H Q = wI C it σ H fun ck xs H1 => lcGo ck (bodyC tg (some (wE C (.or a b))) (wE C elt) σ) xs [] H1 fun acc H2 => mk fz acc H2 Q := wE_lc1 rfl
theorem wE_lc_not {fz : Bool} {tg : Tg} {it : It} {elt : E} {a : E} : wE C (.lc fz tg it elt (.not a)) σ H Q = wI C it σ H fun ck xs H1 => lcGo ck (bodyC tg (some (wE C (.not a))) (wE C elt) σ) xs [] H1 fun acc H2 => mk fz acc H2 Q := wE_lc1 rfl
theorem wE_lc_call {fz : Bool} {tg : Tg} {it : It} {elt : E} {k : Nat} {es : Es} : wE C (.lc fz tg it elt (.call k es)) σ H Q = wI C it σ H fun ck xs H1 => lcGo ck (bodyC tg (some (wE C (.call k es))) (wE C elt) σ) xs [] H1 fun acc H2 => mk fz acc H2 Q := wE_lc1 rfl
theorem wE_lc_bi {fz : Bool} {tg : Tg} {it : It} {elt : E} {f : BI} {es : Es} : wE C (.lc fz tg it elt (.bi f es)) σ H Q = wI C it σ H fun ck xs H1 => lcGo ck (bodyC tg (some (wE C (.bi f es))) (wE C elt) σ) xs [] H1 fun acc H2 => mk fz acc H2 Q := wE_lc1 rfl
theorem wE_lc_ite {fz : Bool} {tg : Tg} {it : It} {elt : E} {a b c : E} : wE C (.lc fz tg it elt (.ite a b c)) σ H Q = wI C it σ H fun ck xs H1 => lcGo ck (bodyC tg (some (wE C (.ite a b c))) (wE C elt) σ) xs [] H1 fun acc H2 => mk fz acc H2 Q := wE_lc1 rfl
theorem wE_lc_ix {fz : Bool} {tg : Tg} {it : It} {elt : E} {a b : E} : wE C (.lc fz tg it elt (.ix a b)) σ H Q = wI C it σ H fun ck xs H1 => lcGo ck (bodyC tg (some (wE C (.ix a b))) (wE C elt) σ) xs [] H1 fun acc H2 => mk fz acc H2 Q := wE_lc1 rfl
theorem wE_lc_v {fz : Bool} {tg : Tg} {it : It} {elt : E} {i : Nat} : wE C (.lc fz tg it elt (.v i)) σ H Q = wI C it σ H fun ck xs H1 => lcGo ck (bodyC tg (some (wE C (.v i))) (wE C elt) σ) xs [] H1 fun acc H2 => mk fz acc H2 Q := wE_lc1 rfl
/-- the turns of a dict comprehension -/
def bodyD (C : Nat → TSp) (tg : Tg) (k v : E) (σ : TSt) : T → TH → (T → T → TH → Prop) → Prop := fun x H2 G => match tg.put x σ with
  | some σ' => wE C k σ' H2 fun y H3 => wE C v σ' H3 fun z H4 => G y z H4
  | none => False
theorem wE_dc {tg : Tg} {it : It} {k v : E} : wE C (.dc tg it k v) σ H Q = wI C it σ H fun ck xs H1 => dcGo ck (bodyD C tg k v σ) xs [] H1 fun acc H2 => ∀ p, H2 p = none → Q (.ref p) (up H2 p (.dk acc)) := rfl
theorem wE_sset {fz : Bool} {a : E} : wE C (.sset fz a) σ H Q = wE C a σ H fun t H1 => ssetT fz t H1 Q := rfl
theorem wE_frz {a : E} : wE C (.frz a) σ H Q = wE C a σ H fun t H1 => frzT t H1 Q := rfl
theorem wEs_nil {Q : List T → TH → Prop} : wEs C .nil σ H Q = Q [] H := rfl
theorem wEs_cons {e : E} {r : Es} {Q : List T → TH → Prop} : wEs C (.cons e r) σ H Q = wE C e σ H fun t H1 => wEs C r σ H1 fun ts H2 => Q (t :: ts) H2 := rfl
theorem wI_over {a : E} {R : (TH → Prop) → List T → TH → Prop} : wI C (.over a) σ H R = wE C a σ H fun t H1 => overT t H1 R := rfl
theorem wI_rng1 {a : E} {R : (TH → Prop) → List T → TH → Prop} : wI C (.rng1 a) σ H R = wE C a σ H fun t H1 => match t with
    | .int n => rngT 0 n H1 R
    | _ => False := rfl
theorem wI_rng2 {a b : E} {R : (TH → Prop) → List T → TH → Prop} : wI C (.rng2 a b) σ H R = wE C a σ H fun t H1 => wE C b σ H1 fun u H2 => match t, u with
    | .int m, .int n => rngT m n H2 R
    | _, _ => False := rfl
theorem bodyC_n {i : Nat} {we : WE} {x : T} {G : Option T → TH → Prop} : bodyC (.n i) none we σ x H G = we (σ.set i (some x)) H fun y H3 => G (some y) H3 := rfl
theorem bodyC_n1 {i : Nat} {wc we : WE} {x : T} {G : Option T → TH → Prop} : bodyC (.n i) (some wc) we σ x H G = wc (σ.set i (some x)) H fun c H3 => match c with
      | .bl true => we (σ.set i (some x)) H3 fun y H4 => G (some y) H4
      | .bl false => G none H3
      | _ => False := rfl
theorem bodyD_n {i : Nat} {k v : E} {x : T} {G : T → T → TH → Prop} : bodyD C (.n i) k v σ x H G = wE C k (σ.set i (some x)) H fun y H3 => wE C v (σ.set i (some x)) H3 fun z H4 => G y z H4 := rfl
theorem rtn {Q : KT} {t : T} {H : TH} (q : Q t H) : (bodyEnds Q).rt t H := ⟨H, Sub.refl, q⟩
theorem mk_t {ts : List T} : mk true ts H Q = Q (.lst ts) H := rfl
theorem mk_f {ts : List T} : mk false ts H Q = ∀ p, H p = none → Q (.ref p) (up H p (.lst ts)) := rfl
end
/-- a comprehension whose turns leave the heap as it is -/
theorem lc_pure {α : Type} {ck : TH → Prop} {body : T → TH → (Option T → TH → Prop) → Prop} {enc : α → T} {f : α → Option T} {H : TH} (hck : ck H) : ∀ {xs : List α} {acc : List T} {K : List T → TH → Prop},
    (∀ a ∈ xs, ∀ G, G (f a) H → body (enc a) H G) → acc.length + xs.length ≤ sizeLine → K (acc ++ xs.filterMap f) H → lcGo ck body (xs.map enc) acc H K
  | [], acc, K, _, _, hK => ⟨hck, by simpa using hK⟩
  | x :: xs, acc, K, hb, hl, hK => by
    refine ⟨hck, hb x List.mem_cons_self _ ?_⟩
    have hb' := fun a (ha : a ∈ xs) => hb a (List.mem_cons_of_mem _ ha)
    rw [List.length_cons] at hl
    cases e : f x with
    | none =>
      rw [List.filterMap_cons_none e] at hK
      exact lc_pure hck hb' (by omega) hK
    | some y =>
      rw [List.filterMap_cons_some e] at hK
      refine ⟨by omega, lc_pure hck hb' (by rw [List.length_append, List.length_singleton]; omega) ?_⟩
      rw [List.append_assoc]
      exact hK
/-- .. that takes all -/
theorem lc_map {α : Type} {ck : TH → Prop} {body : T → TH → (Option T → TH → Prop) → Prop} {enc : α → T} {f : α → T} {H : TH} (hck : ck H) {xs : List α} {K : List T → TH → Prop}
    (hb : ∀ a ∈ xs, ∀ G, G (some (f a)) H → body (enc a) H G) (hl : xs.length ≤ sizeLine) (hK : K (xs.map f) H) : lcGo ck body (xs.map enc) [] H K := by
  refine lc_pure (f := fun a => some (f a)) hck hb (by simpa using hl) ?_
  rw [List.nil_append, List.filterMap_eq_map']
  exact hK
/-- .. that takes some -/
theorem lc_filter {α : Type} {ck : TH → Prop} {body : T → TH → (Option T → TH → Prop) → Prop} {enc : α → T} {p : α → Bool} {f : α → T} {H : TH} (hck : ck H) {xs : List α} {K : List T → TH → Prop}
    (hb : ∀ a ∈ xs, ∀ G, G (if p a = true then some (f a) else none) H → body (enc a) H G) (hl : xs.length ≤ sizeLine) (hK : K ((xs.filter p).map f) H) : lcGo ck body (xs.map enc) [] H K := by
  refine lc_pure (f := fun a => if p a = true then some (f a) else none) hck hb (by simpa using hl) ?_
  have e : ∀ l : List α, l.filterMap (fun a => if p a = true then some (f a) else none) = (l.filter p).map f := by
    intro l
    induction l with
    | nil => rfl
    | cons a l ih =>
      by_cases h : p a = true
      · rw [List.filterMap_cons_some (b := f a) (by rw [if_pos h]), List.filter_cons_of_pos h, List.map_cons, ih]
      · rw [List.filterMap_cons_none (by rw [if_neg h]), List.filter_cons_of_neg h, ih]
  rw [List.nil_append, e]
  exact hK
/-! the operations at such values -/
theorem oT_s {i : Int} : oT (some i) = .int i := rfl
theorem oT_n : oT none = .non := rfl
theorem ix_at {α : Type} {f : α → T} {l : List α} {n : Nat} {a : α} {H : TH} {Q : KT} (h : l[n]? = some a) : oIx (.tup (l.map f)) (.int (n : Int)) H Q = Q (f a) H := by
  have e : atI (l.map f) (n : Int) = some (f a) := atI_nat (by rw [List.getElem?_map, h]; rfl)
  simp only [oIx, seqOf, e]
theorem ix_lit {ts : List T} {i : Int} {x : T} {H : TH} {Q : KT} (h : atI ts i = some x) : oIx (.tup ts) (.int i) H Q = Q x H := by
  simp only [oIx, seqOf, h]
theorem ix_0 {a : T} {r : List T} {H : TH} {Q : KT} : oIx (.tup (a :: r)) (.int 0) H Q = Q a H := ix_lit (atI_nat (j := 0) rfl)
theorem ix_1 {a b : T} {r : List T} {H : TH} {Q : KT} : oIx (.tup (a :: b :: r)) (.int 1) H Q = Q b H := ix_lit (atI_nat (j := 1) rfl)
theorem ix_2 {a b c : T} {r : List T} {H : TH} {Q : KT} : oIx (.tup (a :: b :: c :: r)) (.int 2) H Q = Q c H := ix_lit (atI_nat (j := 2) rfl)
theorem flat_ints (l : List Int) : (l.map T.int).all flatT = true := by
  rw [List.all_map]
  exact List.all_eq_true.mpr fun _ _ => rfl
theorem flat_nats (l : List Nat) : (l.map nT).all flatT = true := by
  rw [List.all_map]
  exact List.all_eq_true.mpr fun _ _ => rfl
theorem eqT_int {i j : Int} : eqT (.int i) (.int j) = decide (i = j) := by simp [eqT, toD, PyData.eqv, Bool.beq_eq_decide_eq]
theorem inT_ints {i : Int} {l : List Int} : inT (.int i) (l.map T.int) = decide (i ∈ l) := by
  unfold inT
  rw [List.any_map]
  induction l with
  | nil => rfl
  | cons a l ih =>
    rw [List.any_cons, ih]
    show (eqT (.int a) (.int i) || _) = _
    rw [eqT_int]
    by_cases h : a = i
    · simp [h]
    · have h2 : ¬ i = a := fun e => h e.symm
      simp [h, h2]
theorem inT_nats {i : Int} {l : List Nat} : inT (.int i) (l.map nT) = decide (i ∈ l.map (fun n : Nat => (n : Int))) := by
  have e : l.map nT = (l.map fun n : Nat => (n : Int)).map T.int := by rw [List.map_map]; rfl
  rw [e, inT_ints]
theorem inT_nat {n : Nat} {l : List Nat} : inT (.int (n : Int)) (l.map nT) = decide (n ∈ l) := by
  rw [inT_nats]
  apply decide_eq_decide.mpr
  rw [List.mem_map]
  constructor
  · rintro ⟨m, hm, e⟩
    have : m = n := by omega
    exact this ▸ hm
  · intro h
    exact ⟨n, h, rfl⟩
theorem in_nats {n : Nat} {l : List Nat} {H : TH} {Q : KT} {neg : Bool} : oIn neg (.int (n : Int)) (.tup (l.map nT)) H Q = Q (.bl (neg ^^ decide (n ∈ l))) H := by
  simp only [oIn, seqOf, flat_nats, flatT, inT_nat, and_self, true_and]
theorem in_natsI {i : Int} {l : List Nat} {H : TH} {Q : KT} {neg : Bool} : oIn neg (.int i) (.tup (l.map nT)) H Q = Q (.bl (neg ^^ decide (i ∈ l.map (fun n : Nat => (n : Int))))) H := by
  simp only [oIn, seqOf, flat_nats, flatT, inT_nats, and_self, true_and]
theorem is_o {o : Option Int} {H : TH} {Q : KT} {neg : Bool} : oIs neg (oT o) .non H Q = Q (.bl (neg ^^ o.isNone)) H := by
  cases o <;> simp [oIs, oT, isNon]
theorem eq_int {i j : Int} {H : TH} {Q : KT} {neg : Bool} : oEq neg (.int i) (.int j) H Q = Q (.bl (neg ^^ decide (i = j))) H := rfl
theorem eq_o {o p : Option Int} {H : TH} {Q : KT} {neg : Bool} : oEq neg (oT o) (oT p) H Q = Q (.bl (neg ^^ decide (o = p))) H := by
  cases o with
  | none => cases p with
    | none => simp [oEq, oT, shp, noRef, toD, SeqAt.shaped, PyData.canLay0, PyData.depth, eqT, PyData.eqv]
    | some j => simp [oEq, oT, shp, noRef, toD, SeqAt.shaped, PyData.canLay0, PyData.depth, eqT, PyData.eqv]
  | some i => cases p with
    | none => simp [oEq, oT, shp, noRef, toD, SeqAt.shaped, PyData.canLay0, PyData.depth, eqT, PyData.eqv]
    | some j => simp [oEq, oT]
theorem len_map {α : Type} {f : α → T} {l : List α} {H : TH} {Q : KT} : cLen [.tup (l.map f)] H Q = Q (.int (l.length : Int)) H := by
  simp only [cLen, seqOf, List.length_map]
theorem len_lmap {α : Type} {f : α → T} {l : List α} {H : TH} {Q : KT} : cLen [.lst (l.map f)] H Q = Q (.int (l.length : Int)) H := by
  simp only [cLen, seqOf, List.length_map]
theorem cmp_int {p : Int → Int → Bool} {i j : Int} {H : TH} {Q : KT} : oCmp p (.int i) (.int j) H Q = Q (.bl (p i j)) H := rfl
theorem shp_ints : ∀ l : List Int, noRefs (l.map T.int) = true ∧ PyData.canLayAll0 (toDs (l.map T.int)) = true ∧ PyData.depthAll (toDs (l.map T.int)) ≤ 1
  | [] => ⟨rfl, rfl, Nat.zero_le _⟩
  | x :: l => by
    obtain ⟨h1, h2, h3⟩ := shp_ints l
    refine ⟨by simpa [noRefs, noRef] using h1, by simpa [toDs, toD, PyData.canLayAll0, PyData.canLay0] using h2, ?_⟩
    simp only [List.map_cons, toDs, toD, PyData.depthAll, PyData.depth]
    omega
theorem shp_iTs (l : List Int) : shp (iTs l) = true := by
  obtain ⟨h1, h2, h3⟩ := shp_ints l
  unfold shp SeqAt.shaped
  rw [Bool.and_eq_true, Bool.and_eq_true, decide_eq_true_eq]
  refine ⟨h1, h2, ?_⟩
  show PyData.depthAll (toDs (l.map T.int)) + 1 ≤ 64
  omega
theorem eqvAll_ints : ∀ l m : List Int, PyData.eqvAll (toDs (l.map T.int)) (toDs (m.map T.int)) = decide (l = m)
  | [], [] => rfl
  | [], _ :: _ => rfl
  | _ :: _, [] => rfl
  | x :: l, y :: m => by
    simp only [List.map_cons, toDs, toD, PyData.eqvAll, PyData.eqv, eqvAll_ints l m, List.cons.injEq, Bool.decide_and, Bool.beq_eq_decide_eq]
theorem eqT_iTs {l m : List Int} : eqT (iTs l) (iTs m) = decide (l = m) := by
  show PyData.eqv (.tuple _) (.tuple _) = _
  simp only [PyData.eqv]
  exact eqvAll_ints l m
theorem eq_iTs {l m : List Int} {H : TH} {Q : KT} {neg : Bool} : oEq neg (iTs l) (iTs m) H Q = Q (.bl (neg ^^ decide (l = m))) H := by
  simp only [oEq, shp_iTs, eqT_iTs, and_self, true_and]
/-- + of two lists that are never changed -/
theorem add_ll {xs ys : List T} {H : TH} {Q : KT} : oAdd true (.lst xs) (.lst ys) H Q = (xs.length + ys.length ≤ sizeLine ∧ Q (.lst (xs ++ ys)) H) := rfl
theorem sz {n : Nat} (h : n ≤ 16777216) : n ≤ sizeLine := by rw [sizeLine_eq]; exact h
theorem sz' {n : Nat} (h : n < 16777216) : n < sizeLine := by rw [sizeLine_eq]; exact h
theorem eq_io {i : Int} {o : Option Int} {H : TH} {Q : KT} {neg : Bool} : oEq neg (.int i) (oT o) H Q = Q (.bl (neg ^^ decide (some i = o))) H := eq_o (o := some i)
theorem eq_oi {i : Int} {o : Option Int} {H : TH} {Q : KT} {neg : Bool} : oEq neg (oT o) (.int i) H Q = Q (.bl (neg ^^ decide (o = some i))) H := eq_o (p := some i)
theorem is_i {i : Int} {H : TH} {Q : KT} {neg : Bool} : oIs neg (.int i) .non H Q = Q (.bl (neg ^^ false)) H := by simp [oIs, isNon]
theorem is_n {H : TH} {Q : KT} {neg : Bool} : oIs neg .non .non H Q = Q (.bl (neg ^^ true)) H := by simp [oIs, isNon]
/-! what stands at an address -/
section
variable {H : TH} {Q : KT} {p : Addr} {ts : List T} {kvs : List (Key × T)}
theorem recv_l (e : H p = some (.lst ts)) : recv "list" (.ref p) H := by simp [recv, e]
theorem recv_d (e : H p = some (.dk kvs)) : recv "dict" (.ref p) H := by simp [recv, e]
theorem append_l (e : H p = some (.lst ts)) {u : T} : mAppend (.ref p) [u] H Q = (ts.length < sizeLine ∧ Q .non (up H p (.lst (ts ++ [u])))) := by simp only [mAppend, e]
theorem pop_l (e : H p = some (.lst ts)) {x : T} (h : ts.getLast? = some x) : mPop (.ref p) [] H Q = Q x (up H p (.lst ts.dropLast)) := by simp only [mPop, e, h]
theorem reverse_l (e : H p = some (.lst ts)) : mReverse (.ref p) [] H Q = Q .non (up H p (.lst ts.reverse)) := by simp only [mReverse, e]
theorem len_l (e : H p = some (.lst ts)) : cLen [.ref p] H Q = Q (.int (ts.length : Int)) H := by simp only [cLen, seqOf, e]
theorem len_d (e : H p = some (.dk kvs)) : cLen [.ref p] H Q = Q (.int (kvs.length : Int)) H := by simp only [cLen, seqOf, e]
theorem tuple_l (e : H p = some (.lst ts)) : cTuple [.ref p] H Q = Q (.tup ts) H := by simp only [cTuple, seqOf, e]
theorem ix_l (e : H p = some (.lst ts)) {i : Int} {x : T} (h : atI ts i = some x) : oIx (.ref p) (.int i) H Q = Q x H := by simp only [oIx, seqOf, e, h]
theorem ix_d (e : H p = some (.dk kvs)) {u x : T} {k : Key} (hk : keyT u = some k) (h : getK kvs k = some x) : oIx (.ref p) u H Q = Q x H := by simp only [oIx, seqOf, e, hk, h]
theorem over_l (e : H p = some (.lst ts)) {R : (TH → Prop) → List T → TH → Prop} : overT (.ref p) H R = R (fun H' => H' p = some (.lst ts)) ts H := by simp only [overT, e]
theorem frz_l (e : H p = some (.lst ts)) : frzT (.ref p) H Q = Q (.lst ts) (del H p) := by simp only [frzT, e]
theorem get1_d (e : H p = some (.dk kvs)) {u : T} {k : Key} (hk : keyT u = some k) : mGet1 (.ref p) [u] H Q = Q ((getK kvs k).getD .non) H := by simp only [mGet1, e, hk]
theorem get2_d (e : H p = some (.dk kvs)) {u d : T} {k : Key} (hk : keyT u = some k) : mGet2 (.ref p) [u, d] H Q = Q ((getK kvs k).getD d) H := by simp only [mGet2, e, hk]
theorem set_l (e : H p = some (.lst ts)) {i : Int} {j : Nat} (h : ixN ts.length i = some j) {w : T} {R : TH → Prop} : oSet (.ref p) (.int i) w H R = R (up H p (.lst (ts.set j w))) := by simp only [oSet, e, h]
theorem set_d (e : H p = some (.dk kvs)) {u w : T} {k : Key} (hk : keyT u = some k) {R : TH → Prop} : oSet (.ref p) u w H R = (kvs.length < sizeLine ∧ R (up H p (.dk (setK kvs k w)))) := by simp only [oSet, e, hk]
theorem in_d (e : H p = some (.dk kvs)) {u : T} {k : Key} (hk : keyT u = some k) {neg : Bool} : oIn neg u (.ref p) H Q = Q (.bl (neg ^^ (getK kvs k).isSome)) H := by simp only [oIn, seqOf, e, hk]
theorem aug_l (e : H p = some (.lst ts)) {us : List T} : oAug (.ref p) (.lst us) H Q = (ts.length + us.length ≤ sizeLine ∧ Q (.ref p) (up H p (.lst (ts ++ us)))) := by simp only [oAug, e, lstOf]
theorem key_i {i : Int} : keyT (.int i) = some (.inl i) := rfl
theorem in_lnats {n : Nat} {l : List Nat} {neg : Bool} : oIn neg (.int (n : Int)) (.lst (l.map nT)) H Q = Q (.bl (neg ^^ decide (n ∈ l))) H := by
  simp only [oIn, seqOf, flat_nats, flatT, inT_nat, and_self, true_and]
theorem ixN_nat {n j : Nat} (h : j < n) : ixN n (j : Int) = some j := by
  unfold ixN
  rw [if_pos (by omega), if_pos (by omega)]
  simp
end
theorem getK_set {kvs : List (Key × T)} {k j : Key} {v : T} : getK (setK kvs k v) j = if j = k then some v else getK kvs j := by
  have app : ∀ {l : List (Key × T)}, (l.any fun kv => decide (kv.1 = k)) = false → getK (l ++ [(k, v)]) j = if j = k then some v else getK l j := by
    intro l
    induction l with
    | nil =>
      intro _
      by_cases h : j = k
      · subst h
        simp [getK]
      · simp [getK, h, show ¬ k = j from fun e => h e.symm]
    | cons x l ih =>
      intro h
      rw [List.any_cons, Bool.or_eq_false_iff] at h
      have hx : ¬ x.1 = k := of_decide_eq_false h.1
      rw [List.cons_append]
      unfold getK
      by_cases e : x.1 = j
      · rw [if_pos e, if_pos e, if_neg (fun z => hx (e.trans z))]
      · rw [if_neg e, if_neg e, ih h.2]
  have upd1 : ∀ {l : List (Key × T)}, (l.any fun kv => decide (kv.1 = k)) = true → getK (l.map fun kv => if kv.1 = k then (kv.1, v) else kv) j = if j = k then some v else getK l j := by
    intro l
    induction l with
    | nil =>
      intro h
      cases h
    | cons x l ih =>
      intro h
      rw [List.any_cons, Bool.or_eq_true] at h
      rw [List.map_cons]
      have rest : ∀ {m : List (Key × T)}, ¬ j = k → getK (m.map fun kv => if kv.1 = k then (kv.1, v) else kv) j = getK m j := by
        intro m hj
        induction m with
        | nil => rfl
        | cons y m ihm =>
          rw [List.map_cons]
          unfold getK
          by_cases e : y.1 = k
          · rw [if_pos e, if_neg (fun z : y.1 = j => hj (z.symm.trans e)), if_neg (fun z : y.1 = j => hj (z.symm.trans e)), ihm]
          · rw [if_neg e, ihm]
      by_cases hj : j = k
      · subst hj
        rw [if_pos rfl]
        unfold getK
        by_cases e : x.1 = j
        · rw [if_pos e]
          exact if_pos e
        · rw [if_neg e, if_neg e]
          have := ih (h.resolve_left (by simpa using e))
          rw [if_pos rfl] at this
          exact this
      · rw [if_neg hj]
        exact rest (m := x :: l) hj
  unfold setK
  cases h : (kvs.any fun kv => decide (kv.1 = k)) with
  | true =>
    rw [if_pos rfl]
    exact upd1 h
  | false =>
    rw [if_neg Bool.false_ne_true]
    exact app h
theorem length_setK {kvs : List (Key × T)} {k : Key} {v : T} : (setK kvs k v).length ≤ kvs.length + 1 := by
  unfold setK
  split
  · rw [List.length_map]
    omega
  · simp
/-! ### two objects of a def's own -/
theorem ne_up {H : TH} {a b : Addr} {o : TO} (h : H a = some o) (n : H b = none) : a ≠ b := fun e => by
  rw [e, n] at h
  cases h
structure Two (H : TH) (p q : Addr) (A B : TO) (Hx : TH) : Prop where
  np : H p = none
  nq : H q = none
  ne : p ≠ q
  p : Hx p = some A
  q : Hx q = some B
  sub : Sub H Hx
theorem Two.mk0 {H : TH} {p q : Addr} {A B : TO} (hp : H p = none) (hq : up H p A q = none) : Two H p q A B (up (up H p A) q B) := by
  have ne : p ≠ q := fun e => by
    subst e
    rw [up_same] at hq
    cases hq
  rw [up_ne ne.symm] at hq
  refine ⟨hp, hq, ne, by rw [up_ne ne, up_same], up_same, fun a o h => ?_⟩
  rw [up_ne (ne_up h hq), up_ne (ne_up h hp)]
  exact h
theorem Two.setp {H : TH} {p q : Addr} {A B A' : TO} {Hx : TH} (h : Two H p q A B Hx) : Two H p q A' B (up Hx p A') :=
  ⟨h.np, h.nq, h.ne, up_same, by rw [up_ne h.ne.symm]; exact h.q, fun a o e => by rw [up_ne (ne_up e h.np)]; exact h.sub a o e⟩
theorem Two.setq {H : TH} {p q : Addr} {A B B' : TO} {Hx : TH} (h : Two H p q A B Hx) : Two H p q A B' (up Hx q B') :=
  ⟨h.np, h.nq, h.ne, by rw [up_ne h.ne]; exact h.p, up_same, fun a o e => by rw [up_ne (ne_up e h.nq)]; exact h.sub a o e⟩
theorem rts {Q : KT} {t : T} {H Hx : TH} (s : Sub H Hx) (q : Q t H) : (bodyEnds Q).rt t Hx := ⟨H, s, q⟩
theorem sub_up {H : TH} {p : Addr} {o : TO} (n : H p = none) : Sub H (up H p o) := fun a u h => by
  rw [up_ne (ne_up h n)]
  exact h
/-- dicts that are used as sets of numbers -/
def dks (l : List Nat) : List (Key × T) := l.map fun s : Nat => (Sum.inl (s : Int), T.bl true)
theorem getK_dks {l : List Nat} {s : Nat} : (getK (dks l) (.inl (s : Int))).isSome = decide (s ∈ l) := by
  induction l with
  | nil => rfl
  | cons a l ih =>
    unfold dks at ih ⊢
    rw [List.map_cons]
    unfold getK
    by_cases e : a = s
    · subst e
      simp
    · have e2 : ¬ (Sum.inl (a : Int) : Key) = Sum.inl (s : Int) := fun z => e (by have := Sum.inl.inj z; omega)
      have e3 : ¬ s = a := fun z => e z.symm
      rw [if_neg e2, ih]
      simp [e3]
theorem any_dks {l : List Nat} {s : Nat} : ((dks l).any fun kv => decide (kv.1 = Sum.inl (s : Int))) = decide (s ∈ l) := by
  unfold dks
  rw [List.any_map]
  induction l with
  | nil => rfl
  | cons a l ih =>
    rw [List.any_cons, ih]
    have e : ((fun kv : Key × T => decide (kv.1 = Sum.inl (s : Int))) ∘ fun s : Nat => (Sum.inl (s : Int), T.bl true)) a = decide (a = s) := by
      show decide ((Sum.inl (a : Int) : Key) = Sum.inl (s : Int)) = _
      apply decide_eq_decide.mpr
      constructor
      · intro z
        have := Sum.inl.inj z
        omega
      · intro z
        rw [z]
    rw [e]
    by_cases h : a = s
    · simp [h]
    · simp [h, show ¬ s = a from fun z => h z.symm]
theorem setK_dks {l : List Nat} {s : Nat} : setK (dks l) (.inl (s : Int)) (.bl true) = dks (if s ∈ l then l else l ++ [s]) := by
  unfold setK
  rw [any_dks]
  by_cases h : s ∈ l
  · rw [if_pos (decide_eq_true h), if_pos h]
    unfold dks
    rw [List.map_map]
    apply List.map_congr_left
    intro a _
    show (if (Sum.inl (a : Int) : Key) = Sum.inl (s : Int) then _ else _) = _
    split <;> rfl
  · rw [if_neg (by simpa using h), if_neg h]
    unfold dks
    rw [List.map_append]
    rfl
theorem keys_dks {l : List Nat} : keysI (dks l) = some (l.map fun n : Nat => (n : Int)) := by
  induction l with
  | nil => rfl
  | cons a l ih =>
    unfold dks at ih ⊢
    rw [List.map_cons]
    unfold keysI
    rw [ih]
    rfl
/-- {s: True for s in l} -/
theorem dc_dks {C : Nat → TSp} {i : Nat} {σ : TSt} {H : TH} {ck : TH → Prop} (hck : ck H) (hi : i < σ.length) : ∀ {l acc : List Nat} {K : List (Key × T) → TH → Prop}, (acc ++ l).Nodup → acc.length + l.length ≤ 16777216 → K (dks (acc ++ l)) H →
    dcGo ck (bodyD C (.n i) (.v i) (.bl true) σ) (l.map nT) (dks acc) H K
  | [], acc, K, _, _, hK => ⟨hck, by simpa using hK⟩
  | s :: l, acc, K, hn, hl, hK => by
    refine ⟨hck, ?_⟩
    rw [bodyD_n]
    have e : lk (σ.set i (some (nT s))) i = some (nT s) := by
      clear hK hl hn hck
      induction σ generalizing i with
      | nil => cases hi
      | cons a σ ih =>
        cases i with
        | zero => rfl
        | succ i => exact ih (by simpa using hi)
    simp only [wE_v, e, wE_bl, key_i]
    have hs : s ∉ acc := fun h => by
      have := (List.nodup_append.mp hn).2.2 s h s List.mem_cons_self
      exact this rfl
    rw [List.length_cons] at hl
    refine ⟨sz' (by simp [dks]; omega), ?_⟩
    rw [setK_dks, if_neg hs]
    exact dc_dks hck hi (by rw [List.append_assoc]; exact hn) (by rw [List.length_append]; simp; omega) (by rw [List.append_assoc]; exact hK)
theorem dc_dks0 {C : Nat → TSp} {i : Nat} {σ : TSt} {H : TH} {ck : TH → Prop} (hck : ck H) (hi : i < σ.length) {l : List Nat} {K : List (Key × T) → TH → Prop} (hn : l.Nodup) (hl : l.length ≤ 16777216) (hK : K (dks l) H) :
    dcGo ck (bodyD C (.n i) (.v i) (.bl true) σ) (l.map nT) [] H K := dc_dks (acc := []) hck hi hn (by simpa using hl) hK
end TL
set_option maxRecDepth 100000
namespace TL
open PySem PySem.Spec L2
/-! ### more words for walking -/
theorem rng_n {n : Nat} {H : TH} {R : (TH → Prop) → List T → TH → Prop} (h : n ≤ 16777216) : rngT 0 (n : Int) H R = R (fun _ => True) ((List.range n).map nT) H := by
  have e : ((List.range ((n : Int) - 0).toNat).map fun (i : Nat) => T.int (0 + i)) = (List.range n).map nT := by
    rw [Int.sub_zero, Int.toNat_natCast]
    refine List.map_congr_left fun a _ => ?_
    rw [Int.zero_add]
  unfold rngT
  rw [e]
  apply propext
  constructor
  · exact fun q => q.2
  · exact fun q => ⟨⟨by omega, by omega, by omega, by omega⟩, q⟩
theorem rng_mn {m n : Nat} {H : TH} {R : (TH → Prop) → List T → TH → Prop} (hm : m ≤ 16777216) (h : n ≤ 16777216) : rngT (m : Int) (n : Int) H R = R (fun _ => True) ((List.range' m (n - m)).map nT) H := by
  have e : ((List.range ((n : Int) - m).toNat).map fun (i : Nat) => T.int (m + i)) = (List.range' m (n - m)).map nT := by
    rw [show ((n : Int) - m).toNat = n - m by omega, List.range'_eq_map_range, List.map_map]
    refine List.map_congr_left fun a _ => ?_
    show T.int _ = T.int _
    congr 1
  unfold rngT
  rw [e]
  apply propext
  constructor
  · exact fun q => q.2
  · exact fun q => ⟨⟨by omega, by omega, by omega, by omega⟩, q⟩
theorem asBls_mapF {α : Type} {f : α → Bool} : ∀ l : List α, asBls (l.map fun a => T.bl (f a)) = some (l.map f)
  | [] => rfl
  | x :: l => by
    rw [List.map_cons]
    unfold asBls
    rw [asBls_mapF l]
    rfl
theorem all_bl {α : Type} {f : α → Bool} {l : List α} {H : TH} {Q : KT} : cAll [.lst (l.map fun a => T.bl (f a))] H Q = Q (.bl (l.all f)) H := by
  simp only [cAll, lstOf, asBls_mapF, List.all_map]
  rfl
theorem max_ints {l : List Int} {H : TH} {Q : KT} : cMax [.lst (l.map T.int)] H Q = (l ≠ [] ∧ Q (.int (maxI l)) H) := by
  simp only [cMax, lstOf, asInts_map]
theorem add_ii {i j : Int} {b : Bool} {H : TH} {Q : KT} : oAdd b (.int i) (.int j) H Q = Q (.int (i + j)) H := by
  cases b <;> rfl
theorem sub_ii {i j : Int} {H : TH} {Q : KT} : oSub (.int i) (.int j) H Q = Q (.int (i - j)) H := rfl
/-- dicts from numbers to numbers -/
def tds (f : Nat → Int) (l : List Nat) : List (Key × T) := l.map fun s : Nat => (Sum.inl (s : Int), T.int (f s))
theorem inl_nat {a s : Nat} : ((Sum.inl (a : Int) : Key) = Sum.inl (s : Int)) ↔ a = s := ⟨fun z => by have := Sum.inl.inj z; omega, fun z => by rw [z]⟩
theorem getK_tds {f : Nat → Int} {l : List Nat} {s : Nat} : getK (tds f l) (.inl (s : Int)) = if s ∈ l then some (T.int (f s)) else none := by
  induction l with
  | nil => rfl
  | cons a l ih =>
    unfold tds at ih ⊢
    rw [List.map_cons]
    unfold getK
    by_cases e : a = s
    · subst e
      simp
    · rw [if_neg (fun z => e (inl_nat.mp z)), ih]
      have e3 : ¬ s = a := fun z => e z.symm
      simp [e3]
theorem any_tds {f : Nat → Int} {l : List Nat} {s : Nat} : ((tds f l).any fun kv => decide (kv.1 = Sum.inl (s : Int))) = decide (s ∈ l) := by
  unfold tds
  rw [List.any_map]
  induction l with
  | nil => rfl
  | cons a l ih =>
    rw [List.any_cons, ih]
    have e : ((fun kv : Key × T => decide (kv.1 = Sum.inl (s : Int))) ∘ fun s : Nat => (Sum.inl (s : Int), T.int (f s))) a = decide (a = s) := decide_eq_decide.mpr inl_nat
    rw [e]
    by_cases h : a = s
    · simp [h]
    · simp [h, show ¬ s = a from fun z => h z.symm]
theorem setK_tds {f : Nat → Int} {l : List Nat} {s : Nat} {k : Int} : setK (tds f l) (.inl (s : Int)) (.int k) = tds (fun x => if x = s then k else f x) (if s ∈ l then l else l ++ [s]) := by
  unfold setK
  rw [any_tds]
  by_cases h : s ∈ l
  · rw [if_pos (decide_eq_true h), if_pos h]
    unfold tds
    rw [List.map_map]
    refine List.map_congr_left fun a _ => ?_
    show (if (Sum.inl (a : Int) : Key) = Sum.inl (s : Int) then _ else _) = _
    by_cases e : a = s
    · subst e
      simp
    · rw [if_neg (fun z => e (inl_nat.mp z))]
      show _ = (Sum.inl (a : Int), T.int (if a = s then k else f a))
      rw [if_neg e]
  · rw [if_neg (by simpa using h), if_neg h]
    unfold tds
    rw [List.map_append]
    congr 1
    · refine List.map_congr_left fun a ha => ?_
      have : ¬ a = s := fun z => h (z ▸ ha)
      show _ = (Sum.inl (a : Int), T.int (if a = s then k else f a))
      rw [if_neg this]
    · simp
theorem tds_congr {f g : Nat → Int} {l : List Nat} (h : ∀ s ∈ l, f s = g s) : tds f l = tds g l := List.map_congr_left fun a ha => by rw [h a ha]
theorem len_tds {f : Nat → Int} {l : List Nat} : (tds f l).length = l.length := List.length_map ..
theorem nd_sub_len {α : Type} [DecidableEq α] : ∀ {l m : List α}, l.Nodup → (∀ x ∈ l, x ∈ m) → l.length ≤ m.length
  | [], _, _, _ => Nat.zero_le _
  | x :: l, m, nd, h => by
    have hx := h x List.mem_cons_self
    have ih := nd_sub_len (l := l) (m := m.erase x) (List.nodup_cons.mp nd).2 fun y hy => by
      have : y ≠ x := fun e => (List.nodup_cons.mp nd).1 (e ▸ hy)
      exact (List.mem_erase_of_ne this).mpr (h y (List.mem_cons_of_mem _ hy))
    rw [List.length_erase_of_mem hx] at ih
    have := List.length_pos_of_mem hx
    rw [List.length_cons]
    omega
theorem in_tds {H : TH} {p : Addr} {f : Nat → Int} {l : List Nat} {s : Nat} {neg : Bool} {Q : KT} (e : H p = some (.dk (tds f l))) : oIn neg (.int (s : Int)) (.ref p) H Q = Q (.bl (neg ^^ decide (s ∈ l))) H := by
  rw [in_d e key_i, getK_tds]
  by_cases h : s ∈ l <;> simp [h]
theorem ix_tds {H : TH} {p : Addr} {f : Nat → Int} {l : List Nat} {s : Nat} {Q : KT} (e : H p = some (.dk (tds f l))) (h : s ∈ l) : oIx (.ref p) (.int (s : Int)) H Q = Q (.int (f s)) H := ix_d e key_i (by rw [getK_tds, if_pos h])
end TL
set_option maxRecDepth 100000
set_option maxHeartbeats 1000000
namespace TL
open PySem PySem.Spec L2
/-! ### the draws -/
def lwTake : Ss := (.cons (.ife (.cmp .eq (.bi .len (.cons (.v 0) .nil)) (.int 0)) (.cons (.ret (.int 0))
  .nil) .nil)
  (.cons (.ret (.op .mod (.bi .int (.cons (.me .pop (.v 0) .nil) .nil)) (.v 1)))
  .nil))
theorem up_self {H : TH} {p : Addr} {o : TO} (h : H p = some o) : up H p o = H := by
  funext a
  by_cases e : a = p
  · subst e
    rw [up_same, h]
  · rw [up_ne e]
def sp_take : TSp := fun ts H Q => ∃ (p : Addr) (ds : List Int) (m : Nat), ts = [.ref p, nT m] ∧ H p = some (.lst (ds.map .int)) ∧ 0 < m ∧ ∀ (v : Nat) (ds' : List Int), v < m → Q (nT v) (up H p (.lst (ds'.map .int)))
theorem w_take {C : Nat → TSp} {a b : Str} (ts : List T) (H : TH) (Q : KT) (h : sp_take ts H Q) : wSs C lwTake (bodyEnds Q) (start0 [a, b] ts) H := by
  obtain ⟨p, ds, m, rfl, hp, hm, q⟩ := h
  simp only [lwTake, start0, wSs_cons, wSs_nil, wS_set, wS_unp, wS_setix, wS_aug, wS_expr, wS_ret, wS_retN, wS_ife, wS_for, wS_while, wS_pass, wS_brk, wS_cont, wE_v, wE_non, wE_bl, wE_int, wE_str, wE_neg, wE_op, wE_cmp, wE_chain, wE_and, wE_or, wE_not, wE_ite, wE_ix, wE_sl, wE_tup, wE_lst, wE_dnew, wE_call, wE_bi, wE_isi, wE_me, wE_lc0, wE_dc, wE_sset, wE_frz, wEs_nil, wEs_cons, wI_over, wI_rng1, wI_rng2, List.map_cons, List.map_nil, List.length_cons, List.length_nil, List.cons_append, List.nil_append, lk_0, lk_s, st_0, st_s, ix_0, ix_1, ix_2, Op2.o, Cm.o, BI.o, ME.o, ME.rv, is_o, eq_int, cmp_int, overT, nop_cmp, nop_chain, nop_and, nop_or, nop_not, nop_call, nop_bi, nop_ite, nop_ix, nop_v, nop_int, nop_op, nop_neg, nop_nop, wE_lc_cmp, wE_lc_chain, wE_lc_and, wE_lc_or, wE_lc_not, wE_lc_call, wE_lc_bi, wE_lc_ite, wE_lc_ix, wE_lc_v, List.replicate_succ, List.replicate_zero, Nat.reduceAdd, Nat.reduceSub, oT_s, oT_n, eq_io, eq_oi, is_i, is_n, Bool.xor_true, Bool.xor_false, Bool.false_xor, Bool.true_xor, Bool.not_true, Bool.not_false, mk_t, bodyC_n, bodyC_n1, bodyD_n, len_l hp, List.length_map]
  rcases List.eq_nil_or_concat ds with rfl | ⟨l, x, rfl⟩
  · simp only [List.length_nil, Int.natCast_zero, decide_true, wSs_cons, wSs_nil, wS_set, wS_unp, wS_setix, wS_aug, wS_expr, wS_ret, wS_retN, wS_ife, wS_for, wS_while, wS_pass, wS_brk, wS_cont, wE_v, wE_non, wE_bl, wE_int, wE_str, wE_neg, wE_op, wE_cmp, wE_chain, wE_and, wE_or, wE_not, wE_ite, wE_ix, wE_sl, wE_tup, wE_lst, wE_dnew, wE_call, wE_bi, wE_isi, wE_me, wE_lc0, wE_dc, wE_sset, wE_frz, wEs_nil, wEs_cons, wI_over, wI_rng1, wI_rng2, List.map_cons, List.map_nil, List.length_cons, List.length_nil, List.cons_append, List.nil_append, lk_0, lk_s, st_0, st_s, ix_0, ix_1, ix_2, Op2.o, Cm.o, BI.o, ME.o, ME.rv, is_o, eq_int, cmp_int, overT, nop_cmp, nop_chain, nop_and, nop_or, nop_not, nop_call, nop_bi, nop_ite, nop_ix, nop_v, nop_int, nop_op, nop_neg, nop_nop, wE_lc_cmp, wE_lc_chain, wE_lc_and, wE_lc_or, wE_lc_not, wE_lc_call, wE_lc_bi, wE_lc_ite, wE_lc_ix, wE_lc_v, List.replicate_succ, List.replicate_zero, Nat.reduceAdd, Nat.reduceSub, oT_s, oT_n, eq_io, eq_oi, is_i, is_n, Bool.xor_true, Bool.xor_false, Bool.false_xor, Bool.true_xor, Bool.not_true, Bool.not_false, mk_t, bodyC_n, bodyC_n1, bodyD_n]
    have := q 0 [] hm
    rw [up_self hp] at this
    exact rtn this
  · rw [List.concat_eq_append] at *
    have e : ¬ ((l ++ [x]).length : Int) = 0 := by
      rw [List.length_append, List.length_singleton]
      omega
    simp only [e, decide_false]
    refine ⟨recv_l hp, ?_⟩
    rw [pop_l hp (x := T.int x) (by simp)]
    simp only [cInt, oMod]
    refine ⟨by omega, rtn ?_⟩
    have h1 : 0 ≤ x % (m : Int) := Int.emod_nonneg x (by omega)
    have h2 : x % (m : Int) < m := Int.emod_lt_of_pos x (by omega)
    have := q (x % (m : Int)).toNat l (by omega)
    rw [List.map_append, List.map_cons, List.map_nil, List.dropLast_concat]
    have e2 : nT (x % (m : Int)).toNat = .int (x % (m : Int)) := by
      show T.int _ = T.int _
      congr 1
      omega
    rw [e2] at this
    exact this
/-- a wish about heaps that stays while draws are taken -/
structure DJ (p : Addr) (J : TH → Prop) : Prop where
  get : ∀ Hx, J Hx → ∃ ds : List Int, Hx p = some (.lst (ds.map .int))
  set : ∀ Hx (ds : List Int), J Hx → J (up Hx p (.lst (ds.map .int)))
theorem take_j {p : Addr} {J : TH → Prop} (d : DJ p J) {Hx : TH} {Q : KT} {m : Nat} (h : J Hx) (hm : 0 < m) (q : ∀ (v : Nat) (Hy : TH), v < m → J Hy → Q (nT v) Hy) : sp_take [.ref p, nT m] Hx Q := by
  obtain ⟨ds, e⟩ := d.get Hx h
  exact ⟨p, ds, m, rfl, e, hm, fun v ds' hv => q v _ hv (d.set Hx ds' h)⟩
/-- a comprehension whose turns keep a wish -/
theorem lc_inv {α : Type} {body : T → TH → (Option T → TH → Prop) → Prop} {J : TH → Prop} {V : α → Prop} {enc : α → T} : ∀ {xs : List T} {acc : List α} {H : TH} {K : List T → TH → Prop},
    (∀ x ∈ xs, ∀ Hx G, J Hx → (∀ v Hy, V v → J Hy → G (some (enc v)) Hy) → body x Hx G) → acc.length + xs.length ≤ sizeLine → J H → (∀ v ∈ acc, V v) →
    (∀ (l : List α) (Hy : TH), l.length = acc.length + xs.length → (∀ v ∈ l, V v) → J Hy → K (l.map enc) Hy) → lcGo (fun _ => True) body xs (acc.map enc) H K
  | [], acc, H, K, _, _, hJ, hV, hK => ⟨trivial, hK acc H (by simp) hV hJ⟩
  | x :: xs, acc, H, K, hb, hl, hJ, hV, hK => by
    refine ⟨trivial, hb x List.mem_cons_self H _ hJ fun v Hy hv hJ' => ?_⟩
    rw [List.length_cons] at hl
    refine ⟨by rw [List.length_map]; omega, ?_⟩
    have := lc_inv (J := J) (V := V) (enc := enc) (xs := xs) (acc := acc ++ [v]) (H := Hy) (K := K) (fun y hy => hb y (List.mem_cons_of_mem _ hy)) (by rw [List.length_append, List.length_singleton]; omega) hJ' (fun y hy => by
      rcases List.mem_append.mp hy with z | z
      · exact hV y z
      · rw [List.mem_singleton.mp z]
        exact hv) fun l Hz e => hK l Hz (by rw [e, List.length_append, List.length_singleton, List.length_cons]; omega)
    rw [List.map_append, List.map_cons, List.map_nil] at this
    exact this
theorem lc_inv0 {α : Type} {body : T → TH → (Option T → TH → Prop) → Prop} (J : TH → Prop) (V : α → Prop) (enc : α → T) {xs : List T} {H : TH} {K : List T → TH → Prop}
    (hb : ∀ x ∈ xs, ∀ Hx G, J Hx → (∀ v Hy, V v → J Hy → G (some (enc v)) Hy) → body x Hx G) (hl : xs.length ≤ sizeLine) (hJ : J H)
    (hK : ∀ (l : List α) (Hy : TH), l.length = xs.length → (∀ v ∈ l, V v) → J Hy → K (l.map enc) Hy) : lcGo (fun _ => True) body xs [] H K :=
  lc_inv (acc := []) hb (by simpa using hl) hJ (fun v hv => (nomatch hv)) fun l Hy e => hK l Hy (by simpa using e)
/-- all but the draws is as it was -/
structure Kp (H : TH) (p : Addr) (Hx : TH) : Prop where
  ds : ∃ ds : List Int, Hx p = some (.lst (ds.map .int))
  keep : ∀ a o, a ≠ p → H a = some o → Hx a = some o
theorem Kp.mk0 {H : TH} {p : Addr} {ds : List Int} (h : H p = some (.lst (ds.map .int))) : Kp H p H := ⟨⟨ds, h⟩, fun _ _ _ e => e⟩
theorem Kp.dj {H : TH} {p : Addr} : DJ p (Kp H p) := ⟨fun _ h => h.ds, fun Hx ds h => ⟨⟨ds, up_same⟩, fun a o n e => by rw [up_ne n]; exact h.keep a o n e⟩⟩
theorem Kp.put {H : TH} {p q : Addr} {o : TO} {Hx : TH} (h : Kp H p Hx) (n : H q = none) (e : q ≠ p) : Kp H p (up Hx q o) := ⟨by
  obtain ⟨ds, z⟩ := h.ds
  exact ⟨ds, by rw [up_ne e.symm]; exact z⟩, fun a o n' z => by rw [up_ne (ne_up z n)]; exact h.keep a o n' z⟩
theorem Kp.del {H : TH} {p q : Addr} {Hx : TH} (h : Kp H p Hx) (n : H q = none) (e : q ≠ p) : Kp H p (del Hx q) := ⟨by
  obtain ⟨ds, z⟩ := h.ds
  refine ⟨ds, ?_⟩
  show (if p = q then none else Hx p) = _
  rw [if_neg e.symm]
  exact z, fun a o n' z => by
    show (if a = q then none else Hx a) = some o
    rw [if_neg (ne_up z n)]
    exact h.keep a o n' z⟩
/-- a new object is none of the caller's -/
theorem Kp.new {H : TH} {p q : Addr} {Hx : TH} (h : Kp H p Hx) (hp : ∃ o, H p = some o) (n : Hx q = none) : H q = none ∧ q ≠ p := by
  obtain ⟨ds, z⟩ := h.ds
  have e : q ≠ p := fun e => by
    subst e
    rw [n] at z
    cases z
  refine ⟨?_, e⟩
  cases w : H q with
  | none => rfl
  | some o =>
    have := h.keep q o e w
    rw [n] at this
    cases this
theorem rtd {Q : KT} {t : T} {H Hx : TH} {p : Addr} (k : Kp H p Hx) (q : ∀ ds : List Int, Q t (up H p (.lst (ds.map .int)))) : (bodyEnds Q).rt t Hx := by
  obtain ⟨ds, e⟩ := k.ds
  refine ⟨up H p (.lst (ds.map .int)), fun a o z => ?_, q ds⟩
  by_cases n : a = p
  · subst n
    rw [up_same] at z
    rw [e]
    exact z
  · rw [up_ne n] at z
    exact k.keep a o n z
/-! ### the law's likeness -/
def flatD : Nat → T → Prop
  | _, .non => True
  | _, .bl _ => True
  | _, .int _ => True
  | _, .str x => PyData.strOk x = true
  | d + 1, .tup l => l.length ≤ 16777216 ∧ ∀ x ∈ l, flatD d x
  | _, _ => False
def sp_same (d : Nat) : TSp := fun ts H Q => ∃ t, ts = [t, t] ∧ flatD d t ∧ Q (.bl true) H
def lwSameL (k : Nat) : Ss := (.cons (.ife (.not (.call k (.cons (.ix (.v 0) (.v 2)) (.cons (.ix (.v 1) (.v 2)) .nil)))) (.cons (.ret (.bl false))
  .nil) .nil)
  .nil)
def lwSame (k : Nat) : Ss := (.cons (.ife (.isi (.v 1) .bool) (.cons (.ret (.and (.isi (.v 0) .bool) (.cmp .eq (.v 0) (.v 1))))
  .nil) .nil)
  (.cons (.ife (.isi (.v 1) .int) (.cons (.ret (.and (.isi (.v 0) .int) (.and (.not (.isi (.v 0) .bool)) (.cmp .eq (.v 0) (.v 1)))))
  .nil) .nil)
  (.cons (.ife (.isi (.v 1) .str) (.cons (.ret (.and (.isi (.v 0) .str) (.cmp .eq (.v 0) (.v 1))))
  .nil) .nil)
  (.cons (.ife (.cmp .isN (.v 1) .non) (.cons (.ret (.cmp .isN (.v 0) .non))
  .nil) .nil)
  (.cons (.ife (.or (.not (.isi (.v 0) .tuple)) (.cmp .ne (.bi .len (.cons (.v 0) .nil)) (.bi .len (.cons (.v 1) .nil)))) (.cons (.ret (.bl false))
  .nil) .nil)
  (.cons (.for_ (.n 2) (.rng1 (.bi .len (.cons (.v 1) .nil))) (lwSameL k))
  (.cons (.ret (.bl true))
  .nil)))))))
theorem eq_refl_bl {b : Bool} {H : TH} {Q : KT} : oEq false (.bl b) (.bl b) H Q = Q (.bl true) H := by
  simp [oEq, shp, noRef, toD, SeqAt.shaped, PyData.canLay0, PyData.depth, eqT, PyData.eqv]
theorem eq_refl_str {b : Str} {H : TH} {Q : KT} (h : PyData.strOk b = true) : oEq false (.str b) (.str b) H Q = Q (.bl true) H := by
  simp [h, oEq, shp, noRef, toD, SeqAt.shaped, PyData.canLay0, PyData.depth, eqT, PyData.eqv]
theorem w_same {C : Nat → TSp} {a b c : Str} {k : Nat} (d : Nat) (hk : d = 0 ∨ C k = sp_same (d - 1)) (ts : List T) (H : TH) (Q : KT) (h : sp_same d ts H Q) : wSs C (lwSame k) (bodyEnds Q) (start0 [a, b, c] ts) H := by
  obtain ⟨t, rfl, f, q⟩ := h
  cases t with
  | non =>
    simp only [lwSame, start0, wSs_cons, wSs_nil, wS_set, wS_unp, wS_setix, wS_aug, wS_expr, wS_ret, wS_retN, wS_ife, wS_for, wS_while, wS_pass, wS_brk, wS_cont, wE_v, wE_non, wE_bl, wE_int, wE_str, wE_neg, wE_op, wE_cmp, wE_chain, wE_and, wE_or, wE_not, wE_ite, wE_ix, wE_sl, wE_tup, wE_lst, wE_dnew, wE_call, wE_bi, wE_isi, wE_me, wE_lc0, wE_dc, wE_sset, wE_frz, wEs_nil, wEs_cons, wI_over, wI_rng1, wI_rng2, List.map_cons, List.map_nil, List.length_cons, List.length_nil, List.cons_append, List.nil_append, lk_0, lk_s, st_0, st_s, ix_0, ix_1, ix_2, Op2.o, Cm.o, BI.o, ME.o, ME.rv, is_o, eq_int, cmp_int, overT, nop_cmp, nop_chain, nop_and, nop_or, nop_not, nop_call, nop_bi, nop_ite, nop_ix, nop_v, nop_int, nop_op, nop_neg, nop_nop, wE_lc_cmp, wE_lc_chain, wE_lc_and, wE_lc_or, wE_lc_not, wE_lc_call, wE_lc_bi, wE_lc_ite, wE_lc_ix, wE_lc_v, List.replicate_succ, List.replicate_zero, Nat.reduceAdd, Nat.reduceSub, oT_s, oT_n, eq_io, eq_oi, is_i, is_n, Bool.xor_true, Bool.xor_false, Bool.false_xor, Bool.true_xor, Bool.not_true, Bool.not_false, mk_t, bodyC_n, bodyC_n1, bodyD_n, wE_isi, cIsinst, isTy]
    exact rtn q
  | bl x =>
    simp only [lwSame, start0, wSs_cons, wSs_nil, wS_set, wS_unp, wS_setix, wS_aug, wS_expr, wS_ret, wS_retN, wS_ife, wS_for, wS_while, wS_pass, wS_brk, wS_cont, wE_v, wE_non, wE_bl, wE_int, wE_str, wE_neg, wE_op, wE_cmp, wE_chain, wE_and, wE_or, wE_not, wE_ite, wE_ix, wE_sl, wE_tup, wE_lst, wE_dnew, wE_call, wE_bi, wE_isi, wE_me, wE_lc0, wE_dc, wE_sset, wE_frz, wEs_nil, wEs_cons, wI_over, wI_rng1, wI_rng2, List.map_cons, List.map_nil, List.length_cons, List.length_nil, List.cons_append, List.nil_append, lk_0, lk_s, st_0, st_s, ix_0, ix_1, ix_2, Op2.o, Cm.o, BI.o, ME.o, ME.rv, is_o, eq_int, cmp_int, overT, nop_cmp, nop_chain, nop_and, nop_or, nop_not, nop_call, nop_bi, nop_ite, nop_ix, nop_v, nop_int, nop_op, nop_neg, nop_nop, wE_lc_cmp, wE_lc_chain, wE_lc_and, wE_lc_or, wE_lc_not, wE_lc_call, wE_lc_bi, wE_lc_ite, wE_lc_ix, wE_lc_v, List.replicate_succ, List.replicate_zero, Nat.reduceAdd, Nat.reduceSub, oT_s, oT_n, eq_io, eq_oi, is_i, is_n, Bool.xor_true, Bool.xor_false, Bool.false_xor, Bool.true_xor, Bool.not_true, Bool.not_false, mk_t, bodyC_n, bodyC_n1, bodyD_n, wE_isi, cIsinst, isTy, eq_refl_bl]
    exact rtn q
  | int x =>
    simp only [lwSame, start0, wSs_cons, wSs_nil, wS_set, wS_unp, wS_setix, wS_aug, wS_expr, wS_ret, wS_retN, wS_ife, wS_for, wS_while, wS_pass, wS_brk, wS_cont, wE_v, wE_non, wE_bl, wE_int, wE_str, wE_neg, wE_op, wE_cmp, wE_chain, wE_and, wE_or, wE_not, wE_ite, wE_ix, wE_sl, wE_tup, wE_lst, wE_dnew, wE_call, wE_bi, wE_isi, wE_me, wE_lc0, wE_dc, wE_sset, wE_frz, wEs_nil, wEs_cons, wI_over, wI_rng1, wI_rng2, List.map_cons, List.map_nil, List.length_cons, List.length_nil, List.cons_append, List.nil_append, lk_0, lk_s, st_0, st_s, ix_0, ix_1, ix_2, Op2.o, Cm.o, BI.o, ME.o, ME.rv, is_o, eq_int, cmp_int, overT, nop_cmp, nop_chain, nop_and, nop_or, nop_not, nop_call, nop_bi, nop_ite, nop_ix, nop_v, nop_int, nop_op, nop_neg, nop_nop, wE_lc_cmp, wE_lc_chain, wE_lc_and, wE_lc_or, wE_lc_not, wE_lc_call, wE_lc_bi, wE_lc_ite, wE_lc_ix, wE_lc_v, List.replicate_succ, List.replicate_zero, Nat.reduceAdd, Nat.reduceSub, oT_s, oT_n, eq_io, eq_oi, is_i, is_n, Bool.xor_true, Bool.xor_false, Bool.false_xor, Bool.true_xor, Bool.not_true, Bool.not_false, mk_t, bodyC_n, bodyC_n1, bodyD_n, wE_isi, cIsinst, isTy, decide_true]
    exact rtn q
  | str x =>
    have f' : PyData.strOk x = true := by
      cases d <;> exact f
    simp only [lwSame, start0, wSs_cons, wSs_nil, wS_set, wS_unp, wS_setix, wS_aug, wS_expr, wS_ret, wS_retN, wS_ife, wS_for, wS_while, wS_pass, wS_brk, wS_cont, wE_v, wE_non, wE_bl, wE_int, wE_str, wE_neg, wE_op, wE_cmp, wE_chain, wE_and, wE_or, wE_not, wE_ite, wE_ix, wE_sl, wE_tup, wE_lst, wE_dnew, wE_call, wE_bi, wE_isi, wE_me, wE_lc0, wE_dc, wE_sset, wE_frz, wEs_nil, wEs_cons, wI_over, wI_rng1, wI_rng2, List.map_cons, List.map_nil, List.length_cons, List.length_nil, List.cons_append, List.nil_append, lk_0, lk_s, st_0, st_s, ix_0, ix_1, ix_2, Op2.o, Cm.o, BI.o, ME.o, ME.rv, is_o, eq_int, cmp_int, overT, nop_cmp, nop_chain, nop_and, nop_or, nop_not, nop_call, nop_bi, nop_ite, nop_ix, nop_v, nop_int, nop_op, nop_neg, nop_nop, wE_lc_cmp, wE_lc_chain, wE_lc_and, wE_lc_or, wE_lc_not, wE_lc_call, wE_lc_bi, wE_lc_ite, wE_lc_ix, wE_lc_v, List.replicate_succ, List.replicate_zero, Nat.reduceAdd, Nat.reduceSub, oT_s, oT_n, eq_io, eq_oi, is_i, is_n, Bool.xor_true, Bool.xor_false, Bool.false_xor, Bool.true_xor, Bool.not_true, Bool.not_false, mk_t, bodyC_n, bodyC_n1, bodyD_n, wE_isi, cIsinst, isTy, eq_refl_str f']
    exact rtn q
  | tup l =>
    cases d with
    | zero => exact f.elim
    | succ d =>
      unfold flatD at f
      have hk' : C k = sp_same d := hk.resolve_left (Nat.succ_ne_zero d)
      have len : ∀ {Q : KT}, cLen [.tup l] H Q = Q (.int (l.length : Int)) H := fun {Q} => rfl
      have isn : ∀ {Q : KT}, oIs false (.tup l) .non H Q = Q (.bl false) H := fun {Q} => by simp [oIs, isNon]
      simp only [lwSame, start0, wSs_cons, wSs_nil, wS_set, wS_unp, wS_setix, wS_aug, wS_expr, wS_ret, wS_retN, wS_ife, wS_for, wS_while, wS_pass, wS_brk, wS_cont, wE_v, wE_non, wE_bl, wE_int, wE_str, wE_neg, wE_op, wE_cmp, wE_chain, wE_and, wE_or, wE_not, wE_ite, wE_ix, wE_sl, wE_tup, wE_lst, wE_dnew, wE_call, wE_bi, wE_isi, wE_me, wE_lc0, wE_dc, wE_sset, wE_frz, wEs_nil, wEs_cons, wI_over, wI_rng1, wI_rng2, List.map_cons, List.map_nil, List.length_cons, List.length_nil, List.cons_append, List.nil_append, lk_0, lk_s, st_0, st_s, ix_0, ix_1, ix_2, Op2.o, Cm.o, BI.o, ME.o, ME.rv, is_o, eq_int, cmp_int, overT, nop_cmp, nop_chain, nop_and, nop_or, nop_not, nop_call, nop_bi, nop_ite, nop_ix, nop_v, nop_int, nop_op, nop_neg, nop_nop, wE_lc_cmp, wE_lc_chain, wE_lc_and, wE_lc_or, wE_lc_not, wE_lc_call, wE_lc_bi, wE_lc_ite, wE_lc_ix, wE_lc_v, List.replicate_succ, List.replicate_zero, Nat.reduceAdd, Nat.reduceSub, oT_s, oT_n, eq_io, eq_oi, is_i, is_n, Bool.xor_true, Bool.xor_false, Bool.false_xor, Bool.true_xor, Bool.not_true, Bool.not_false, mk_t, bodyC_n, bodyC_n1, bodyD_n, wE_isi, cIsinst, isTy, len, isn, decide_true, rng_n f.1]
      have loop : ∀ (r : List Nat) (x : Option T), (∀ i ∈ r, i < l.length) → forGo (fun _ => True) (loopB C (.n 2) (lwSameL k)) (r.map nT) { nx := wSs C (.cons (.ret (.bl true)) .nil) (bodyEnds Q), rt := (bodyEnds Q).rt, bk := (bodyEnds Q).bk, ct := (bodyEnds Q).ct } [some (.tup l), some (.tup l), x] H := by
        intro r
        induction r with
        | nil =>
          intro x _
          simp only [List.map_nil, forGo_nil, wSs_cons, wSs_nil, wS_set, wS_unp, wS_setix, wS_aug, wS_expr, wS_ret, wS_retN, wS_ife, wS_for, wS_while, wS_pass, wS_brk, wS_cont, wE_v, wE_non, wE_bl, wE_int, wE_str, wE_neg, wE_op, wE_cmp, wE_chain, wE_and, wE_or, wE_not, wE_ite, wE_ix, wE_sl, wE_tup, wE_lst, wE_dnew, wE_call, wE_bi, wE_isi, wE_me, wE_lc0, wE_dc, wE_sset, wE_frz, wEs_nil, wEs_cons, wI_over, wI_rng1, wI_rng2, List.map_cons, List.map_nil, List.length_cons, List.length_nil, List.cons_append, List.nil_append, lk_0, lk_s, st_0, st_s, ix_0, ix_1, ix_2, Op2.o, Cm.o, BI.o, ME.o, ME.rv, is_o, eq_int, cmp_int, overT, nop_cmp, nop_chain, nop_and, nop_or, nop_not, nop_call, nop_bi, nop_ite, nop_ix, nop_v, nop_int, nop_op, nop_neg, nop_nop, wE_lc_cmp, wE_lc_chain, wE_lc_and, wE_lc_or, wE_lc_not, wE_lc_call, wE_lc_bi, wE_lc_ite, wE_lc_ix, wE_lc_v, List.replicate_succ, List.replicate_zero, Nat.reduceAdd, Nat.reduceSub, oT_s, oT_n, eq_io, eq_oi, is_i, is_n, Bool.xor_true, Bool.xor_false, Bool.false_xor, Bool.true_xor, Bool.not_true, Bool.not_false, mk_t, bodyC_n, bodyC_n1, bodyD_n, true_and]
          exact rtn q
        | cons i r ih =>
          intro x hr
          have hi := hr i List.mem_cons_self
          have e : ∀ {Q : KT}, oIx (.tup l) (.int (i : Int)) H Q = Q l[i] H := fun {Q} => ix_lit (atI_nat (List.getElem?_eq_getElem hi))
          simp only [List.map_cons, forGo_cons, loopB_n, lwSameL, wSs_cons, wSs_nil, wS_set, wS_unp, wS_setix, wS_aug, wS_expr, wS_ret, wS_retN, wS_ife, wS_for, wS_while, wS_pass, wS_brk, wS_cont, wE_v, wE_non, wE_bl, wE_int, wE_str, wE_neg, wE_op, wE_cmp, wE_chain, wE_and, wE_or, wE_not, wE_ite, wE_ix, wE_sl, wE_tup, wE_lst, wE_dnew, wE_call, wE_bi, wE_isi, wE_me, wE_lc0, wE_dc, wE_sset, wE_frz, wEs_nil, wEs_cons, wI_over, wI_rng1, wI_rng2, List.map_cons, List.map_nil, List.length_cons, List.length_nil, List.cons_append, List.nil_append, lk_0, lk_s, st_0, st_s, ix_0, ix_1, ix_2, Op2.o, Cm.o, BI.o, ME.o, ME.rv, is_o, eq_int, cmp_int, overT, nop_cmp, nop_chain, nop_and, nop_or, nop_not, nop_call, nop_bi, nop_ite, nop_ix, nop_v, nop_int, nop_op, nop_neg, nop_nop, wE_lc_cmp, wE_lc_chain, wE_lc_and, wE_lc_or, wE_lc_not, wE_lc_call, wE_lc_bi, wE_lc_ite, wE_lc_ix, wE_lc_v, List.replicate_succ, List.replicate_zero, Nat.reduceAdd, Nat.reduceSub, oT_s, oT_n, eq_io, eq_oi, is_i, is_n, Bool.xor_true, Bool.xor_false, Bool.false_xor, Bool.true_xor, Bool.not_true, Bool.not_false, mk_t, bodyC_n, bodyC_n1, bodyD_n, true_and, e, hk']
          refine ⟨l[i], rfl, f.2 _ (List.getElem_mem hi), ?_⟩
          simp only [Bool.not_true]
          exact ih _ fun j hj => hr j (List.mem_cons_of_mem _ hj)
      exact loop (List.range l.length) none fun i hi => List.mem_range.mp hi
  | _ => cases d <;> exact f.elim
end TL
set_option maxRecDepth 100000
set_option maxHeartbeats 1000000
namespace TL
open PySem PySem.Spec L2
def lwDrawsL : Ss := (.cons (.set 6 (.op .mod (.v 5) (.bi .len (.cons (.v 2) .nil))))
  (.cons (.ife (.and (.cmp .ge (.ix (.v 2) (.v 6)) (.op .pow (.int 10) (.int 18))) (.cmp .gt (.ix (.v 3) (.v 6)) (.int 0))) (.cons (.expr (.me .append (.v 4) (.cons (.op .mod (.bi .int (.cons (.ix (.v 3) (.v 6)) .nil)) (.int 1000)) .nil)))
  (.cons (.setix (.v 3) (.v 6) (.op .div (.ix (.v 3) (.v 6)) (.int 1000)))
  .nil)) (.cons (.set 8 (.op .mod (.bi .int (.cons (.op (.add true) (.op (.add true) (.op (.mul true) (.ix (.v 2) (.v 6)) (.int 48271)) (.op (.mul true) (.v 5) (.int 69621))) (.int 11)) .nil)) (.int 2147483647)))
  (.cons (.expr (.me .append (.v 4) (.cons (.op .mod (.bi .int (.cons (.op (.add true) (.op (.add true) (.op (.mul true) (.v 8) (.v 8)) (.op (.mul true) (.int 3) (.v 8))) (.v 5)) .nil)) (.int 1000003)) .nil)))
  .nil)))
  .nil))
def lwDraws : Ss := (.cons (.set 2 (.lc false (.n 7) (.over (.v 0)) (.bi .int (.cons (.v 7) .nil)) .nop))
  (.cons (.ife (.cmp .eq (.bi .len (.cons (.v 2) .nil)) (.int 0)) (.cons (.expr (.me .append (.v 2) (.cons (.int 0) .nil)))
  .nil) .nil)
  (.cons (.set 3 (.bi (.list false) (.cons (.v 2) .nil)))
  (.cons (.set 4 (.lst false .nil))
  (.cons (.for_ (.n 5) (.rng1 (.v 1)) lwDrawsL)
  (.cons (.expr (.me .reverse (.v 4) .nil))
  (.cons (.ret (.v 4))
  .nil)))))))
def sp_draws : TSp := fun ts H Q => ∃ (ns : List Int) (m : Nat), ts = [.scr (ns.map .int), nT m] ∧ ns.length ≤ 1000 ∧ m ≤ 100000 ∧ ∀ (p : Addr) (ds : List Int), H p = none → Q (.ref p) (up H p (.lst (ds.map .int)))
/-- three objects of a def's own -/
structure Thr (H : TH) (p q d : Addr) (A B D : TO) (Hx : TH) : Prop where
  np : H p = none
  nq : H q = none
  nd : H d = none
  pq : p ≠ q
  pd : p ≠ d
  qd : q ≠ d
  p : Hx p = some A
  q : Hx q = some B
  d : Hx d = some D
  sub : Sub H Hx
theorem Thr.mk0 {H : TH} {p q d : Addr} {A B D : TO} (hp : H p = none) (hq : up H p A q = none) (hd : up (up H p A) q B d = none) : Thr H p q d A B D (up (up (up H p A) q B) d D) := by
  have pq : p ≠ q := fun e => by
    subst e
    rw [up_same] at hq
    cases hq
  have qd : q ≠ d := fun e => by
    subst e
    rw [up_same] at hd
    cases hd
  rw [up_ne pq.symm] at hq
  rw [up_ne qd.symm] at hd
  have pd : p ≠ d := fun e => by
    subst e
    rw [up_same] at hd
    cases hd
  rw [up_ne pd.symm] at hd
  refine ⟨hp, hq, hd, pq, pd, qd, ?_, ?_, up_same, fun a o h => ?_⟩
  · rw [up_ne pd, up_ne pq, up_same]
  · rw [up_ne qd, up_same]
  · rw [up_ne (ne_up h hd), up_ne (ne_up h hq), up_ne (ne_up h hp)]
    exact h
theorem Thr.setq {H : TH} {p q d : Addr} {A B D B' : TO} {Hx : TH} (h : Thr H p q d A B D Hx) : Thr H p q d A B' D (up Hx q B') :=
  ⟨h.np, h.nq, h.nd, h.pq, h.pd, h.qd, by rw [up_ne h.pq]; exact h.p, up_same, by rw [up_ne h.qd.symm]; exact h.d, fun a o e => by rw [up_ne (ne_up e h.nq)]; exact h.sub a o e⟩
theorem Thr.setd {H : TH} {p q d : Addr} {A B D D' : TO} {Hx : TH} (h : Thr H p q d A B D Hx) : Thr H p q d A B D' (up Hx d D') :=
  ⟨h.np, h.nq, h.nd, h.pq, h.pd, h.qd, by rw [up_ne h.pd]; exact h.p, by rw [up_ne h.qd]; exact h.q, up_same, fun a o e => by rw [up_ne (ne_up e h.nd)]; exact h.sub a o e⟩
theorem Thr.fin {H : TH} {p q d : Addr} {A B D : TO} {Hx : TH} (h : Thr H p q d A B D Hx) : Sub (up H d D) Hx := fun a o e => by
  by_cases z : a = d
  · subst z
    rw [up_same] at e
    rw [h.d]
    exact e
  · rw [up_ne z] at e
    exact h.sub a o e
theorem mul_ii {b : Bool} {i j : Int} {H : TH} {Q : KT} : oMul b (.int i) (.int j) H Q = (CMul i j ∧ Q (.int (i * j)) H) := rfl
theorem mod_ii {i j : Int} {H : TH} {Q : KT} : oMod (.int i) (.int j) H Q = (0 < j ∧ Q (.int (i % j)) H) := rfl
theorem div_ii {i j : Int} {H : TH} {Q : KT} : oDiv (.int i) (.int j) H Q = (CDiv i j ∧ Q (.int (i / j)) H) := rfl
theorem pow_ii {i j : Int} {H : TH} {Q : KT} : oPow (.int i) (.int j) H Q = (CPow i j ∧ Q (.int (i ^ j.toNat)) H) := rfl
theorem int_i {i : Int} {H : TH} {Q : KT} : cInt [.int i] H Q = Q (.int i) H := rfl
theorem set_ln {H : TH} {p : Addr} {ts : List T} (e : H p = some (.lst ts)) {j : Nat} (h : j < ts.length) {w : T} {R : TH → Prop} : oSet (.ref p) (.int (j : Int)) w H R = R (up H p (.lst (ts.set j w))) := set_l e (ixN_nat h)
theorem ix_ln {H : TH} {p : Addr} {ns : List Int} (e : H p = some (.lst (ns.map .int))) {j : Nat} (h : j < ns.length) {Q : KT} : oIx (.ref p) (.int (j : Int)) H Q = Q (.int ns[j]) H := ix_l e (atI_nat (by rw [List.getElem?_map, List.getElem?_eq_getElem h]; rfl))
theorem w_draws {C : Nat → TSp} {n0 n1 n2 n3 n4 n5 n6 n7 n8 : Str} (ts : List T) (H : TH) (Q : KT) (h : sp_draws ts H Q) : wSs C lwDraws (bodyEnds Q) (start0 [n0, n1, n2, n3, n4, n5, n6, n7, n8] ts) H := by
  obtain ⟨ns, m, rfl, hn, hm, hQ⟩ := h
  simp only [lwDraws, start0, wSs_cons, wSs_nil, wS_set, wS_unp, wS_setix, wS_aug, wS_expr, wS_ret, wS_retN, wS_ife, wS_for, wS_while, wS_pass, wS_brk, wS_cont, wE_v, wE_non, wE_bl, wE_int, wE_str, wE_neg, wE_op, wE_cmp, wE_chain, wE_and, wE_or, wE_not, wE_ite, wE_ix, wE_sl, wE_tup, wE_lst, wE_dnew, wE_call, wE_bi, wE_isi, wE_me, wE_lc0, wE_dc, wE_sset, wE_frz, wEs_nil, wEs_cons, wI_over, wI_rng1, wI_rng2, List.map_cons, List.map_nil, List.length_cons, List.length_nil, List.cons_append, List.nil_append, lk_0, lk_s, st_0, st_s, ix_0, ix_1, ix_2, Op2.o, Cm.o, BI.o, ME.o, ME.rv, is_o, eq_int, cmp_int, overT, nop_cmp, nop_chain, nop_and, nop_or, nop_not, nop_call, nop_bi, nop_ite, nop_ix, nop_v, nop_int, nop_op, nop_neg, nop_nop, wE_lc_cmp, wE_lc_chain, wE_lc_and, wE_lc_or, wE_lc_not, wE_lc_call, wE_lc_bi, wE_lc_ite, wE_lc_ix, wE_lc_v, List.replicate_succ, List.replicate_zero, Nat.reduceAdd, Nat.reduceSub, oT_s, oT_n, eq_io, eq_oi, is_i, is_n, Bool.xor_true, Bool.xor_false, Bool.false_xor, Bool.true_xor, Bool.not_true, Bool.not_false, mk_t, bodyC_n, bodyC_n1, bodyD_n]
  refine lc_map (α := Int) (enc := T.int) (f := T.int) trivial (fun a _ G g => ?_) (sz (by omega)) ?_
  · simp only [wSs_cons, wSs_nil, wS_set, wS_unp, wS_setix, wS_aug, wS_expr, wS_ret, wS_retN, wS_ife, wS_for, wS_while, wS_pass, wS_brk, wS_cont, wE_v, wE_non, wE_bl, wE_int, wE_str, wE_neg, wE_op, wE_cmp, wE_chain, wE_and, wE_or, wE_not, wE_ite, wE_ix, wE_sl, wE_tup, wE_lst, wE_dnew, wE_call, wE_bi, wE_isi, wE_me, wE_lc0, wE_dc, wE_sset, wE_frz, wEs_nil, wEs_cons, wI_over, wI_rng1, wI_rng2, List.map_cons, List.map_nil, List.length_cons, List.length_nil, List.cons_append, List.nil_append, lk_0, lk_s, st_0, st_s, ix_0, ix_1, ix_2, Op2.o, Cm.o, BI.o, ME.o, ME.rv, is_o, eq_int, cmp_int, overT, nop_cmp, nop_chain, nop_and, nop_or, nop_not, nop_call, nop_bi, nop_ite, nop_ix, nop_v, nop_int, nop_op, nop_neg, nop_nop, wE_lc_cmp, wE_lc_chain, wE_lc_and, wE_lc_or, wE_lc_not, wE_lc_call, wE_lc_bi, wE_lc_ite, wE_lc_ix, wE_lc_v, List.replicate_succ, List.replicate_zero, Nat.reduceAdd, Nat.reduceSub, oT_s, oT_n, eq_io, eq_oi, is_i, is_n, Bool.xor_true, Bool.xor_false, Bool.false_xor, Bool.true_xor, Bool.not_true, Bool.not_false, mk_t, bodyC_n, bodyC_n1, bodyD_n, cInt]
    exact g
  simp only [mk_f]
  intro p hp
  have rest : ∀ (cs : List Int), 0 < cs.length → cs.length ≤ 1000 → ∀ Hx, Hx = up H p (.lst (cs.map .int)) →
      wSs C (.cons (.set 3 (.bi (.list false) (.cons (.v 2) .nil))) (.cons (.set 4 (.lst false .nil)) (.cons (.for_ (.n 5) (.rng1 (.v 1)) lwDrawsL) (.cons (.expr (.me .reverse (.v 4) .nil)) (.cons (.ret (.v 4)) .nil))))) (bodyEnds Q)
        [some (.scr (ns.map .int)), some (nT m), some (.ref p), none, none, none, none, none, none] Hx := by
    intro cs hc0 hc Hx eH
    subst eH
    simp only [wSs_cons, wSs_nil, wS_set, wS_unp, wS_setix, wS_aug, wS_expr, wS_ret, wS_retN, wS_ife, wS_for, wS_while, wS_pass, wS_brk, wS_cont, wE_v, wE_non, wE_bl, wE_int, wE_str, wE_neg, wE_op, wE_cmp, wE_chain, wE_and, wE_or, wE_not, wE_ite, wE_ix, wE_sl, wE_tup, wE_lst, wE_dnew, wE_call, wE_bi, wE_isi, wE_me, wE_lc0, wE_dc, wE_sset, wE_frz, wEs_nil, wEs_cons, wI_over, wI_rng1, wI_rng2, List.map_cons, List.map_nil, List.length_cons, List.length_nil, List.cons_append, List.nil_append, lk_0, lk_s, st_0, st_s, ix_0, ix_1, ix_2, Op2.o, Cm.o, BI.o, ME.o, ME.rv, is_o, eq_int, cmp_int, overT, nop_cmp, nop_chain, nop_and, nop_or, nop_not, nop_call, nop_bi, nop_ite, nop_ix, nop_v, nop_int, nop_op, nop_neg, nop_nop, wE_lc_cmp, wE_lc_chain, wE_lc_and, wE_lc_or, wE_lc_not, wE_lc_call, wE_lc_bi, wE_lc_ite, wE_lc_ix, wE_lc_v, List.replicate_succ, List.replicate_zero, Nat.reduceAdd, Nat.reduceSub, oT_s, oT_n, eq_io, eq_oi, is_i, is_n, Bool.xor_true, Bool.xor_false, Bool.false_xor, Bool.true_xor, Bool.not_true, Bool.not_false, mk_t, bodyC_n, bodyC_n1, bodyD_n, cList, seqOf, up_same, mk_f, rng_n (show m ≤ 16777216 by omega)]
    intro q hq
    refine ⟨sz (by decide), fun d hd => ?_⟩
    have loop : ∀ (r : List Nat) (rs ds : List Int) (x y z w : Option T) (Hx : TH), rs.length = cs.length → ds.length + r.length ≤ 100000 → Thr H p q d (.lst (cs.map .int)) (.lst (rs.map .int)) (.lst (ds.map .int)) Hx →
        forGo (fun _ => True) (loopB C (.n 5) lwDrawsL) (r.map nT) { nx := wSs C (.cons (.expr (.me .reverse (.v 4) .nil)) (.cons (.ret (.v 4)) .nil)) (bodyEnds Q), rt := (bodyEnds Q).rt, bk := (bodyEnds Q).bk, ct := (bodyEnds Q).ct }
          [some (.scr (ns.map .int)), some (nT m), some (.ref p), some (.ref q), some (.ref d), x, y, z, w] Hx := by
      intro r
      induction r with
      | nil =>
        intro rs ds x y z w Hx _ _ t
        simp only [List.map_nil, forGo_nil, wSs_cons, wSs_nil, wS_set, wS_unp, wS_setix, wS_aug, wS_expr, wS_ret, wS_retN, wS_ife, wS_for, wS_while, wS_pass, wS_brk, wS_cont, wE_v, wE_non, wE_bl, wE_int, wE_str, wE_neg, wE_op, wE_cmp, wE_chain, wE_and, wE_or, wE_not, wE_ite, wE_ix, wE_sl, wE_tup, wE_lst, wE_dnew, wE_call, wE_bi, wE_isi, wE_me, wE_lc0, wE_dc, wE_sset, wE_frz, wEs_nil, wEs_cons, wI_over, wI_rng1, wI_rng2, List.map_cons, List.map_nil, List.length_cons, List.length_nil, List.cons_append, List.nil_append, lk_0, lk_s, st_0, st_s, ix_0, ix_1, ix_2, Op2.o, Cm.o, BI.o, ME.o, ME.rv, is_o, eq_int, cmp_int, overT, nop_cmp, nop_chain, nop_and, nop_or, nop_not, nop_call, nop_bi, nop_ite, nop_ix, nop_v, nop_int, nop_op, nop_neg, nop_nop, wE_lc_cmp, wE_lc_chain, wE_lc_and, wE_lc_or, wE_lc_not, wE_lc_call, wE_lc_bi, wE_lc_ite, wE_lc_ix, wE_lc_v, List.replicate_succ, List.replicate_zero, Nat.reduceAdd, Nat.reduceSub, oT_s, oT_n, eq_io, eq_oi, is_i, is_n, Bool.xor_true, Bool.xor_false, Bool.false_xor, Bool.true_xor, Bool.not_true, Bool.not_false, mk_t, bodyC_n, bodyC_n1, bodyD_n, true_and]
        refine ⟨recv_l t.d, ?_⟩
        rw [reverse_l t.d]
        have t2 := t.setd (D' := .lst (ds.reverse.map .int))
        rw [List.map_reverse] at t2
        have := hQ d ds.reverse t.nd
        rw [List.map_reverse] at this
        exact rts t2.fin this
      | cons k r ih =>
        intro rs ds x y z w Hx hl hlen t
        rw [List.length_cons] at hlen
        have hj : k % cs.length < cs.length := Nat.mod_lt _ hc0
        have hj2 : k % cs.length < rs.length := hl.symm ▸ hj
        have e1 : ((k : Int) % (cs.length : Int)) = ((k % cs.length : Nat) : Int) := rfl
        have e18 : ((10 : Int) ^ (18 : Int).toNat) = 1000000000000000000 := by decide
        have small : ∀ {n : Int}, (10 : Int) ^ 2 < 0 → n = 0 := fun z => by omega
        simp only [List.map_cons, forGo_cons, loopB_n, lwDrawsL, wSs_cons, wSs_nil, wS_set, wS_unp, wS_setix, wS_aug, wS_expr, wS_ret, wS_retN, wS_ife, wS_for, wS_while, wS_pass, wS_brk, wS_cont, wE_v, wE_non, wE_bl, wE_int, wE_str, wE_neg, wE_op, wE_cmp, wE_chain, wE_and, wE_or, wE_not, wE_ite, wE_ix, wE_sl, wE_tup, wE_lst, wE_dnew, wE_call, wE_bi, wE_isi, wE_me, wE_lc0, wE_dc, wE_sset, wE_frz, wEs_nil, wEs_cons, wI_over, wI_rng1, wI_rng2, List.map_cons, List.map_nil, List.length_cons, List.length_nil, List.cons_append, List.nil_append, lk_0, lk_s, st_0, st_s, ix_0, ix_1, ix_2, Op2.o, Cm.o, BI.o, ME.o, ME.rv, is_o, eq_int, cmp_int, overT, nop_cmp, nop_chain, nop_and, nop_or, nop_not, nop_call, nop_bi, nop_ite, nop_ix, nop_v, nop_int, nop_op, nop_neg, nop_nop, wE_lc_cmp, wE_lc_chain, wE_lc_and, wE_lc_or, wE_lc_not, wE_lc_call, wE_lc_bi, wE_lc_ite, wE_lc_ix, wE_lc_v, List.replicate_succ, List.replicate_zero, Nat.reduceAdd, Nat.reduceSub, oT_s, oT_n, eq_io, eq_oi, is_i, is_n, Bool.xor_true, Bool.xor_false, Bool.false_xor, Bool.true_xor, Bool.not_true, Bool.not_false, mk_t, bodyC_n, bodyC_n1, bodyD_n, true_and, len_l t.p, List.length_map, mod_ii, e1, ix_ln t.p hj, pow_ii, e18]
        refine ⟨by omega, ⟨by decide, by decide, by decide⟩, ?_⟩
        have second : wSs C (.cons (.set 8 (.op .mod (.bi .int (.cons (.op (.add true) (.op (.add true) (.op (.mul true) (.ix (.v 2) (.v 6)) (.int 48271)) (.op (.mul true) (.v 5) (.int 69621))) (.int 11)) .nil)) (.int 2147483647))) (.cons (.expr (.me .append (.v 4) (.cons (.op .mod (.bi .int (.cons (.op (.add true) (.op (.add true) (.op (.mul true) (.v 8) (.v 8)) (.op (.mul true) (.int 3) (.v 8))) (.v 5)) .nil)) (.int 1000003)) .nil))) .nil))
            { nx := forGo (fun _ => True) (loopB C (.n 5) lwDrawsL) (r.map nT) { nx := wSs C (.cons (.expr (.me .reverse (.v 4) .nil)) (.cons (.ret (.v 4)) .nil)) (bodyEnds Q), rt := (bodyEnds Q).rt, bk := (bodyEnds Q).bk, ct := (bodyEnds Q).ct }, rt := (bodyEnds Q).rt, bk := wSs C (.cons (.expr (.me .reverse (.v 4) .nil)) (.cons (.ret (.v 4)) .nil)) (bodyEnds Q), ct := forGo (fun _ => True) (loopB C (.n 5) lwDrawsL) (r.map nT) { nx := wSs C (.cons (.expr (.me .reverse (.v 4) .nil)) (.cons (.ret (.v 4)) .nil)) (bodyEnds Q), rt := (bodyEnds Q).rt, bk := (bodyEnds Q).bk, ct := (bodyEnds Q).ct } }
            [some (.scr (ns.map .int)), some (nT m), some (.ref p), some (.ref q), some (.ref d), some (nT k), some (.int ((k % cs.length : Nat) : Int)), z, w] Hx := by
          simp only [wSs_cons, wSs_nil, wS_set, wS_unp, wS_setix, wS_aug, wS_expr, wS_ret, wS_retN, wS_ife, wS_for, wS_while, wS_pass, wS_brk, wS_cont, wE_v, wE_non, wE_bl, wE_int, wE_str, wE_neg, wE_op, wE_cmp, wE_chain, wE_and, wE_or, wE_not, wE_ite, wE_ix, wE_sl, wE_tup, wE_lst, wE_dnew, wE_call, wE_bi, wE_isi, wE_me, wE_lc0, wE_dc, wE_sset, wE_frz, wEs_nil, wEs_cons, wI_over, wI_rng1, wI_rng2, List.map_cons, List.map_nil, List.length_cons, List.length_nil, List.cons_append, List.nil_append, lk_0, lk_s, st_0, st_s, ix_0, ix_1, ix_2, Op2.o, Cm.o, BI.o, ME.o, ME.rv, is_o, eq_int, cmp_int, overT, nop_cmp, nop_chain, nop_and, nop_or, nop_not, nop_call, nop_bi, nop_ite, nop_ix, nop_v, nop_int, nop_op, nop_neg, nop_nop, wE_lc_cmp, wE_lc_chain, wE_lc_and, wE_lc_or, wE_lc_not, wE_lc_call, wE_lc_bi, wE_lc_ite, wE_lc_ix, wE_lc_v, List.replicate_succ, List.replicate_zero, Nat.reduceAdd, Nat.reduceSub, oT_s, oT_n, eq_io, eq_oi, is_i, is_n, Bool.xor_true, Bool.xor_false, Bool.false_xor, Bool.true_xor, Bool.not_true, Bool.not_false, mk_t, bodyC_n, bodyC_n1, bodyD_n, ix_ln t.p hj, mul_ii, add_ii, int_i, mod_ii]
          refine ⟨.inr ⟨by decide, by decide⟩, .inr ⟨by decide, by decide⟩, by decide, recv_l t.d, ?_⟩
          generalize eo : (cs[k % cs.length] * 48271 + (k : Int) * 69621 + 11) % 2147483647 = once
          have o1 : 0 ≤ once := eo ▸ Int.emod_nonneg _ (by decide)
          have o2 : once < 2147483647 := eo ▸ Int.emod_lt_of_pos _ (by decide)
          refine ⟨.inr ⟨by omega, by omega⟩, .inl ⟨by decide, by decide⟩, by decide, ?_⟩
          rw [append_l t.d, List.length_map]
          refine ⟨sz' (by omega), ?_⟩
          have t2 := t.setd (D' := .lst ((ds ++ [(once * once + 3 * once + (k : Int)) % 1000003]).map .int))
          rw [List.map_append] at t2
          refine ih rs (ds ++ [(once * once + 3 * once + (k : Int)) % 1000003]) _ _ _ _ _ hl (by rw [List.length_append, List.length_singleton]; omega) (by rw [List.map_append]; exact t2)
        by_cases c1 : (1000000000000000000 : Int) ≤ cs[k % cs.length]
        · simp only [c1, decide_true, ix_ln t.q hj2, wSs_cons, wSs_nil, wS_set, wS_unp, wS_setix, wS_aug, wS_expr, wS_ret, wS_retN, wS_ife, wS_for, wS_while, wS_pass, wS_brk, wS_cont, wE_v, wE_non, wE_bl, wE_int, wE_str, wE_neg, wE_op, wE_cmp, wE_chain, wE_and, wE_or, wE_not, wE_ite, wE_ix, wE_sl, wE_tup, wE_lst, wE_dnew, wE_call, wE_bi, wE_isi, wE_me, wE_lc0, wE_dc, wE_sset, wE_frz, wEs_nil, wEs_cons, wI_over, wI_rng1, wI_rng2, List.map_cons, List.map_nil, List.length_cons, List.length_nil, List.cons_append, List.nil_append, lk_0, lk_s, st_0, st_s, ix_0, ix_1, ix_2, Op2.o, Cm.o, BI.o, ME.o, ME.rv, is_o, eq_int, cmp_int, overT, nop_cmp, nop_chain, nop_and, nop_or, nop_not, nop_call, nop_bi, nop_ite, nop_ix, nop_v, nop_int, nop_op, nop_neg, nop_nop, wE_lc_cmp, wE_lc_chain, wE_lc_and, wE_lc_or, wE_lc_not, wE_lc_call, wE_lc_bi, wE_lc_ite, wE_lc_ix, wE_lc_v, List.replicate_succ, List.replicate_zero, Nat.reduceAdd, Nat.reduceSub, oT_s, oT_n, eq_io, eq_oi, is_i, is_n, Bool.xor_true, Bool.xor_false, Bool.false_xor, Bool.true_xor, Bool.not_true, Bool.not_false, mk_t, bodyC_n, bodyC_n1, bodyD_n]
          by_cases c2 : (0 : Int) < rs[k % cs.length]
          · simp only [c2, decide_true, wSs_cons, wSs_nil, wS_set, wS_unp, wS_setix, wS_aug, wS_expr, wS_ret, wS_retN, wS_ife, wS_for, wS_while, wS_pass, wS_brk, wS_cont, wE_v, wE_non, wE_bl, wE_int, wE_str, wE_neg, wE_op, wE_cmp, wE_chain, wE_and, wE_or, wE_not, wE_ite, wE_ix, wE_sl, wE_tup, wE_lst, wE_dnew, wE_call, wE_bi, wE_isi, wE_me, wE_lc0, wE_dc, wE_sset, wE_frz, wEs_nil, wEs_cons, wI_over, wI_rng1, wI_rng2, List.map_cons, List.map_nil, List.length_cons, List.length_nil, List.cons_append, List.nil_append, lk_0, lk_s, st_0, st_s, ix_0, ix_1, ix_2, Op2.o, Cm.o, BI.o, ME.o, ME.rv, is_o, eq_int, cmp_int, overT, nop_cmp, nop_chain, nop_and, nop_or, nop_not, nop_call, nop_bi, nop_ite, nop_ix, nop_v, nop_int, nop_op, nop_neg, nop_nop, wE_lc_cmp, wE_lc_chain, wE_lc_and, wE_lc_or, wE_lc_not, wE_lc_call, wE_lc_bi, wE_lc_ite, wE_lc_ix, wE_lc_v, List.replicate_succ, List.replicate_zero, Nat.reduceAdd, Nat.reduceSub, oT_s, oT_n, eq_io, eq_oi, is_i, is_n, Bool.xor_true, Bool.xor_false, Bool.false_xor, Bool.true_xor, Bool.not_true, Bool.not_false, mk_t, bodyC_n, bodyC_n1, bodyD_n, ix_ln t.q hj2, int_i, mod_ii, div_ii]
            refine ⟨recv_l t.d, by decide, ?_⟩
            rw [append_l t.d, List.length_map]
            refine ⟨sz' (by omega), ?_⟩
            have t2 := t.setd (D' := .lst ((ds ++ [rs[k % cs.length] % 1000]).map .int))
            rw [List.map_append] at t2
            simp only [List.map_cons, List.map_nil] at t2
            simp only [ix_ln t2.q hj2, div_ii]
            refine ⟨⟨by decide, by decide⟩, ?_⟩
            rw [set_ln t2.q (by rw [List.length_map]; exact hj2)]
            have t3 := t2.setq (B' := .lst ((rs.set (k % cs.length) (rs[k % cs.length] / 1000)).map .int))
            rw [List.map_set] at t3
            refine ih (rs.set (k % cs.length) (rs[k % cs.length] / 1000)) (ds ++ [rs[k % cs.length] % 1000]) _ _ _ _ _ (by rw [List.length_set]; exact hl) (by rw [List.length_append, List.length_singleton]; omega) (by rw [List.map_append, List.map_set]; exact t3)
          · simp only [c2, decide_false]
            exact second
        · simp only [c1, decide_false]
          simp only [lwDrawsL, wSs_cons, wSs_nil, wS_set, wS_unp, wS_setix, wS_aug, wS_expr, wS_ret, wS_retN, wS_ife, wS_for, wS_while, wS_pass, wS_brk, wS_cont, wE_v, wE_non, wE_bl, wE_int, wE_str, wE_neg, wE_op, wE_cmp, wE_chain, wE_and, wE_or, wE_not, wE_ite, wE_ix, wE_sl, wE_tup, wE_lst, wE_dnew, wE_call, wE_bi, wE_isi, wE_me, wE_lc0, wE_dc, wE_sset, wE_frz, wEs_nil, wEs_cons, wI_over, wI_rng1, wI_rng2, List.map_cons, List.map_nil, List.length_cons, List.length_nil, List.cons_append, List.nil_append, lk_0, lk_s, st_0, st_s, ix_0, ix_1, ix_2, Op2.o, Cm.o, BI.o, ME.o, ME.rv, is_o, eq_int, cmp_int, overT, nop_cmp, nop_chain, nop_and, nop_or, nop_not, nop_call, nop_bi, nop_ite, nop_ix, nop_v, nop_int, nop_op, nop_neg, nop_nop, wE_lc_cmp, wE_lc_chain, wE_lc_and, wE_lc_or, wE_lc_not, wE_lc_call, wE_lc_bi, wE_lc_ite, wE_lc_ix, wE_lc_v, List.replicate_succ, List.replicate_zero, Nat.reduceAdd, Nat.reduceSub, oT_s, oT_n, eq_io, eq_oi, is_i, is_n, Bool.xor_true, Bool.xor_false, Bool.false_xor, Bool.true_xor, Bool.not_true, Bool.not_false, mk_t, bodyC_n, bodyC_n1, bodyD_n, true_and, len_l t.p, List.length_map, mod_ii, e1, ix_ln t.p hj, pow_ii, e18] at second
          exact second
    exact loop (List.range m) cs [] none none none none _ rfl (by rw [List.length_range]; simpa using hm) (Thr.mk0 hp hq hd)
  simp only [wSs_cons, wSs_nil, wS_set, wS_unp, wS_setix, wS_aug, wS_expr, wS_ret, wS_retN, wS_ife, wS_for, wS_while, wS_pass, wS_brk, wS_cont, wE_v, wE_non, wE_bl, wE_int, wE_str, wE_neg, wE_op, wE_cmp, wE_chain, wE_and, wE_or, wE_not, wE_ite, wE_ix, wE_sl, wE_tup, wE_lst, wE_dnew, wE_call, wE_bi, wE_isi, wE_me, wE_lc0, wE_dc, wE_sset, wE_frz, wEs_nil, wEs_cons, wI_over, wI_rng1, wI_rng2, List.map_cons, List.map_nil, List.length_cons, List.length_nil, List.cons_append, List.nil_append, lk_0, lk_s, st_0, st_s, ix_0, ix_1, ix_2, Op2.o, Cm.o, BI.o, ME.o, ME.rv, is_o, eq_int, cmp_int, overT, nop_cmp, nop_chain, nop_and, nop_or, nop_not, nop_call, nop_bi, nop_ite, nop_ix, nop_v, nop_int, nop_op, nop_neg, nop_nop, wE_lc_cmp, wE_lc_chain, wE_lc_and, wE_lc_or, wE_lc_not, wE_lc_call, wE_lc_bi, wE_lc_ite, wE_lc_ix, wE_lc_v, List.replicate_succ, List.replicate_zero, Nat.reduceAdd, Nat.reduceSub, oT_s, oT_n, eq_io, eq_oi, is_i, is_n, Bool.xor_true, Bool.xor_false, Bool.false_xor, Bool.true_xor, Bool.not_true, Bool.not_false, mk_t, bodyC_n, bodyC_n1, bodyD_n, len_l up_same, List.length_map]
  cases ns with
  | nil =>
    simp only [List.map_nil, List.length_nil, Int.natCast_zero, decide_true, wSs_cons, wSs_nil, wS_set, wS_unp, wS_setix, wS_aug, wS_expr, wS_ret, wS_retN, wS_ife, wS_for, wS_while, wS_pass, wS_brk, wS_cont, wE_v, wE_non, wE_bl, wE_int, wE_str, wE_neg, wE_op, wE_cmp, wE_chain, wE_and, wE_or, wE_not, wE_ite, wE_ix, wE_sl, wE_tup, wE_lst, wE_dnew, wE_call, wE_bi, wE_isi, wE_me, wE_lc0, wE_dc, wE_sset, wE_frz, wEs_nil, wEs_cons, wI_over, wI_rng1, wI_rng2, List.map_cons, List.map_nil, List.length_cons, List.length_nil, List.cons_append, List.nil_append, lk_0, lk_s, st_0, st_s, ix_0, ix_1, ix_2, Op2.o, Cm.o, BI.o, ME.o, ME.rv, is_o, eq_int, cmp_int, overT, nop_cmp, nop_chain, nop_and, nop_or, nop_not, nop_call, nop_bi, nop_ite, nop_ix, nop_v, nop_int, nop_op, nop_neg, nop_nop, wE_lc_cmp, wE_lc_chain, wE_lc_and, wE_lc_or, wE_lc_not, wE_lc_call, wE_lc_bi, wE_lc_ite, wE_lc_ix, wE_lc_v, List.replicate_succ, List.replicate_zero, Nat.reduceAdd, Nat.reduceSub, oT_s, oT_n, eq_io, eq_oi, is_i, is_n, Bool.xor_true, Bool.xor_false, Bool.false_xor, Bool.true_xor, Bool.not_true, Bool.not_false, mk_t, bodyC_n, bodyC_n1, bodyD_n]
    refine ⟨recv_l up_same, ?_⟩
    rw [append_l up_same, up_up]
    refine ⟨sz' (by decide), ?_⟩
    exact rest [0] (by decide) (by decide) _ rfl
  | cons x l =>
    have e : ¬ (((x :: l).length : Nat) : Int) = 0 := by
      rw [List.length_cons]
      omega
    have e' : ¬ ((l.length + 1 : Nat) : Int) = 0 := by omega
    simp only [List.length_cons, e', decide_false]
    exact rest (x :: l) (by simp) hn _ rfl
end TL
set_option maxRecDepth 100000
namespace K80
open PySem PySem.Spec L2 TL
def topS (i : Nat) : Stmt := PySem.Challenge.pw_texttoticks_k80_in_step_judged_state_by.main.body.getD i (.Pass ⟨0, 0, 0, 0⟩)
abbrev fNames : List Str := [(Str.ofString "states_come_to"), (Str.ofString "rows_gone_on"), (Str.ofString "shortest_way"), (Str.ofString "is_seen_there"), (Str.ofString "is_silent_way"), (Str.ofString "does_begin_see"), (Str.ofString "are_lights_seen"), (Str.ofString "is_way_seen"), (Str.ofString "states_seeing"), (Str.ofString "states_by_seen"), (Str.ofString "does_next_come"), (Str.ofString "wrong_begins"), (Str.ofString "wrong_ways"), (Str.ofString "wrong_next"), (Str.ofString "breaches_within"), (Str.ofString "first_breach"), (Str.ofString "judge_in_step"), (Str.ofString "lower_begins_see"), (Str.ofString "judge_within_step"), (Str.ofString "at_states_come_to"), (Str.ofString "silent_ways_from"), (Str.ofString "rank_by_silent"), (Str.ofString "longest_silent_rows"), (Str.ofString "least_step_ranks"), (Str.ofString "_law_draws"), (Str.ofString "_law_take"), (Str.ofString "_law_same"), (Str.ofString "_law_world"), (Str.ofString "_law_come_to"), (Str.ofString "_law_lower"), (Str.ofString "_law_sees"), (Str.ofString "_law_comes"), (Str.ofString "_law_breaches"), (Str.ofString "_law_is_within"), (Str.ofString "_law_silent"), (Str.ofString "_law_step_ranks"), (Str.ofString "_law_altered"), (Str.ofString "_law_is_judged"), (Str.ofString "law")]
/-! def states_come_to, line 2 -/
abbrev s_states_come_to : Stmt := topS 1
abbrev n_states_come_to : List Str := [(Str.ofString "world"), (Str.ofString "found"), (Str.ofString "todo"), (Str.ofString "state")]
abbrev p_states_come_to : List Str := [(Str.ofString "world")]
def b_states_come_to_L1 : Ss := (.cons (.ife (.cmp .notIn (.v 3) (.v 1)) (.cons (.setix (.v 1) (.v 3) (.bl true))
  (.cons (.expr (.me .append (.v 2) (.cons (.v 3) .nil)))
  .nil)) .nil)
  .nil)
def b_states_come_to_L2 : Ss := (.cons (.for_ (.n 3) (.over (.ix (.ix (.v 0) (.int 1)) (.me .pop (.v 2) .nil))) b_states_come_to_L1)
  .nil)
def b_states_come_to : Ss := (.cons (.set 1 (.dc (.n 3) (.over (.ix (.v 0) (.int 0))) (.v 3) (.bl true)))
  (.cons (.set 2 (.bi (.list false) (.cons (.ix (.v 0) (.int 0)) .nil)))
  (.cons (.while_ (.cmp .gt (.bi .len (.cons (.v 2) .nil)) (.int 0)) b_states_come_to_L2)
  (.cons (.ret (.bi .tuple (.cons (.bi (.sorted true) (.cons (.v 1) .nil)) .nil)))
  .nil))))
theorem c_states_come_to : FnScope n_states_come_to p_states_come_to (defScope s_states_come_to) := ⟨rfl, rfl, rfl, by decide +kernel, rfl, by decide +kernel, by decide +kernel⟩
/-! def rows_gone_on, line 11 -/
abbrev s_rows_gone_on : Stmt := topS 2
abbrev n_rows_gone_on : List Str := [(Str.ofString "world"), (Str.ofString "rows"), (Str.ofString "within"), (Str.ofString "passed"), (Str.ofString "longer"), (Str.ofString "row"), (Str.ofString "state")]
abbrev p_rows_gone_on : List Str := [(Str.ofString "world"), (Str.ofString "rows"), (Str.ofString "within"), (Str.ofString "passed")]
def b_rows_gone_on_L1 : Ss := (.cons (.ife (.and (.cmp .isIn (.ix (.v 5) (.neg (.int 1))) (.v 2)) (.cmp .notIn (.v 6) (.v 3))) (.cons (.setix (.v 3) (.v 6) (.bl true))
  (.cons (.expr (.me .append (.v 4) (.cons (.op (.add true) (.v 5) (.tup (.cons (.v 6) .nil))) .nil)))
  .nil)) .nil)
  .nil)
def b_rows_gone_on_L2 : Ss := (.cons (.for_ (.n 6) (.over (.ix (.ix (.v 0) (.int 1)) (.ix (.v 5) (.neg (.int 1))))) b_rows_gone_on_L1)
  .nil)
def b_rows_gone_on : Ss := (.cons (.set 4 (.lst false .nil))
  (.cons (.for_ (.n 5) (.over (.v 1)) b_rows_gone_on_L2)
  (.cons (.ret (.frz (.v 4)))
  .nil)))
theorem c_rows_gone_on : FnScope n_rows_gone_on p_rows_gone_on (defScope s_rows_gone_on) := ⟨rfl, rfl, rfl, by decide +kernel, rfl, by decide +kernel, by decide +kernel⟩
/-! def shortest_way, line 19 -/
abbrev s_shortest_way : Stmt := topS 3
abbrev n_shortest_way : List Str := [(Str.ofString "world"), (Str.ofString "starts"), (Str.ofString "goals"), (Str.ofString "within"), (Str.ofString "kept"), (Str.ofString "passed"), (Str.ofString "rows"), (Str.ofString "found"), (Str.ofString "state"), (Str.ofString "row")]
abbrev p_shortest_way : List Str := [(Str.ofString "world"), (Str.ofString "starts"), (Str.ofString "goals"), (Str.ofString "within")]
def b_shortest_way_L1 : Ss := (.cons (.set 6 (.call 1 (.cons (.v 0) (.cons (.v 6) (.cons (.v 4) (.cons (.v 5) .nil))))))
  (.cons (.set 7 (.lc true (.n 9) (.over (.v 6)) (.v 9) (.cmp .isIn (.ix (.v 9) (.neg (.int 1))) (.v 2))))
  (.cons (.ife (.cmp .gt (.bi .len (.cons (.v 7) .nil)) (.int 0)) (.cons (.ret (.ix (.v 7) (.int 0)))
  .nil) .nil)
  .nil)))
def b_shortest_way : Ss := (.cons (.set 4 (.dc (.n 8) (.over (.v 3)) (.v 8) (.bl true)))
  (.cons (.set 5 .dnew)
  (.cons (.set 6 (.lc true (.n 8) (.over (.bi (.sorted true) (.cons (.v 1) .nil))) (.tup (.cons (.v 8) .nil)) .nop))
  (.cons (.while_ (.cmp .gt (.bi .len (.cons (.v 6) .nil)) (.int 0)) b_shortest_way_L1)
  (.cons (.ret .non)
  .nil)))))
theorem c_shortest_way : FnScope n_shortest_way p_shortest_way (defScope s_shortest_way) := ⟨rfl, rfl, rfl, by decide +kernel, rfl, by decide +kernel, by decide +kernel⟩
/-! def is_seen_there, line 30 -/
abbrev s_is_seen_there : Stmt := topS 5
abbrev n_is_seen_there : List Str := [(Str.ofString "upper"), (Str.ofString "state")]
abbrev p_is_seen_there : List Str := [(Str.ofString "upper"), (Str.ofString "state")]
def b_is_seen_there : Ss := (.cons (.ret (.and (.cmp .notN (.v 1) .non) (.chain .le .lt (.int 0) (.v 1) (.bi .len (.cons (.ix (.v 0) (.int 1)) .nil)))))
  .nil)
theorem c_is_seen_there : FnScope n_is_seen_there p_is_seen_there (defScope s_is_seen_there) := ⟨rfl, rfl, rfl, by decide +kernel, rfl, by decide +kernel, by decide +kernel⟩
/-! def is_silent_way, line 32 -/
abbrev s_is_silent_way : Stmt := topS 6
abbrev n_is_silent_way : List Str := [(Str.ofString "upper"), (Str.ofString "seen"), (Str.ofString "s"), (Str.ofString "t")]
abbrev p_is_silent_way : List Str := [(Str.ofString "upper"), (Str.ofString "seen"), (Str.ofString "s"), (Str.ofString "t")]
def b_is_silent_way : Ss := (.cons (.ret (.and (.cmp .eq (.ix (.v 1) (.v 2)) (.ix (.v 1) (.v 3))) (.cmp .notIn (.ix (.v 1) (.v 3)) (.ix (.ix (.v 0) (.int 1)) (.ix (.v 1) (.v 2))))))
  .nil)
theorem c_is_silent_way : FnScope n_is_silent_way p_is_silent_way (defScope s_is_silent_way) := ⟨rfl, rfl, rfl, by decide +kernel, rfl, by decide +kernel, by decide +kernel⟩
/-! def does_begin_see, line 34 -/
abbrev s_does_begin_see : Stmt := topS 7
abbrev n_does_begin_see : List Str := [(Str.ofString "upper"), (Str.ofString "seen"), (Str.ofString "s")]
abbrev p_does_begin_see : List Str := [(Str.ofString "upper"), (Str.ofString "seen"), (Str.ofString "s")]
def b_does_begin_see : Ss := (.cons (.ret (.and (.cmp .notN (.ix (.v 1) (.v 2)) .non) (.cmp .isIn (.ix (.v 1) (.v 2)) (.ix (.v 0) (.int 0)))))
  .nil)
theorem c_does_begin_see : FnScope n_does_begin_see p_does_begin_see (defScope s_does_begin_see) := ⟨rfl, rfl, rfl, by decide +kernel, rfl, by decide +kernel, by decide +kernel⟩
/-! def are_lights_seen, line 36 -/
abbrev s_are_lights_seen : Stmt := topS 8
abbrev n_are_lights_seen : List Str := [(Str.ofString "lower"), (Str.ofString "upper"), (Str.ofString "seen"), (Str.ofString "ranks"), (Str.ofString "s")]
abbrev p_are_lights_seen : List Str := [(Str.ofString "lower"), (Str.ofString "upper"), (Str.ofString "seen"), (Str.ofString "ranks"), (Str.ofString "s")]
def b_are_lights_seen : Ss := (.cons (.ife (.or (.not (.call 3 (.cons (.v 1) (.cons (.ix (.v 2) (.v 4)) .nil)))) (.or (.cmp .isN (.ix (.v 3) (.v 4)) .non) (.cmp .lt (.ix (.v 3) (.v 4)) (.int 0)))) (.cons (.ret (.bl false))
  .nil) .nil)
  (.cons (.ret (.cmp .eq (.ix (.ix (.v 0) (.int 2)) (.v 4)) (.ix (.ix (.v 1) (.int 2)) (.ix (.v 2) (.v 4)))))
  .nil))
theorem c_are_lights_seen : FnScope n_are_lights_seen p_are_lights_seen (defScope s_are_lights_seen) := ⟨rfl, rfl, rfl, by decide +kernel, rfl, by decide +kernel, by decide +kernel⟩
/-! def is_way_seen, line 40 -/
abbrev s_is_way_seen : Stmt := topS 9
abbrev n_is_way_seen : List Str := [(Str.ofString "upper"), (Str.ofString "seen"), (Str.ofString "ranks"), (Str.ofString "s"), (Str.ofString "t")]
abbrev p_is_way_seen : List Str := [(Str.ofString "upper"), (Str.ofString "seen"), (Str.ofString "ranks"), (Str.ofString "s"), (Str.ofString "t")]
def b_is_way_seen : Ss := (.cons (.ret (.or (.cmp .isIn (.ix (.v 1) (.v 4)) (.ix (.ix (.v 0) (.int 1)) (.ix (.v 1) (.v 3)))) (.and (.cmp .eq (.ix (.v 1) (.v 3)) (.ix (.v 1) (.v 4))) (.cmp .lt (.ix (.v 2) (.v 4)) (.ix (.v 2) (.v 3))))))
  .nil)
theorem c_is_way_seen : FnScope n_is_way_seen p_is_way_seen (defScope s_is_way_seen) := ⟨rfl, rfl, rfl, by decide +kernel, rfl, by decide +kernel, by decide +kernel⟩
/-! def states_seeing, line 42 -/
abbrev s_states_seeing : Stmt := topS 10
abbrev n_states_seeing : List Str := [(Str.ofString "states"), (Str.ofString "seen"), (Str.ofString "state"), (Str.ofString "own")]
abbrev p_states_seeing : List Str := [(Str.ofString "states"), (Str.ofString "seen"), (Str.ofString "state")]
def b_states_seeing : Ss := (.cons (.ret (.lc true (.n 3) (.over (.v 0)) (.v 3) (.cmp .eq (.ix (.v 1) (.v 3)) (.v 2))))
  .nil)
theorem c_states_seeing : FnScope n_states_seeing p_states_seeing (defScope s_states_seeing) := ⟨rfl, rfl, rfl, by decide +kernel, rfl, by decide +kernel, by decide +kernel⟩
/-! def states_by_seen, line 44 -/
abbrev s_states_by_seen : Stmt := topS 11
abbrev n_states_by_seen : List Str := [(Str.ofString "states"), (Str.ofString "seen"), (Str.ofString "found"), (Str.ofString "state")]
abbrev p_states_by_seen : List Str := [(Str.ofString "states"), (Str.ofString "seen")]
def b_states_by_seen_L1 : Ss := (.cons (.setix (.v 2) (.ix (.v 1) (.v 3)) (.op (.add true) (.me .get2 (.v 2) (.cons (.ix (.v 1) (.v 3)) (.cons (.lst true .nil) .nil))) (.lst true (.cons (.v 3) .nil))))
  .nil)
def b_states_by_seen : Ss := (.cons (.set 2 .dnew)
  (.cons (.for_ (.n 3) (.over (.v 0)) b_states_by_seen_L1)
  (.cons (.ret (.v 2))
  .nil)))
theorem c_states_by_seen : FnScope n_states_by_seen p_states_by_seen (defScope s_states_by_seen) := ⟨rfl, rfl, rfl, by decide +kernel, rfl, by decide +kernel, by decide +kernel⟩
/-! def does_next_come, line 49 -/
abbrev s_does_next_come : Stmt := topS 12
abbrev n_does_next_come : List Str := [(Str.ofString "lower"), (Str.ofString "groups"), (Str.ofString "seen"), (Str.ofString "s"), (Str.ofString "u")]
abbrev p_does_next_come : List Str := [(Str.ofString "lower"), (Str.ofString "groups"), (Str.ofString "seen"), (Str.ofString "s"), (Str.ofString "u")]
def b_does_next_come : Ss := (.cons (.ret (.cmp .notN (.call 2 (.cons (.v 0) (.cons (.tup (.cons (.v 3) .nil)) (.cons (.me .get2 (.v 1) (.cons (.v 4) (.cons (.lst true .nil) .nil))) (.cons (.ix (.v 1) (.ix (.v 2) (.v 3))) .nil))))) .non))
  .nil)
theorem c_does_next_come : FnScope n_does_next_come p_does_next_come (defScope s_does_next_come) := ⟨rfl, rfl, rfl, by decide +kernel, rfl, by decide +kernel, by decide +kernel⟩
/-! def wrong_begins, line 51 -/
abbrev s_wrong_begins : Stmt := topS 13
abbrev n_wrong_begins : List Str := [(Str.ofString "lower"), (Str.ofString "upper"), (Str.ofString "seen"), (Str.ofString "found"), (Str.ofString "s"), (Str.ofString "u")]
abbrev p_wrong_begins : List Str := [(Str.ofString "lower"), (Str.ofString "upper"), (Str.ofString "seen")]
def b_wrong_begins : Ss := (.cons (.set 3 (.lc true (.n 4) (.over (.ix (.v 0) (.int 0))) (.tup (.cons (.str "begin") (.cons (.v 4) .nil))) (.not (.call 5 (.cons (.v 1) (.cons (.v 2) (.cons (.v 4) .nil)))))))
  (.cons (.ret (.op (.add true) (.v 3) (.lc true (.n 5) (.over (.ix (.v 1) (.int 0))) (.tup (.cons (.str "unseen") (.cons (.v 5) .nil))) (.cmp .eq (.bi .len (.cons (.call 8 (.cons (.ix (.v 0) (.int 0)) (.cons (.v 2) (.cons (.v 5) .nil)))) .nil)) (.int 0)))))
  .nil))
theorem c_wrong_begins : FnScope n_wrong_begins p_wrong_begins (defScope s_wrong_begins) := ⟨rfl, rfl, rfl, by decide +kernel, rfl, by decide +kernel, by decide +kernel⟩
/-! def wrong_ways, line 54 -/
abbrev s_wrong_ways : Stmt := topS 14
abbrev n_wrong_ways : List Str := [(Str.ofString "lower"), (Str.ofString "upper"), (Str.ofString "states"), (Str.ofString "seen"), (Str.ofString "ranks"), (Str.ofString "found"), (Str.ofString "s"), (Str.ofString "t")]
abbrev p_wrong_ways : List Str := [(Str.ofString "lower"), (Str.ofString "upper"), (Str.ofString "states"), (Str.ofString "seen"), (Str.ofString "ranks")]
def b_wrong_ways_L1 : Ss := (.cons (.aug 5 (.lc true (.n 7) (.over (.ix (.ix (.v 0) (.int 1)) (.v 6))) (.tup (.cons (.str "way") (.cons (.v 6) (.cons (.v 7) .nil)))) (.not (.call 7 (.cons (.v 1) (.cons (.v 3) (.cons (.v 4) (.cons (.v 6) (.cons (.v 7) .nil)))))))))
  .nil)
def b_wrong_ways : Ss := (.cons (.set 5 (.lst false .nil))
  (.cons (.for_ (.n 6) (.over (.v 2)) b_wrong_ways_L1)
  (.cons (.ret (.frz (.v 5)))
  .nil)))
theorem c_wrong_ways : FnScope n_wrong_ways p_wrong_ways (defScope s_wrong_ways) := ⟨rfl, rfl, rfl, by decide +kernel, rfl, by decide +kernel, by decide +kernel⟩
/-! def wrong_next, line 59 -/
abbrev s_wrong_next : Stmt := topS 15
abbrev n_wrong_next : List Str := [(Str.ofString "lower"), (Str.ofString "upper"), (Str.ofString "states"), (Str.ofString "seen"), (Str.ofString "groups"), (Str.ofString "found"), (Str.ofString "s"), (Str.ofString "u")]
abbrev p_wrong_next : List Str := [(Str.ofString "lower"), (Str.ofString "upper"), (Str.ofString "states"), (Str.ofString "seen")]
def b_wrong_next_L1 : Ss := (.cons (.aug 5 (.lc true (.n 7) (.over (.ix (.ix (.v 1) (.int 1)) (.ix (.v 3) (.v 6)))) (.tup (.cons (.str "next") (.cons (.v 6) (.cons (.v 7) .nil)))) (.not (.call 10 (.cons (.v 0) (.cons (.v 4) (.cons (.v 3) (.cons (.v 6) (.cons (.v 7) .nil)))))))))
  .nil)
def b_wrong_next : Ss := (.cons (.set 4 (.call 9 (.cons (.v 2) (.cons (.v 3) .nil))))
  (.cons (.set 5 (.lst false .nil))
  (.cons (.for_ (.n 6) (.over (.v 2)) b_wrong_next_L1)
  (.cons (.ret (.frz (.v 5)))
  .nil))))
theorem c_wrong_next : FnScope n_wrong_next p_wrong_next (defScope s_wrong_next) := ⟨rfl, rfl, rfl, by decide +kernel, rfl, by decide +kernel, by decide +kernel⟩
/-! def breaches_within, line 65 -/
abbrev s_breaches_within : Stmt := topS 16
abbrev n_breaches_within : List Str := [(Str.ofString "lower"), (Str.ofString "upper"), (Str.ofString "seen"), (Str.ofString "ranks"), (Str.ofString "found"), (Str.ofString "states"), (Str.ofString "s")]
abbrev p_breaches_within : List Str := [(Str.ofString "lower"), (Str.ofString "upper"), (Str.ofString "seen"), (Str.ofString "ranks")]
def b_breaches_within : Ss := (.cons (.set 4 (.call 11 (.cons (.v 0) (.cons (.v 1) (.cons (.v 2) .nil)))))
  (.cons (.ife (.cmp .eq (.bi .len (.cons (.v 4) .nil)) (.int 0)) (.cons (.set 5 (.call 0 (.cons (.v 0) .nil)))
  (.cons (.set 4 (.lc true (.n 6) (.over (.v 5)) (.tup (.cons (.str "lights") (.cons (.v 6) .nil))) (.not (.call 6 (.cons (.v 0) (.cons (.v 1) (.cons (.v 2) (.cons (.v 3) (.cons (.v 6) .nil)))))))))
  .nil)) .nil)
  (.cons (.ife (.cmp .eq (.bi .len (.cons (.v 4) .nil)) (.int 0)) (.cons (.set 4 (.call 12 (.cons (.v 0) (.cons (.v 1) (.cons (.call 0 (.cons (.v 0) .nil)) (.cons (.v 2) (.cons (.v 3) .nil)))))))
  .nil) .nil)
  (.cons (.ret (.v 4))
  .nil))))
theorem c_breaches_within : FnScope n_breaches_within p_breaches_within (defScope s_breaches_within) := ⟨rfl, rfl, rfl, by decide +kernel, rfl, by decide +kernel, by decide +kernel⟩
/-! def first_breach, line 73 -/
abbrev s_first_breach : Stmt := topS 17
abbrev n_first_breach : List Str := [(Str.ofString "lower"), (Str.ofString "upper"), (Str.ofString "seen"), (Str.ofString "ranks"), (Str.ofString "found")]
abbrev p_first_breach : List Str := [(Str.ofString "lower"), (Str.ofString "upper"), (Str.ofString "seen"), (Str.ofString "ranks")]
def b_first_breach : Ss := (.cons (.set 4 (.call 14 (.cons (.v 0) (.cons (.v 1) (.cons (.v 2) (.cons (.v 3) .nil))))))
  (.cons (.ife (.cmp .eq (.bi .len (.cons (.v 4) .nil)) (.int 0)) (.cons (.set 4 (.call 13 (.cons (.v 0) (.cons (.v 1) (.cons (.call 0 (.cons (.v 0) .nil)) (.cons (.v 2) .nil))))))
  .nil) .nil)
  (.cons (.ret (.ite (.cmp .gt (.bi .len (.cons (.v 4) .nil)) (.int 0)) (.ix (.v 4) (.int 0)) .non))
  .nil)))
theorem c_first_breach : FnScope n_first_breach p_first_breach (defScope s_first_breach) := ⟨rfl, rfl, rfl, by decide +kernel, rfl, by decide +kernel, by decide +kernel⟩
/-! def judge_in_step, line 78 -/
abbrev s_judge_in_step : Stmt := topS 18
abbrev n_judge_in_step : List Str := [(Str.ofString "lower"), (Str.ofString "upper"), (Str.ofString "seen"), (Str.ofString "ranks")]
abbrev p_judge_in_step : List Str := [(Str.ofString "lower"), (Str.ofString "upper"), (Str.ofString "seen"), (Str.ofString "ranks")]
def b_judge_in_step : Ss := (.cons (.ret (.cmp .isN (.call 15 (.cons (.v 0) (.cons (.v 1) (.cons (.v 2) (.cons (.v 3) .nil))))) .non))
  .nil)
theorem c_judge_in_step : FnScope n_judge_in_step p_judge_in_step (defScope s_judge_in_step) := ⟨rfl, rfl, rfl, by decide +kernel, rfl, by decide +kernel, by decide +kernel⟩
/-! def lower_begins_see, line 80 -/
abbrev s_lower_begins_see : Stmt := topS 19
abbrev n_lower_begins_see : List Str := [(Str.ofString "lower"), (Str.ofString "upper"), (Str.ofString "seen"), (Str.ofString "s")]
abbrev p_lower_begins_see : List Str := [(Str.ofString "lower"), (Str.ofString "upper"), (Str.ofString "seen")]
def b_lower_begins_see : Ss := (.cons (.ret (.bi .all (.cons (.lc true (.n 3) (.over (.ix (.v 0) (.int 0))) (.call 5 (.cons (.v 1) (.cons (.v 2) (.cons (.v 3) .nil)))) .nop) .nil)))
  .nil)
theorem c_lower_begins_see : FnScope n_lower_begins_see p_lower_begins_see (defScope s_lower_begins_see) := ⟨rfl, rfl, rfl, by decide +kernel, rfl, by decide +kernel, by decide +kernel⟩
/-! def judge_within_step, line 82 -/
abbrev s_judge_within_step : Stmt := topS 20
abbrev n_judge_within_step : List Str := [(Str.ofString "lower"), (Str.ofString "upper"), (Str.ofString "seen"), (Str.ofString "ranks"), (Str.ofString "states"), (Str.ofString "s")]
abbrev p_judge_within_step : List Str := [(Str.ofString "lower"), (Str.ofString "upper"), (Str.ofString "seen"), (Str.ofString "ranks")]
def b_judge_within_step : Ss := (.cons (.set 4 (.call 0 (.cons (.v 0) .nil)))
  (.cons (.ife (.not (.call 17 (.cons (.v 0) (.cons (.v 1) (.cons (.v 2) .nil))))) (.cons (.ret (.bl false))
  .nil) .nil)
  (.cons (.ife (.not (.bi .all (.cons (.lc true (.n 5) (.over (.v 4)) (.call 6 (.cons (.v 0) (.cons (.v 1) (.cons (.v 2) (.cons (.v 3) (.cons (.v 5) .nil)))))) .nop) .nil))) (.cons (.ret (.bl false))
  .nil) .nil)
  (.cons (.ret (.cmp .eq (.bi .len (.cons (.call 12 (.cons (.v 0) (.cons (.v 1) (.cons (.v 4) (.cons (.v 2) (.cons (.v 3) .nil)))))) .nil)) (.int 0)))
  .nil))))
theorem c_judge_within_step : FnScope n_judge_within_step p_judge_within_step (defScope s_judge_within_step) := ⟨rfl, rfl, rfl, by decide +kernel, rfl, by decide +kernel, by decide +kernel⟩
/-! def at_states_come_to, line 89 -/
abbrev s_at_states_come_to : Stmt := topS 21
abbrev n_at_states_come_to : List Str := [(Str.ofString "world"), (Str.ofString "told"), (Str.ofString "state")]
abbrev p_at_states_come_to : List Str := [(Str.ofString "world"), (Str.ofString "told")]
def b_at_states_come_to : Ss := (.cons (.ret (.bi .tuple (.cons (.lc true (.n 2) (.rng1 (.bi .len (.cons (.ix (.v 0) (.int 1)) .nil))) (.me .get1 (.v 1) (.cons (.v 2) .nil)) .nop) .nil)))
  .nil)
theorem c_at_states_come_to : FnScope n_at_states_come_to p_at_states_come_to (defScope s_at_states_come_to) := ⟨rfl, rfl, rfl, by decide +kernel, rfl, by decide +kernel, by decide +kernel⟩
/-! def silent_ways_from, line 91 -/
abbrev s_silent_ways_from : Stmt := topS 22
abbrev n_silent_ways_from : List Str := [(Str.ofString "lower"), (Str.ofString "upper"), (Str.ofString "seen"), (Str.ofString "s"), (Str.ofString "t")]
abbrev p_silent_ways_from : List Str := [(Str.ofString "lower"), (Str.ofString "upper"), (Str.ofString "seen"), (Str.ofString "s")]
def b_silent_ways_from : Ss := (.cons (.ret (.lc true (.n 4) (.over (.ix (.ix (.v 0) (.int 1)) (.v 3))) (.v 4) (.call 4 (.cons (.v 1) (.cons (.v 2) (.cons (.v 3) (.cons (.v 4) .nil)))))))
  .nil)
theorem c_silent_ways_from : FnScope n_silent_ways_from p_silent_ways_from (defScope s_silent_ways_from) := ⟨rfl, rfl, rfl, by decide +kernel, rfl, by decide +kernel, by decide +kernel⟩
/-! def rank_by_silent, line 93 -/
abbrev s_rank_by_silent : Stmt := topS 23
abbrev n_rank_by_silent : List Str := [(Str.ofString "told"), (Str.ofString "silent"), (Str.ofString "t")]
abbrev p_rank_by_silent : List Str := [(Str.ofString "told"), (Str.ofString "silent")]
def b_rank_by_silent : Ss := (.cons (.ife (.not (.bi .all (.cons (.lc true (.n 2) (.over (.v 1)) (.cmp .isIn (.v 2) (.v 0)) .nop) .nil))) (.cons (.ret .non)
  .nil) .nil)
  (.cons (.ret (.op (.add true) (.bi .max (.cons (.op (.add true) (.lst true (.cons (.neg (.int 1)) .nil)) (.lc true (.n 2) (.over (.v 1)) (.ix (.v 0) (.v 2)) .nop)) .nil)) (.int 1)))
  .nil))
theorem c_rank_by_silent : FnScope n_rank_by_silent p_rank_by_silent (defScope s_rank_by_silent) := ⟨rfl, rfl, rfl, by decide +kernel, rfl, by decide +kernel, by decide +kernel⟩
/-! def longest_silent_rows, line 97 -/
abbrev s_longest_silent_rows : Stmt := topS 24
abbrev n_longest_silent_rows : List Str := [(Str.ofString "lower"), (Str.ofString "upper"), (Str.ofString "states"), (Str.ofString "seen"), (Str.ofString "told"), (Str.ofString "_"), (Str.ofString "s"), (Str.ofString "rank")]
abbrev p_longest_silent_rows : List Str := [(Str.ofString "lower"), (Str.ofString "upper"), (Str.ofString "states"), (Str.ofString "seen")]
def b_longest_silent_rows_L1 : Ss := (.cons (.set 7 (.call 21 (.cons (.v 4) (.cons (.call 20 (.cons (.v 0) (.cons (.v 1) (.cons (.v 3) (.cons (.v 6) .nil))))) .nil))))
  (.cons (.ife (.cmp .notN (.v 7) .non) (.cons (.setix (.v 4) (.v 6) (.v 7))
  .nil) .nil)
  .nil))
def b_longest_silent_rows_L2 : Ss := (.cons (.for_ (.n 6) (.over (.v 2)) b_longest_silent_rows_L1)
  .nil)
def b_longest_silent_rows : Ss := (.cons (.set 4 .dnew)
  (.cons (.for_ (.n 5) (.over (.v 2)) b_longest_silent_rows_L2)
  (.cons (.ret (.v 4))
  .nil)))
theorem c_longest_silent_rows : FnScope n_longest_silent_rows p_longest_silent_rows (defScope s_longest_silent_rows) := ⟨rfl, rfl, rfl, by decide +kernel, rfl, by decide +kernel, by decide +kernel⟩
/-! def least_step_ranks, line 105 -/
abbrev s_least_step_ranks : Stmt := topS 25
abbrev n_least_step_ranks : List Str := [(Str.ofString "lower"), (Str.ofString "upper"), (Str.ofString "seen"), (Str.ofString "states"), (Str.ofString "told"), (Str.ofString "ranks"), (Str.ofString "s")]
abbrev p_least_step_ranks : List Str := [(Str.ofString "lower"), (Str.ofString "upper"), (Str.ofString "seen")]
def b_least_step_ranks : Ss := (.cons (.set 3 (.call 0 (.cons (.v 0) .nil)))
  (.cons (.ife (.not (.bi .all (.cons (.lc true (.n 6) (.over (.v 3)) (.call 3 (.cons (.v 1) (.cons (.ix (.v 2) (.v 6)) .nil))) .nop) .nil))) (.cons (.ret .non)
  .nil) .nil)
  (.cons (.set 4 (.call 22 (.cons (.v 0) (.cons (.v 1) (.cons (.v 3) (.cons (.v 2) .nil))))))
  (.cons (.ife (.cmp .lt (.bi .len (.cons (.v 4) .nil)) (.bi .len (.cons (.v 3) .nil))) (.cons (.ret .non)
  .nil) .nil)
  (.cons (.set 5 (.call 19 (.cons (.v 0) (.cons (.v 4) .nil))))
  (.cons (.ret (.ite (.call 16 (.cons (.v 0) (.cons (.v 1) (.cons (.v 2) (.cons (.v 5) .nil))))) (.v 5) .non))
  .nil))))))
theorem c_least_step_ranks : FnScope n_least_step_ranks p_least_step_ranks (defScope s_least_step_ranks) := ⟨rfl, rfl, rfl, by decide +kernel, rfl, by decide +kernel, by decide +kernel⟩
/-! def _law_draws, line 115 -/
abbrev s__law_draws : Stmt := topS 27
abbrev n__law_draws : List Str := [(Str.ofString "script"), (Str.ofString "many"), (Str.ofString "cells"), (Str.ofString "rest"), (Str.ofString "draws"), (Str.ofString "k"), (Str.ofString "at"), (Str.ofString "cell"), (Str.ofString "once")]
abbrev p__law_draws : List Str := [(Str.ofString "script"), (Str.ofString "many")]
def b__law_draws_L1 : Ss := (.cons (.set 6 (.op .mod (.v 5) (.bi .len (.cons (.v 2) .nil))))
  (.cons (.ife (.and (.cmp .ge (.ix (.v 2) (.v 6)) (.op .pow (.int 10) (.int 18))) (.cmp .gt (.ix (.v 3) (.v 6)) (.int 0))) (.cons (.expr (.me .append (.v 4) (.cons (.op .mod (.bi .int (.cons (.ix (.v 3) (.v 6)) .nil)) (.int 1000)) .nil)))
  (.cons (.setix (.v 3) (.v 6) (.op .div (.ix (.v 3) (.v 6)) (.int 1000)))
  .nil)) (.cons (.set 8 (.op .mod (.bi .int (.cons (.op (.add true) (.op (.add true) (.op (.mul true) (.ix (.v 2) (.v 6)) (.int 48271)) (.op (.mul true) (.v 5) (.int 69621))) (.int 11)) .nil)) (.int 2147483647)))
  (.cons (.expr (.me .append (.v 4) (.cons (.op .mod (.bi .int (.cons (.op (.add true) (.op (.add true) (.op (.mul true) (.v 8) (.v 8)) (.op (.mul true) (.int 3) (.v 8))) (.v 5)) .nil)) (.int 1000003)) .nil)))
  .nil)))
  .nil))
def b__law_draws : Ss := (.cons (.set 2 (.lc false (.n 7) (.over (.v 0)) (.bi .int (.cons (.v 7) .nil)) .nop))
  (.cons (.ife (.cmp .eq (.bi .len (.cons (.v 2) .nil)) (.int 0)) (.cons (.expr (.me .append (.v 2) (.cons (.int 0) .nil)))
  .nil) .nil)
  (.cons (.set 3 (.bi (.list false) (.cons (.v 2) .nil)))
  (.cons (.set 4 (.lst false .nil))
  (.cons (.for_ (.n 5) (.rng1 (.v 1)) b__law_draws_L1)
  (.cons (.expr (.me .reverse (.v 4) .nil))
  (.cons (.ret (.v 4))
  .nil)))))))
theorem c__law_draws : FnScope n__law_draws p__law_draws (defScope s__law_draws) := ⟨rfl, rfl, rfl, by decide +kernel, rfl, by decide +kernel, by decide +kernel⟩
/-! def _law_take, line 131 -/
abbrev s__law_take : Stmt := topS 28
abbrev n__law_take : List Str := [(Str.ofString "draws"), (Str.ofString "many")]
abbrev p__law_take : List Str := [(Str.ofString "draws"), (Str.ofString "many")]
def b__law_take : Ss := (.cons (.ife (.cmp .eq (.bi .len (.cons (.v 0) .nil)) (.int 0)) (.cons (.ret (.int 0))
  .nil) .nil)
  (.cons (.ret (.op .mod (.bi .int (.cons (.me .pop (.v 0) .nil) .nil)) (.v 1)))
  .nil))
theorem c__law_take : FnScope n__law_take p__law_take (defScope s__law_take) := ⟨rfl, rfl, rfl, by decide +kernel, rfl, by decide +kernel, by decide +kernel⟩
/-! def _law_same, line 135 -/
abbrev s__law_same : Stmt := topS 29
abbrev n__law_same : List Str := [(Str.ofString "actual"), (Str.ofString "due"), (Str.ofString "k")]
abbrev p__law_same : List Str := [(Str.ofString "actual"), (Str.ofString "due")]
def b__law_same_L1 : Ss := (.cons (.ife (.not (.call 26 (.cons (.ix (.v 0) (.v 2)) (.cons (.ix (.v 1) (.v 2)) .nil)))) (.cons (.ret (.bl false))
  .nil) .nil)
  .nil)
def b__law_same : Ss := (.cons (.ife (.isi (.v 1) .bool) (.cons (.ret (.and (.isi (.v 0) .bool) (.cmp .eq (.v 0) (.v 1))))
  .nil) .nil)
  (.cons (.ife (.isi (.v 1) .int) (.cons (.ret (.and (.isi (.v 0) .int) (.and (.not (.isi (.v 0) .bool)) (.cmp .eq (.v 0) (.v 1)))))
  .nil) .nil)
  (.cons (.ife (.isi (.v 1) .str) (.cons (.ret (.and (.isi (.v 0) .str) (.cmp .eq (.v 0) (.v 1))))
  .nil) .nil)
  (.cons (.ife (.cmp .isN (.v 1) .non) (.cons (.ret (.cmp .isN (.v 0) .non))
  .nil) .nil)
  (.cons (.ife (.or (.not (.isi (.v 0) .tuple)) (.cmp .ne (.bi .len (.cons (.v 0) .nil)) (.bi .len (.cons (.v 1) .nil)))) (.cons (.ret (.bl false))
  .nil) .nil)
  (.cons (.for_ (.n 2) (.rng1 (.bi .len (.cons (.v 1) .nil))) b__law_same_L1)
  (.cons (.ret (.bl true))
  .nil)))))))
theorem c__law_same : FnScope n__law_same p__law_same (defScope s__law_same) := ⟨rfl, rfl, rfl, by decide +kernel, rfl, by decide +kernel, by decide +kernel⟩
/-! def _law_world, line 150 -/
abbrev s__law_world : Stmt := topS 30
abbrev n__law_world : List Str := [(Str.ofString "draws"), (Str.ofString "size"), (Str.ofString "many"), (Str.ofString "most"), (Str.ofString "ways"), (Str.ofString "lights"), (Str.ofString "state"), (Str.ofString "begins"), (Str.ofString "row"), (Str.ofString "k")]
abbrev p__law_world : List Str := [(Str.ofString "draws"), (Str.ofString "size"), (Str.ofString "many"), (Str.ofString "most")]
def b__law_world_L1 : Ss := (.cons (.set 8 (.lc true (.n 9) (.rng1 (.op (.add true) (.int 1) (.call 25 (.cons (.v 0) (.cons (.v 3) .nil))))) (.call 25 (.cons (.v 0) (.cons (.v 1) .nil))) .nop))
  (.cons (.expr (.me .append (.v 4) (.cons (.bi .tuple (.cons (.sset true (.v 8)) .nil)) .nil)))
  (.cons (.expr (.me .append (.v 5) (.cons (.bi .tuple (.cons (.lc true (.n 9) (.rng1 (.v 2)) (.call 25 (.cons (.v 0) (.cons (.int 2) .nil))) .nop) .nil)) .nil)))
  .nil)))
def b__law_world : Ss := (.cons (.set 4 (.lst false .nil))
  (.cons (.set 5 (.lst false .nil))
  (.cons (.for_ (.n 6) (.rng1 (.v 1)) b__law_world_L1)
  (.cons (.set 7 (.lc true (.n 9) (.rng1 (.op (.add true) (.int 1) (.call 25 (.cons (.v 0) (.cons (.int 2) .nil))))) (.call 25 (.cons (.v 0) (.cons (.v 1) .nil))) .nop))
  (.cons (.ret (.tup (.cons (.bi .tuple (.cons (.sset true (.v 7)) .nil)) (.cons (.bi .tuple (.cons (.v 4) .nil)) (.cons (.bi .tuple (.cons (.v 5) .nil)) .nil)))))
  .nil)))))
theorem c__law_world : FnScope n__law_world p__law_world (defScope s__law_world) := ⟨rfl, rfl, rfl, by decide +kernel, rfl, by decide +kernel, by decide +kernel⟩
/-! def _law_come_to, line 159 -/
abbrev s__law_come_to : Stmt := topS 31
abbrev n__law_come_to : List Str := [(Str.ofString "world"), (Str.ofString "starts"), (Str.ofString "found"), (Str.ofString "k"), (Str.ofString "way")]
abbrev p__law_come_to : List Str := [(Str.ofString "world"), (Str.ofString "starts")]
def b__law_come_to_L1 : Ss := (.cons (.ife (.cmp .lt (.v 3) (.bi .len (.cons (.v 2) .nil))) (.cons (.set 2 (.op (.add true) (.v 2) (.lc true (.n 4) (.over (.ix (.ix (.v 0) (.int 1)) (.ix (.v 2) (.v 3)))) (.v 4) (.cmp .notIn (.v 4) (.v 2)))))
  .nil) .nil)
  .nil)
def b__law_come_to : Ss := (.cons (.set 2 (.bi (.list true) (.cons (.v 1) .nil)))
  (.cons (.for_ (.n 3) (.rng1 (.bi .len (.cons (.ix (.v 0) (.int 1)) .nil))) b__law_come_to_L1)
  (.cons (.ret (.bi .tuple (.cons (.bi (.sorted true) (.cons (.v 2) .nil)) .nil)))
  .nil)))
theorem c__law_come_to : FnScope n__law_come_to p__law_come_to (defScope s__law_come_to) := ⟨rfl, rfl, rfl, by decide +kernel, rfl, by decide +kernel, by decide +kernel⟩
/-! def _law_lower, line 165 -/
abbrev s__law_lower : Stmt := topS 32
abbrev n__law_lower : List Str := [(Str.ofString "draws"), (Str.ofString "upper"), (Str.ofString "many"), (Str.ofString "first"), (Str.ofString "owns"), (Str.ofString "state"), (Str.ofString "size"), (Str.ofString "rows"), (Str.ofString "ranks"), (Str.ofString "at"), (Str.ofString "world"), (Str.ofString "begins"), (Str.ofString "ways"), (Str.ofString "lights"), (Str.ofString "last"), (Str.ofString "row"), (Str.ofString "rank"), (Str.ofString "way"), (Str.ofString "own"), (Str.ofString "k")]
abbrev p__law_lower : List Str := [(Str.ofString "draws"), (Str.ofString "upper"), (Str.ofString "many")]
def b__law_lower_L1 : Ss := (.cons (.set 14 (.or (.cmp .eq (.op (.add true) (.v 9) (.int 1)) (.v 6)) (.cmp .ne (.ix (.v 4) (.op (.add true) (.v 9) (.int 1))) (.ix (.v 4) (.v 9)))))
  (.cons (.set 15 (.lst true (.cons (.op (.add true) (.v 9) (.int 1)) .nil)))
  (.cons (.set 16 (.int 0))
  (.cons (.ife (.v 14) (.cons (.set 15 (.lc true (.n 17) (.over (.ix (.v 12) (.ix (.v 4) (.v 9)))) (.ix (.v 3) (.v 17)) .nop))
  .nil) (.cons (.set 16 (.bi .len (.cons (.lc true (.n 19) (.rng2 (.op (.add true) (.v 9) (.int 1)) (.v 6)) (.v 19) (.cmp .eq (.ix (.v 4) (.v 19)) (.ix (.v 4) (.v 9)))) .nil)))
  .nil))
  (.cons (.expr (.me .append (.v 7) (.cons (.bi .tuple (.cons (.sset true (.v 15)) .nil)) .nil)))
  (.cons (.expr (.me .append (.v 8) (.cons (.v 16) .nil)))
  .nil))))))
def b__law_lower_L2 : Ss := (.cons (.expr (.me .append (.v 3) (.cons (.bi .len (.cons (.v 4) .nil)) .nil)))
  (.cons (.set 4 (.op (.add true) (.v 4) (.op (.mul true) (.lst true (.cons (.v 5) .nil)) (.op (.add true) (.int 1) (.call 25 (.cons (.v 0) (.cons (.v 2) .nil)))))))
  .nil))
def b__law_lower : Ss := (.cons (.unp [11, 12, 13] (.v 1))
  (.cons (.set 3 (.lst false .nil))
  (.cons (.set 4 (.lst true .nil))
  (.cons (.for_ (.n 5) (.rng1 (.bi .len (.cons (.v 12) .nil))) b__law_lower_L2)
  (.cons (.set 6 (.bi .len (.cons (.v 4) .nil)))
  (.cons (.set 7 (.lst false .nil))
  (.cons (.set 8 (.lst false .nil))
  (.cons (.for_ (.n 9) (.rng1 (.v 6)) b__law_lower_L1)
  (.cons (.set 10 (.tup (.cons (.bi .tuple (.cons (.lc true (.n 5) (.over (.v 11)) (.ix (.v 3) (.v 5)) .nop) .nil)) (.cons (.bi .tuple (.cons (.v 7) .nil)) (.cons (.bi .tuple (.cons (.lc true (.n 18) (.over (.v 4)) (.ix (.v 13) (.v 18)) .nop) .nil)) .nil)))))
  (.cons (.ret (.tup (.cons (.v 10) (.cons (.bi .tuple (.cons (.v 4) .nil)) (.cons (.bi .tuple (.cons (.v 8) .nil)) .nil)))))
  .nil))))))))))
theorem c__law_lower : FnScope n__law_lower p__law_lower (defScope s__law_lower) := ⟨rfl, rfl, rfl, by decide +kernel, rfl, by decide +kernel, by decide +kernel⟩
/-! def _law_sees, line 187 -/
abbrev s__law_sees : Stmt := topS 33
abbrev n__law_sees : List Str := [(Str.ofString "states"), (Str.ofString "seen"), (Str.ofString "state"), (Str.ofString "own")]
abbrev p__law_sees : List Str := [(Str.ofString "states"), (Str.ofString "seen"), (Str.ofString "state")]
def b__law_sees : Ss := (.cons (.ret (.lc true (.n 3) (.over (.v 0)) (.v 3) (.cmp .eq (.ix (.v 1) (.v 3)) (.v 2))))
  .nil)
theorem c__law_sees : FnScope n__law_sees p__law_sees (defScope s__law_sees) := ⟨rfl, rfl, rfl, by decide +kernel, rfl, by decide +kernel, by decide +kernel⟩
/-! def _law_comes, line 189 -/
abbrev s__law_comes : Stmt := topS 34
abbrev n__law_comes : List Str := [(Str.ofString "world"), (Str.ofString "states"), (Str.ofString "seen"), (Str.ofString "s"), (Str.ofString "u"), (Str.ofString "inside"), (Str.ofString "found"), (Str.ofString "k"), (Str.ofString "way")]
abbrev p__law_comes : List Str := [(Str.ofString "world"), (Str.ofString "states"), (Str.ofString "seen"), (Str.ofString "s"), (Str.ofString "u")]
def b__law_comes_L1 : Ss := (.cons (.ife (.cmp .eq (.ix (.v 2) (.v 8)) (.v 4)) (.cons (.ret (.bl true))
  .nil) .nil)
  (.cons (.ife (.and (.cmp .isIn (.v 8) (.v 5)) (.cmp .notIn (.v 8) (.v 6))) (.cons (.expr (.me .append (.v 6) (.cons (.v 8) .nil)))
  .nil) .nil)
  .nil))
def b__law_comes_L2 : Ss := (.cons (.ife (.cmp .lt (.v 7) (.bi .len (.cons (.v 6) .nil))) (.cons (.for_ (.n 8) (.over (.ix (.ix (.v 0) (.int 1)) (.ix (.v 6) (.v 7)))) b__law_comes_L1)
  .nil) .nil)
  .nil)
def b__law_comes : Ss := (.cons (.set 5 (.call 30 (.cons (.v 1) (.cons (.v 2) (.cons (.ix (.v 2) (.v 3)) .nil)))))
  (.cons (.set 6 (.lst false (.cons (.v 3) .nil)))
  (.cons (.for_ (.n 7) (.rng1 (.op (.add true) (.bi .len (.cons (.ix (.v 0) (.int 1)) .nil)) (.int 1))) b__law_comes_L2)
  (.cons (.ret (.bl false))
  .nil))))
theorem c__law_comes : FnScope n__law_comes p__law_comes (defScope s__law_comes) := ⟨rfl, rfl, rfl, by decide +kernel, rfl, by decide +kernel, by decide +kernel⟩
/-! def _law_breaches, line 200 -/
abbrev s__law_breaches : Stmt := topS 35
abbrev n__law_breaches : List Str := [(Str.ofString "lower"), (Str.ofString "upper"), (Str.ofString "seen"), (Str.ofString "ranks"), (Str.ofString "found"), (Str.ofString "states"), (Str.ofString "s"), (Str.ofString "good"), (Str.ofString "t"), (Str.ofString "u")]
abbrev p__law_breaches : List Str := [(Str.ofString "lower"), (Str.ofString "upper"), (Str.ofString "seen"), (Str.ofString "ranks")]
def b__law_breaches_L1 : Ss := (.cons (.set 4 (.op (.add false) (.v 4) (.lc true (.n 9) (.over (.ix (.ix (.v 1) (.int 1)) (.ix (.v 2) (.v 6)))) (.tup (.cons (.str "next") (.cons (.v 6) (.cons (.v 9) .nil)))) (.not (.call 31 (.cons (.v 0) (.cons (.v 5) (.cons (.v 2) (.cons (.v 6) (.cons (.v 9) .nil))))))))))
  .nil)
def b__law_breaches_L2 : Ss := (.cons (.ife (.and (.cmp .notIn (.ix (.v 2) (.v 8)) (.ix (.ix (.v 1) (.int 1)) (.ix (.v 2) (.v 6)))) (.or (.cmp .ne (.ix (.v 2) (.v 8)) (.ix (.v 2) (.v 6))) (.cmp .ge (.ix (.v 3) (.v 8)) (.ix (.v 3) (.v 6))))) (.cons (.expr (.me .append (.v 4) (.cons (.tup (.cons (.str "way") (.cons (.v 6) (.cons (.v 8) .nil)))) .nil)))
  .nil) .nil)
  .nil)
def b__law_breaches_L3 : Ss := (.cons (.for_ (.n 8) (.over (.ix (.ix (.v 0) (.int 1)) (.v 6))) b__law_breaches_L2)
  .nil)
def b__law_breaches_L4 : Ss := (.cons (.set 7 (.and (.cmp .notN (.ix (.v 2) (.v 6)) .non) (.cmp .notN (.ix (.v 3) (.v 6)) .non)))
  (.cons (.ife (.v 7) (.cons (.set 7 (.and (.cmp .ge (.ix (.v 2) (.v 6)) (.int 0)) (.and (.cmp .lt (.ix (.v 2) (.v 6)) (.bi .len (.cons (.ix (.v 1) (.int 1)) .nil))) (.cmp .ge (.ix (.v 3) (.v 6)) (.int 0)))))
  .nil) .nil)
  (.cons (.ife (.v 7) (.cons (.set 7 (.cmp .eq (.ix (.ix (.v 1) (.int 2)) (.ix (.v 2) (.v 6))) (.ix (.ix (.v 0) (.int 2)) (.v 6))))
  .nil) .nil)
  (.cons (.ife (.not (.v 7)) (.cons (.expr (.me .append (.v 4) (.cons (.tup (.cons (.str "lights") (.cons (.v 6) .nil))) .nil)))
  .nil) .nil)
  .nil))))
def b__law_breaches : Ss := (.cons (.set 4 (.lc false (.n 6) (.over (.ix (.v 0) (.int 0))) (.tup (.cons (.str "begin") (.cons (.v 6) .nil))) (.or (.cmp .isN (.ix (.v 2) (.v 6)) .non) (.cmp .notIn (.ix (.v 2) (.v 6)) (.ix (.v 1) (.int 0))))))
  (.cons (.set 4 (.op (.add false) (.v 4) (.lc true (.n 9) (.over (.ix (.v 1) (.int 0))) (.tup (.cons (.str "unseen") (.cons (.v 9) .nil))) (.cmp .eq (.bi .len (.cons (.call 30 (.cons (.ix (.v 0) (.int 0)) (.cons (.v 2) (.cons (.v 9) .nil)))) .nil)) (.int 0)))))
  (.cons (.ife (.cmp .gt (.bi .len (.cons (.v 4) .nil)) (.int 0)) (.cons (.ret (.frz (.v 4)))
  .nil) .nil)
  (.cons (.set 5 (.call 28 (.cons (.v 0) (.cons (.ix (.v 0) (.int 0)) .nil))))
  (.cons (.for_ (.n 6) (.over (.v 5)) b__law_breaches_L4)
  (.cons (.ife (.cmp .gt (.bi .len (.cons (.v 4) .nil)) (.int 0)) (.cons (.ret (.frz (.v 4)))
  .nil) .nil)
  (.cons (.for_ (.n 6) (.over (.v 5)) b__law_breaches_L3)
  (.cons (.ife (.cmp .gt (.bi .len (.cons (.v 4) .nil)) (.int 0)) (.cons (.ret (.frz (.v 4)))
  .nil) .nil)
  (.cons (.for_ (.n 6) (.over (.v 5)) b__law_breaches_L1)
  (.cons (.ret (.frz (.v 4)))
  .nil))))))))))
theorem c__law_breaches : FnScope n__law_breaches p__law_breaches (defScope s__law_breaches) := ⟨rfl, rfl, rfl, by decide +kernel, rfl, by decide +kernel, by decide +kernel⟩
/-! def _law_is_within, line 225 -/
abbrev s__law_is_within : Stmt := topS 36
abbrev n__law_is_within : List Str := [(Str.ofString "lower"), (Str.ofString "upper"), (Str.ofString "seen"), (Str.ofString "ranks"), (Str.ofString "begins"), (Str.ofString "kinds"), (Str.ofString "own"), (Str.ofString "s")]
abbrev p__law_is_within : List Str := [(Str.ofString "lower"), (Str.ofString "upper"), (Str.ofString "seen"), (Str.ofString "ranks")]
def b__law_is_within : Ss := (.cons (.ife (.cmp .gt (.bi .len (.cons (.lc true (.n 7) (.over (.ix (.v 0) (.int 0))) (.v 7) (.or (.cmp .isN (.ix (.v 2) (.v 7)) .non) (.cmp .notIn (.ix (.v 2) (.v 7)) (.ix (.v 1) (.int 0))))) .nil)) (.int 0)) (.cons (.ret (.bl false))
  .nil) .nil)
  (.cons (.set 4 (.bi .tuple (.cons (.sset true (.lc true (.n 7) (.over (.ix (.v 0) (.int 0))) (.ix (.v 2) (.v 7)) .nop)) .nil)))
  (.cons (.set 5 (.lc true (.n 6) (.over (.call 32 (.cons (.v 0) (.cons (.tup (.cons (.v 4) (.cons (.ix (.v 1) (.int 1)) (.cons (.ix (.v 1) (.int 2)) .nil)))) (.cons (.v 2) (.cons (.v 3) .nil)))))) (.ix (.v 6) (.int 0)) .nop))
  (.cons (.ret (.or (.cmp .eq (.bi .len (.cons (.v 5) .nil)) (.int 0)) (.cmp .eq (.ix (.v 5) (.int 0)) (.str "next"))))
  .nil))))
theorem c__law_is_within : FnScope n__law_is_within p__law_is_within (defScope s__law_is_within) := ⟨rfl, rfl, rfl, by decide +kernel, rfl, by decide +kernel, by decide +kernel⟩
/-! def _law_silent, line 231 -/
abbrev s__law_silent : Stmt := topS 37
abbrev n__law_silent : List Str := [(Str.ofString "upper"), (Str.ofString "seen"), (Str.ofString "s"), (Str.ofString "t")]
abbrev p__law_silent : List Str := [(Str.ofString "upper"), (Str.ofString "seen"), (Str.ofString "s"), (Str.ofString "t")]
def b__law_silent : Ss := (.cons (.ret (.and (.cmp .eq (.ix (.v 1) (.v 2)) (.ix (.v 1) (.v 3))) (.cmp .notIn (.ix (.v 1) (.v 3)) (.ix (.ix (.v 0) (.int 1)) (.ix (.v 1) (.v 2))))))
  .nil)
theorem c__law_silent : FnScope n__law_silent p__law_silent (defScope s__law_silent) := ⟨rfl, rfl, rfl, by decide +kernel, rfl, by decide +kernel, by decide +kernel⟩
/-! def _law_step_ranks, line 233 -/
abbrev s__law_step_ranks : Stmt := topS 38
abbrev n__law_step_ranks : List Str := [(Str.ofString "lower"), (Str.ofString "upper"), (Str.ofString "seen"), (Str.ofString "states"), (Str.ofString "ranks"), (Str.ofString "step"), (Str.ofString "s"), (Str.ofString "behind"), (Str.ofString "t")]
abbrev p__law_step_ranks : List Str := [(Str.ofString "lower"), (Str.ofString "upper"), (Str.ofString "seen")]
def b__law_step_ranks_L1 : Ss := (.cons (.set 7 (.lc true (.n 8) (.over (.ix (.ix (.v 0) (.int 1)) (.v 6))) (.ix (.v 4) (.v 8)) (.call 34 (.cons (.v 1) (.cons (.v 2) (.cons (.v 6) (.cons (.v 8) .nil)))))))
  (.cons (.ife (.cmp .notIn .non (.v 7)) (.cons (.setix (.v 4) (.v 6) (.op (.add true) (.bi .max (.cons (.op (.add true) (.lst true (.cons (.neg (.int 1)) .nil)) (.v 7)) .nil)) (.int 1)))
  .nil) .nil)
  .nil))
def b__law_step_ranks_L2 : Ss := (.cons (.for_ (.n 6) (.over (.v 3)) b__law_step_ranks_L1)
  .nil)
def b__law_step_ranks : Ss := (.cons (.set 3 (.call 28 (.cons (.v 0) (.cons (.ix (.v 0) (.int 0)) .nil))))
  (.cons (.ife (.cmp .gt (.bi .len (.cons (.lc true (.n 6) (.over (.v 3)) (.v 6) (.or (.cmp .isN (.ix (.v 2) (.v 6)) .non) (.or (.cmp .lt (.ix (.v 2) (.v 6)) (.int 0)) (.cmp .ge (.ix (.v 2) (.v 6)) (.bi .len (.cons (.ix (.v 1) (.int 1)) .nil)))))) .nil)) (.int 0)) (.cons (.ret (.lst true .nil))
  .nil) .nil)
  (.cons (.set 4 (.lc false (.n 6) (.over (.ix (.v 0) (.int 1))) .non .nop))
  (.cons (.for_ (.n 5) (.rng1 (.bi .len (.cons (.v 3) .nil))) b__law_step_ranks_L2)
  (.cons (.ife (.or (.cmp .gt (.bi .len (.cons (.lc true (.n 6) (.over (.v 3)) (.v 6) (.cmp .isN (.ix (.v 4) (.v 6)) .non)) .nil)) (.int 0)) (.cmp .gt (.bi .len (.cons (.call 32 (.cons (.v 0) (.cons (.v 1) (.cons (.v 2) (.cons (.v 4) .nil))))) .nil)) (.int 0))) (.cons (.ret (.lst true .nil))
  .nil) .nil)
  (.cons (.ret (.frz (.v 4)))
  .nil))))))
theorem c__law_step_ranks : FnScope n__law_step_ranks p__law_step_ranks (defScope s__law_step_ranks) := ⟨rfl, rfl, rfl, by decide +kernel, rfl, by decide +kernel, by decide +kernel⟩
/-! def _law_altered, line 246 -/
abbrev s__law_altered : Stmt := topS 39
abbrev n__law_altered : List Str := [(Str.ofString "draws"), (Str.ofString "upper"), (Str.ofString "lower"), (Str.ofString "seen"), (Str.ofString "ranks"), (Str.ofString "size"), (Str.ofString "at"), (Str.ofString "row"), (Str.ofString "other"), (Str.ofString "style"), (Str.ofString "own"), (Str.ofString "more"), (Str.ofString "begins"), (Str.ofString "ways"), (Str.ofString "lights"), (Str.ofString "bits"), (Str.ofString "bit"), (Str.ofString "k")]
abbrev p__law_altered : List Str := [(Str.ofString "draws"), (Str.ofString "upper"), (Str.ofString "lower"), (Str.ofString "seen"), (Str.ofString "ranks")]
def b__law_altered : Ss := (.cons (.unp [12, 13, 14] (.v 2))
  (.cons (.set 5 (.bi .len (.cons (.v 13) .nil)))
  (.cons (.set 6 (.call 25 (.cons (.v 0) (.cons (.v 5) .nil))))
  (.cons (.set 7 (.bi .tuple (.cons (.sset true (.lc true (.n 17) (.rng1 (.int 2)) (.call 25 (.cons (.v 0) (.cons (.v 5) .nil))) .nop)) .nil)))
  (.cons (.set 8 (.ix (.lst true (.cons .non (.cons (.neg (.int 1)) (.cons (.bi .len (.cons (.ix (.v 1) (.int 1)) .nil)) (.cons (.call 25 (.cons (.v 0) (.cons (.bi .len (.cons (.ix (.v 1) (.int 1)) .nil)) .nil))) (.cons (.int 0) .nil)))))) (.call 25 (.cons (.v 0) (.cons (.int 5) .nil)))))
  (.cons (.set 9 (.call 25 (.cons (.v 0) (.cons (.int 7) .nil))))
  (.cons (.ife (.cmp .eq (.v 9) (.int 0)) (.cons (.ret (.tup (.cons (.v 1) (.cons (.tup (.cons (.v 7) (.cons (.v 13) (.cons (.v 14) .nil)))) (.cons (.v 3) (.cons (.v 4) .nil))))))
  .nil) .nil)
  (.cons (.ife (.cmp .eq (.v 9) (.int 1)) (.cons (.ret (.tup (.cons (.v 1) (.cons (.tup (.cons (.v 12) (.cons (.op (.add true) (.op (.add true) (.sl true (.v 13) .nop (.v 6)) (.tup (.cons (.v 7) .nil))) (.sl true (.v 13) (.op (.add true) (.v 6) (.int 1)) .nop)) (.cons (.v 14) .nil)))) (.cons (.v 3) (.cons (.v 4) .nil))))))
  .nil) .nil)
  (.cons (.ife (.cmp .eq (.v 9) (.int 2)) (.cons (.set 15 (.bi .tuple (.cons (.lc true (.n 16) (.over (.ix (.v 14) (.v 6))) (.op .sub (.int 1) (.v 16)) .nop) .nil)))
  (.cons (.ret (.tup (.cons (.v 1) (.cons (.tup (.cons (.v 12) (.cons (.v 13) (.cons (.op (.add true) (.op (.add true) (.sl true (.v 14) .nop (.v 6)) (.tup (.cons (.v 15) .nil))) (.sl true (.v 14) (.op (.add true) (.v 6) (.int 1)) .nop)) .nil)))) (.cons (.v 3) (.cons (.v 4) .nil))))))
  .nil)) .nil)
  (.cons (.ife (.cmp .eq (.v 9) (.int 3)) (.cons (.ret (.tup (.cons (.v 1) (.cons (.v 2) (.cons (.op (.add true) (.op (.add true) (.sl true (.v 3) .nop (.v 6)) (.tup (.cons (.v 8) .nil))) (.sl true (.v 3) (.op (.add true) (.v 6) (.int 1)) .nop)) (.cons (.v 4) .nil))))))
  .nil) .nil)
  (.cons (.ife (.cmp .eq (.v 9) (.int 4)) (.cons (.ret (.tup (.cons (.v 1) (.cons (.v 2) (.cons (.v 3) (.cons (.op (.add true) (.op (.add true) (.sl true (.v 4) .nop (.v 6)) (.tup (.cons (.ix (.lst true (.cons .non (.cons (.neg (.int 1)) (.cons (.int 0) (.cons (.int 5) .nil))))) (.call 25 (.cons (.v 0) (.cons (.int 4) .nil)))) .nil))) (.sl true (.v 4) (.op (.add true) (.v 6) (.int 1)) .nop)) .nil))))))
  .nil) .nil)
  (.cons (.set 10 (.call 25 (.cons (.v 0) (.cons (.bi .len (.cons (.ix (.v 1) (.int 1)) .nil)) .nil))))
  (.cons (.set 11 (.bi .tuple (.cons (.sset true (.op (.add true) (.ix (.ix (.v 1) (.int 1)) (.v 10)) (.tup (.cons (.call 25 (.cons (.v 0) (.cons (.bi .len (.cons (.ix (.v 1) (.int 1)) .nil)) .nil))) .nil)))) .nil)))
  (.cons (.ife (.cmp .eq (.v 9) (.int 5)) (.cons (.ret (.tup (.cons (.tup (.cons (.ix (.v 1) (.int 0)) (.cons (.op (.add true) (.op (.add true) (.sl true (.ix (.v 1) (.int 1)) .nop (.v 10)) (.tup (.cons (.v 11) .nil))) (.sl true (.ix (.v 1) (.int 1)) (.op (.add true) (.v 10) (.int 1)) .nop)) (.cons (.ix (.v 1) (.int 2)) .nil)))) (.cons (.v 2) (.cons (.v 3) (.cons (.v 4) .nil))))))
  .nil) .nil)
  (.cons (.ret (.tup (.cons (.tup (.cons (.bi .tuple (.cons (.sset true (.op (.add true) (.ix (.v 1) (.int 0)) (.tup (.cons (.v 10) .nil)))) .nil)) (.cons (.ix (.v 1) (.int 1)) (.cons (.ix (.v 1) (.int 2)) .nil)))) (.cons (.v 2) (.cons (.v 3) (.cons (.v 4) .nil))))))
  .nil)))))))))))))))
theorem c__law_altered : FnScope n__law_altered p__law_altered (defScope s__law_altered) := ⟨rfl, rfl, rfl, by decide +kernel, rfl, by decide +kernel, by decide +kernel⟩
/-! def _law_is_judged, line 269 -/
abbrev s__law_is_judged : Stmt := topS 40
abbrev n__law_is_judged : List Str := [(Str.ofString "upper"), (Str.ofString "lower"), (Str.ofString "seen"), (Str.ofString "ranks"), (Str.ofString "found"), (Str.ofString "told"), (Str.ofString "due"), (Str.ofString "own")]
abbrev p__law_is_judged : List Str := [(Str.ofString "upper"), (Str.ofString "lower"), (Str.ofString "seen"), (Str.ofString "ranks")]
def b__law_is_judged : Ss := (.cons (.set 4 (.call 32 (.cons (.v 1) (.cons (.v 0) (.cons (.v 2) (.cons (.v 3) .nil))))))
  (.cons (.set 5 (.call 15 (.cons (.v 1) (.cons (.v 0) (.cons (.v 2) (.cons (.v 3) .nil))))))
  (.cons (.ife (.or (.and (.cmp .eq (.bi .len (.cons (.v 4) .nil)) (.int 0)) (.cmp .notN (.v 5) .non)) (.and (.cmp .gt (.bi .len (.cons (.v 4) .nil)) (.int 0)) (.not (.call 26 (.cons (.v 5) (.cons (.ix (.v 4) (.int 0)) .nil)))))) (.cons (.ret (.bl false))
  .nil) .nil)
  (.cons (.ife (.not (.call 26 (.cons (.call 16 (.cons (.v 1) (.cons (.v 0) (.cons (.v 2) (.cons (.v 3) .nil))))) (.cons (.cmp .eq (.bi .len (.cons (.v 4) .nil)) (.int 0)) .nil)))) (.cons (.ret (.bl false))
  .nil) .nil)
  (.cons (.ife (.not (.call 26 (.cons (.call 18 (.cons (.v 1) (.cons (.v 0) (.cons (.v 2) (.cons (.v 3) .nil))))) (.cons (.call 33 (.cons (.v 1) (.cons (.v 0) (.cons (.v 2) (.cons (.v 3) .nil))))) .nil)))) (.cons (.ret (.bl false))
  .nil) .nil)
  (.cons (.set 6 (.call 35 (.cons (.v 1) (.cons (.v 0) (.cons (.v 2) .nil)))))
  (.cons (.set 7 (.call 23 (.cons (.v 1) (.cons (.v 0) (.cons (.v 2) .nil)))))
  (.cons (.ret (.ite (.cmp .eq (.v 6) (.lst true .nil)) (.cmp .isN (.v 7) .non) (.call 26 (.cons (.v 7) (.cons (.bi .tuple (.cons (.v 6) .nil)) .nil)))))
  .nil))))))))
theorem c__law_is_judged : FnScope n__law_is_judged p__law_is_judged (defScope s__law_is_judged) := ⟨rfl, rfl, rfl, by decide +kernel, rfl, by decide +kernel, by decide +kernel⟩
/-! def law, line 281 -/
abbrev s_law : Stmt := topS 41
abbrev n_law : List Str := [(Str.ofString "script"), (Str.ofString "draws"), (Str.ofString "many"), (Str.ofString "turn"), (Str.ofString "upper"), (Str.ofString "lower"), (Str.ofString "told"), (Str.ofString "only"), (Str.ofString "more"), (Str.ofString "s"), (Str.ofString "k"), (Str.ofString "other"), (Str.ofString "map_drawn"), (Str.ofString "seen"), (Str.ofString "ranks"), (Str.ofString "t"), (Str.ofString "own"), (Str.ofString "rank"), (Str.ofString "state")]
abbrev p_law : List Str := [(Str.ofString "script")]
def b_law_L1 : Ss := (.cons (.set 16 (.call 36 (.cons (.v 1) (.cons (.v 4) (.cons (.v 5) (.cons (.v 13) (.cons (.v 14) .nil)))))))
  (.cons (.ife (.not (.call 37 (.cons (.ix (.v 16) (.int 0)) (.cons (.ix (.v 16) (.int 1)) (.cons (.ix (.v 16) (.int 2)) (.cons (.ix (.v 16) (.int 3)) .nil)))))) (.cons (.ret (.bl false))
  .nil) .nil)
  .nil))
def b_law_L2 : Ss := (.cons (.ife (.not (.call 26 (.cons (.call 4 (.cons (.v 4) (.cons (.v 13) (.cons (.v 9) (.cons (.v 15) .nil))))) (.cons (.call 34 (.cons (.v 4) (.cons (.v 13) (.cons (.v 9) (.cons (.v 15) .nil))))) .nil)))) (.cons (.ret (.bl false))
  .nil) .nil)
  .nil)
def b_law_L3 : Ss := (.cons (.for_ (.n 15) (.over (.ix (.ix (.v 5) (.int 1)) (.v 9))) b_law_L2)
  .nil)
def b_law_L4 : Ss := (.cons (.set 4 (.call 27 (.cons (.v 1) (.cons (.op (.add true) (.int 1) (.call 25 (.cons (.v 1) (.cons (.int 4) .nil)))) (.cons (.v 2) (.cons (.op (.add true) (.int 2) (.v 3)) .nil))))))
  (.cons (.unp [5, 13, 14] (.call 29 (.cons (.v 1) (.cons (.v 4) (.cons (.int 3) .nil)))))
  (.cons (.set 8 (.bi .tuple (.cons (.lc true (.n 17) (.over (.v 14)) (.op (.add true) (.v 17) (.int 1)) .nop) .nil)))
  (.cons (.ife (.or (.cmp .gt (.bi .len (.cons (.call 32 (.cons (.v 5) (.cons (.v 4) (.cons (.v 13) (.cons (.v 14) .nil))))) .nil)) (.int 0)) (.or (.not (.call 37 (.cons (.v 4) (.cons (.v 5) (.cons (.v 13) (.cons (.v 14) .nil)))))) (.not (.call 37 (.cons (.v 4) (.cons (.v 5) (.cons (.v 13) (.cons (.v 8) .nil)))))))) (.cons (.ret (.bl false))
  .nil) .nil)
  (.cons (.for_ (.n 9) (.over (.call 28 (.cons (.v 5) (.cons (.ix (.v 5) (.int 0)) .nil)))) b_law_L3)
  (.cons (.for_ (.n 10) (.rng1 (.int 5)) b_law_L1)
  (.cons (.set 11 (.call 27 (.cons (.v 1) (.cons (.op (.add true) (.int 1) (.call 25 (.cons (.v 1) (.cons (.int 4) .nil)))) (.cons (.v 2) (.cons (.int 2) .nil))))))
  (.cons (.set 12 (.bi .tuple (.cons (.lc true (.n 18) (.over (.ix (.v 11) (.int 1))) (.call 25 (.cons (.v 1) (.cons (.bi .len (.cons (.ix (.v 4) (.int 1)) .nil)) .nil))) .nop) .nil)))
  (.cons (.ife (.not (.call 37 (.cons (.v 4) (.cons (.v 11) (.cons (.v 12) (.cons (.bi .tuple (.cons (.lc true (.n 18) (.over (.ix (.v 11) (.int 1))) (.call 25 (.cons (.v 1) (.cons (.int 3) .nil))) .nop) .nil)) .nil)))))) (.cons (.ret (.bl false))
  .nil) .nil)
  .nil)))))))))
def b_law : Ss := (.cons (.set 1 (.call 24 (.cons (.v 0) (.cons (.int 320) .nil))))
  (.cons (.set 2 (.call 25 (.cons (.v 1) (.cons (.int 3) .nil))))
  (.cons (.for_ (.n 3) (.rng1 (.int 2)) b_law_L4)
  (.cons (.set 4 (.tup (.cons (.tup (.cons (.int 0) .nil)) (.cons (.tup (.cons (.tup (.cons (.int 0) (.cons (.int 1) .nil))) (.cons (.tup (.cons (.int 0) .nil)) .nil))) (.cons (.tup (.cons (.tup (.cons (.int 0) .nil)) (.cons (.tup (.cons (.int 1) .nil)) .nil))) .nil)))))
  (.cons (.set 5 (.tup (.cons (.tup (.cons (.int 0) .nil)) (.cons (.tup (.cons (.tup (.cons (.int 1) .nil)) (.cons (.tup (.cons (.int 0) (.cons (.int 2) .nil))) (.cons (.tup (.cons (.int 3) .nil)) (.cons (.tup (.cons (.int 0) .nil)) .nil))))) (.cons (.tup (.cons (.tup (.cons (.int 0) .nil)) (.cons (.tup (.cons (.int 0) .nil)) (.cons (.tup (.cons (.int 1) .nil)) (.cons (.tup (.cons (.int 1) .nil)) .nil))))) .nil)))))
  (.cons (.ife (.or (.not (.call 37 (.cons (.v 4) (.cons (.v 5) (.cons (.tup (.cons (.int 0) (.cons (.int 0) (.cons (.int 1) (.cons (.int 1) .nil))))) (.cons (.tup (.cons (.int 0) (.cons (.int 0) (.cons (.int 1) (.cons (.int 0) .nil))))) .nil)))))) (.not (.call 26 (.cons (.call 16 (.cons (.v 5) (.cons (.v 4) (.cons (.tup (.cons (.int 0) (.cons (.int 0) (.cons (.int 1) (.cons (.int 1) .nil))))) (.cons (.tup (.cons (.int 0) (.cons (.int 0) (.cons (.int 1) (.cons (.int 0) .nil))))) .nil))))) (.cons (.bl true) .nil))))) (.cons (.ret (.bl false))
  .nil) .nil)
  (.cons (.set 6 (.lst false (.cons (.call 15 (.cons (.v 5) (.cons (.v 4) (.cons (.tup (.cons (.int 0) (.cons (.int 0) (.cons (.int 1) (.cons (.int 1) .nil))))) (.cons (.tup (.cons (.int 0) (.cons (.int 0) (.cons (.int 0) (.cons (.int 0) .nil))))) .nil))))) (.cons (.call 15 (.cons (.v 5) (.cons (.v 4) (.cons (.tup (.cons (.int 0) (.cons (.int 0) (.cons (.int 1) (.cons (.int 0) .nil))))) (.cons (.tup (.cons (.int 0) (.cons (.int 0) (.cons (.int 0) (.cons (.int 0) .nil))))) .nil))))) .nil))))
  (.cons (.expr (.me .append (.v 6) (.cons (.call 15 (.cons (.v 5) (.cons (.v 4) (.cons (.tup (.cons (.int 1) (.cons (.int 0) (.cons (.int 1) (.cons (.int 1) .nil))))) (.cons (.tup (.cons (.int 0) (.cons (.int 0) (.cons (.int 1) (.cons (.int 0) .nil))))) .nil))))) .nil)))
  (.cons (.ife (.or (.not (.call 26 (.cons (.bi .tuple (.cons (.v 6) .nil)) (.cons (.tup (.cons (.tup (.cons (.str "way") (.cons (.int 2) (.cons (.int 3) .nil)))) (.cons (.tup (.cons (.str "lights") (.cons (.int 3) .nil))) (.cons (.tup (.cons (.str "begin") (.cons (.int 0) .nil))) .nil)))) .nil)))) (.not (.call 26 (.cons (.call 23 (.cons (.v 5) (.cons (.v 4) (.cons (.tup (.cons (.int 0) (.cons (.int 0) (.cons (.int 1) (.cons (.int 1) .nil))))) .nil)))) (.cons (.tup (.cons (.int 0) (.cons (.int 0) (.cons (.int 1) (.cons (.int 0) .nil))))) .nil))))) (.cons (.ret (.bl false))
  .nil) .nil)
  (.cons (.set 7 (.tup (.cons (.tup (.cons (.int 0) .nil)) (.cons (.tup (.cons (.tup (.cons (.int 1) .nil)) (.cons (.tup (.cons (.int 0) .nil)) .nil))) (.cons (.tup (.cons (.tup (.cons (.int 0) .nil)) (.cons (.tup (.cons (.int 0) .nil)) .nil))) .nil)))))
  (.cons (.ife (.or (.not (.call 26 (.cons (.call 15 (.cons (.v 7) (.cons (.v 4) (.cons (.tup (.cons (.int 0) (.cons (.int 0) .nil))) (.cons (.tup (.cons (.int 0) (.cons (.int 0) .nil))) .nil))))) (.cons (.tup (.cons (.str "next") (.cons (.int 0) (.cons (.int 1) .nil)))) .nil)))) (.not (.call 26 (.cons (.call 18 (.cons (.v 7) (.cons (.v 4) (.cons (.tup (.cons (.int 0) (.cons (.int 0) .nil))) (.cons (.tup (.cons (.int 0) (.cons (.int 0) .nil))) .nil))))) (.cons (.bl true) .nil))))) (.cons (.ret (.bl false))
  .nil) .nil)
  (.cons (.ret (.call 26 (.cons (.call 15 (.cons (.v 7) (.cons (.tup (.cons (.tup (.cons (.int 0) (.cons (.int 1) .nil))) (.cons (.ix (.v 4) (.int 1)) (.cons (.ix (.v 4) (.int 2)) .nil)))) (.cons (.tup (.cons (.int 0) (.cons (.int 0) .nil))) (.cons (.tup (.cons (.int 0) (.cons (.int 0) .nil))) .nil))))) (.cons (.tup (.cons (.str "unseen") (.cons (.int 1) .nil))) .nil))))
  .nil))))))))))))
theorem c_law : FnScope n_law p_law (defScope s_law) := ⟨rfl, rfl, rfl, by decide +kernel, rfl, by decide +kernel, by decide +kernel⟩
end K80
set_option maxRecDepth 100000
namespace K80
open PySem PySem.Spec L2 TL
/-! ### worlds -/
structure Wd where
  bs : List Nat
  ws : List (List Nat)
  ls : List (List Int)
abbrev encW (w : Wd) : T := .tup [nTs w.bs, .tup (w.ws.map nTs), .tup (w.ls.map iTs)]
def nx (w : Wd) (s : Nat) : List Nat := w.ws.getD s []
structure Wd.Ok (w : Wd) : Prop where
  small : w.ws.length ≤ 60
  lw : w.ls.length = w.ws.length
  bin : ∀ s ∈ w.bs, s < w.ws.length
  bnd : w.bs.Nodup
  win : ∀ r ∈ w.ws, ∀ t ∈ r, t < w.ws.length
  wnd : ∀ r ∈ w.ws, r.Nodup
abbrev ofN (l : List Nat) : List Int := l.map fun n : Nat => (n : Int)
/-- does a begin see a begin? -/
def bSee (ubs : List Nat) : Option Int → Bool
  | none => false
  | some i => decide (i ∈ ofN ubs)
def seenThere (u : Wd) : Option Int → Bool
  | none => false
  | some i => decide (0 ≤ i ∧ i < (u.ws.length : Int))
def litOk (u : Wd) (o r : Option Int) (l : List Int) : Bool := seenThere u o && (match o, r with
  | some i, some k => decide (0 ≤ k) && decide (l = u.ls.getD i.toNat [])
  | _, _ => false)
def inO (o : Option Int) (row : List Nat) : Bool := match o with
  | none => false
  | some i => decide (i ∈ ofN row)
def silent (a : Nat) (row : List Nat) (o : Option Int) : Bool := decide (some (a : Int) = o) && !inO o row
def waySeen (a : Nat) (row : List Nat) (o : Option Int) (p q : Int) : Bool := inO o row || (decide (some (a : Int) = o) && decide (q < p))
def sAt (sn : List (Option Int)) (s : Nat) : Option Int := sn.getD s none
def seenBy (S : List Nat) (sn : List (Option Int)) (o : Option Int) : List Nat := S.filter fun s => decide (sAt sn s = o)
/-- what breaks -/
inductive Brc where
  | beg (s : Nat) | uns (u : Nat) | lit (s : Nat) | way (s t : Nat) | nxt (s u : Nat)
def encB : Brc → T
  | .beg s => .tup [.str "begin", nT s]
  | .uns s => .tup [.str "unseen", nT s]
  | .lit s => .tup [.str "lights", nT s]
  | .way s t => .tup [.str "way", nT s, nT t]
  | .nxt s t => .tup [.str "next", nT s, nT t]
def begB (lo u : Wd) (sn : List (Option Int)) : List Brc :=
  (lo.bs.filter fun s => !bSee u.bs (sAt sn s)).map .beg ++ (u.bs.filter fun x : Nat => decide ((seenBy lo.bs sn (some (x : Int))).length = 0)).map .uns
def litB (lo u : Wd) (sn rk : List (Option Int)) (S : List Nat) : List Brc := (S.filter fun s => !litOk u (sAt sn s) (sAt rk s) (lo.ls.getD s [])).map .lit
def seenN (sn : List (Option Int)) (s : Nat) : Nat := ((sAt sn s).getD 0).toNat
def rkI (rk : List (Option Int)) (s : Nat) : Int := (sAt rk s).getD 0
def wayOkB (u : Wd) (sn rk : List (Option Int)) (s t : Nat) : Bool := waySeen (seenN sn s) (nx u (seenN sn s)) (sAt sn t) (rkI rk s) (rkI rk t)
def wayB (lo u : Wd) (sn rk : List (Option Int)) (S : List Nat) : List Brc := S.flatMap fun s => ((nx lo s).filter fun t => !wayOkB u sn rk s t).map (.way s)
/-- the states by what they see -/
def Grp (S : List Nat) (sn : List (Option Int)) (kvs : List (Key × T)) : Prop := ∀ a : Int, getK kvs (.inl a) = if seenBy S sn (some a) = [] then none else some (.lst ((seenBy S sn (some a)).map nT))
theorem seenBy_snoc {S : List Nat} {sn : List (Option Int)} {o : Option Int} {s : Nat} : seenBy (S ++ [s]) sn o = seenBy S sn o ++ if sAt sn s = o then [s] else [] := by
  unfold seenBy
  rw [List.filter_append]
  by_cases h : sAt sn s = o <;> simp [h]
theorem grp_nil {sn : List (Option Int)} : Grp [] sn [] := fun a => by simp [getK, seenBy]
theorem grp_snoc {S : List Nat} {sn : List (Option Int)} {kvs : List (Key × T)} {s : Nat} {a : Int} (g : Grp S sn kvs) (h : sAt sn s = some a) : Grp (S ++ [s]) sn (setK kvs (.inl a) (.lst ((seenBy S sn (some a)).map nT ++ [nT s]))) := by
  intro b
  rw [getK_set, seenBy_snoc, h]
  by_cases e : b = a
  · subst e
    simp
  · have e2 : ¬ (Sum.inl b : Key) = Sum.inl a := fun z => e (Sum.inl.inj z)
    have e3 : ¬ (some a = some b) := fun z => e (Option.some.inj z).symm
    rw [if_neg e2, g b, if_neg e3, List.append_nil]
theorem grp_getD {S : List Nat} {sn : List (Option Int)} {kvs : List (Key × T)} {a : Int} (g : Grp S sn kvs) : (getK kvs (.inl a)).getD (.lst []) = .lst ((seenBy S sn (some a)).map nT) := by
  rw [g a]
  split
  · rename_i e
    rw [e]
    rfl
  · rfl
end K80
set_option maxRecDepth 100000
set_option maxHeartbeats 1000000
namespace K80
open PySem PySem.Spec L2 TL
theorem in_o {o : Option Int} {l : List Nat} {H : TH} {Q : TL.KT} {neg : Bool} : oIn neg (oT o) (.tup (l.map nT)) H Q = Q (.bl (neg ^^ inO o l)) H := by
  cases o with
  | none =>
    have e : inT .non (l.map nT) = false := by
      unfold inT
      rw [List.any_map, List.any_eq_false]
      intro x _
      simp [eqT, toD, PyData.eqv]
    simp only [oIn, seqOf, oT, flat_nats, flatT, e, and_self, true_and, inO]
  | some i => exact in_natsI
def sp_is_seen_there : TSp := fun ts H Q => ∃ (u : Wd) (o : Option Int), ts = [encW u, oT o] ∧ Q (.bl (seenThere u o)) H
theorem w_is_seen_there {C : Nat → TSp} (ts : List T) (H : TH) (Q : TL.KT) (h : sp_is_seen_there ts H Q) : wSs C b_is_seen_there (bodyEnds Q) (start0 n_is_seen_there ts) H := by
  obtain ⟨u, o, rfl, q⟩ := h
  simp only [b_is_seen_there, start0, n_is_seen_there, wSs_cons, wSs_nil, wS_set, wS_unp, wS_setix, wS_aug, wS_expr, wS_ret, wS_retN, wS_ife, wS_for, wS_while, wS_pass, wS_brk, wS_cont, wE_v, wE_non, wE_bl, wE_int, wE_str, wE_neg, wE_op, wE_cmp, wE_chain, wE_and, wE_or, wE_not, wE_ite, wE_ix, wE_sl, wE_tup, wE_lst, wE_dnew, wE_call, wE_bi, wE_isi, wE_me, wE_lc0, wE_dc, wE_sset, wE_frz, wEs_nil, wEs_cons, wI_over, wI_rng1, wI_rng2, List.map_cons, List.map_nil, List.length_cons, List.length_nil, List.cons_append, List.nil_append, lk_0, lk_s, st_0, st_s, ix_0, ix_1, ix_2, Op2.o, Cm.o, BI.o, ME.o, ME.rv, is_o, eq_int, cmp_int, overT, nop_cmp, nop_chain, nop_and, nop_or, nop_not, nop_call, nop_bi, nop_ite, nop_ix, nop_v, nop_int, nop_op, nop_neg, nop_nop, wE_lc_cmp, wE_lc_chain, wE_lc_and, wE_lc_or, wE_lc_not, wE_lc_call, wE_lc_bi, wE_lc_ite, wE_lc_ix, wE_lc_v, List.replicate_succ, List.replicate_zero, Nat.reduceAdd, Nat.reduceSub, oT_s, oT_n, eq_io, eq_oi, is_i, is_n, Bool.xor_true, Bool.xor_false, Bool.false_xor, Bool.true_xor, Bool.not_true, Bool.not_false, mk_t, bodyC_n, bodyC_n1, bodyD_n]
  cases o with
  | none => exact rtn q
  | some i =>
    simp only [Option.isNone, oT, cmp_int, len_map, Bool.xor_false]
    by_cases h0 : 0 ≤ i
    · by_cases h1 : i < (u.ws.length : Int)
      · simp only [h0, h1, decide_true]
        exact rtn (by simpa only [seenThere, h0, h1, and_self, decide_true] using q)
      · simp only [h0, h1, decide_true, decide_false]
        exact rtn (by simpa only [seenThere, h0, h1, and_false, decide_false] using q)
    · simp only [h0, decide_false]
      exact rtn (by simpa only [seenThere, h0, false_and, decide_false] using q)
def sp_is_silent_way : TSp := fun ts H Q => ∃ (u : Wd) (sn : List (Option Int)) (s t a : Nat) (row : List Nat) (o : Option Int), ts = [encW u, oTs sn, nT s, nT t] ∧ sn[s]? = some (some (a : Int)) ∧ u.ws[a]? = some row ∧ sn[t]? = some o ∧ Q (.bl (silent a row o)) H
theorem w_is_silent_way {C : Nat → TSp} (ts : List T) (H : TH) (Q : TL.KT) (h : sp_is_silent_way ts H Q) : wSs C b_is_silent_way (bodyEnds Q) (start0 n_is_silent_way ts) H := by
  obtain ⟨u, sn, s, t, a, row, o, rfl, hs, hr, ht, q⟩ := h
  simp only [b_is_silent_way, start0, n_is_silent_way, wSs_cons, wSs_nil, wS_set, wS_unp, wS_setix, wS_aug, wS_expr, wS_ret, wS_retN, wS_ife, wS_for, wS_while, wS_pass, wS_brk, wS_cont, wE_v, wE_non, wE_bl, wE_int, wE_str, wE_neg, wE_op, wE_cmp, wE_chain, wE_and, wE_or, wE_not, wE_ite, wE_ix, wE_sl, wE_tup, wE_lst, wE_dnew, wE_call, wE_bi, wE_isi, wE_me, wE_lc0, wE_dc, wE_sset, wE_frz, wEs_nil, wEs_cons, wI_over, wI_rng1, wI_rng2, List.map_cons, List.map_nil, List.length_cons, List.length_nil, List.cons_append, List.nil_append, lk_0, lk_s, st_0, st_s, ix_0, ix_1, ix_2, Op2.o, Cm.o, BI.o, ME.o, ME.rv, is_o, eq_int, cmp_int, overT, nop_cmp, nop_chain, nop_and, nop_or, nop_not, nop_call, nop_bi, nop_ite, nop_ix, nop_v, nop_int, nop_op, nop_neg, nop_nop, wE_lc_cmp, wE_lc_chain, wE_lc_and, wE_lc_or, wE_lc_not, wE_lc_call, wE_lc_bi, wE_lc_ite, wE_lc_ix, wE_lc_v, List.replicate_succ, List.replicate_zero, Nat.reduceAdd, Nat.reduceSub, oT_s, oT_n, eq_io, eq_oi, is_i, is_n, Bool.xor_true, Bool.xor_false, Bool.false_xor, Bool.true_xor, Bool.not_true, Bool.not_false, mk_t, bodyC_n, bodyC_n1, bodyD_n, ix_at hs, ix_at ht, eq_o]
  by_cases e : some (a : Int) = o
  · subst e
    simp only [decide_true, Bool.xor_true, Bool.not_false, oT, ix_at hr]
    show oIn true (.int (a : Int)) (nTs row) H _
    rw [in_natsI, Bool.true_xor]
    exact rtn (by simpa only [silent, decide_true, Bool.true_and, inO] using q)
  · simp only [e, decide_false, Bool.xor_false]
    exact rtn (by simpa only [silent, e, decide_false, Bool.false_and] using q)
def sp_does_begin_see : TSp := fun ts H Q => ∃ (u : Wd) (sn : List (Option Int)) (s : Nat) (o : Option Int), ts = [encW u, oTs sn, nT s] ∧ sn[s]? = some o ∧ Q (.bl (bSee u.bs o)) H
theorem w_does_begin_see {C : Nat → TSp} (ts : List T) (H : TH) (Q : TL.KT) (h : sp_does_begin_see ts H Q) : wSs C b_does_begin_see (bodyEnds Q) (start0 n_does_begin_see ts) H := by
  obtain ⟨u, sn, s, o, rfl, hs, q⟩ := h
  simp only [b_does_begin_see, start0, n_does_begin_see, wSs_cons, wSs_nil, wS_set, wS_unp, wS_setix, wS_aug, wS_expr, wS_ret, wS_retN, wS_ife, wS_for, wS_while, wS_pass, wS_brk, wS_cont, wE_v, wE_non, wE_bl, wE_int, wE_str, wE_neg, wE_op, wE_cmp, wE_chain, wE_and, wE_or, wE_not, wE_ite, wE_ix, wE_sl, wE_tup, wE_lst, wE_dnew, wE_call, wE_bi, wE_isi, wE_me, wE_lc0, wE_dc, wE_sset, wE_frz, wEs_nil, wEs_cons, wI_over, wI_rng1, wI_rng2, List.map_cons, List.map_nil, List.length_cons, List.length_nil, List.cons_append, List.nil_append, lk_0, lk_s, st_0, st_s, ix_0, ix_1, ix_2, Op2.o, Cm.o, BI.o, ME.o, ME.rv, is_o, eq_int, cmp_int, overT, nop_cmp, nop_chain, nop_and, nop_or, nop_not, nop_call, nop_bi, nop_ite, nop_ix, nop_v, nop_int, nop_op, nop_neg, nop_nop, wE_lc_cmp, wE_lc_chain, wE_lc_and, wE_lc_or, wE_lc_not, wE_lc_call, wE_lc_bi, wE_lc_ite, wE_lc_ix, wE_lc_v, List.replicate_succ, List.replicate_zero, Nat.reduceAdd, Nat.reduceSub, oT_s, oT_n, eq_io, eq_oi, is_i, is_n, Bool.xor_true, Bool.xor_false, Bool.false_xor, Bool.true_xor, Bool.not_true, Bool.not_false, mk_t, bodyC_n, bodyC_n1, bodyD_n, ix_at hs]
  cases o with
  | none => exact rtn q
  | some i =>
    simp only [Option.isNone, Bool.xor_false, oT]
    show oIn false (.int i) (nTs u.bs) H _
    rw [in_natsI, Bool.false_xor]
    exact rtn q
end K80
set_option maxRecDepth 100000
set_option maxHeartbeats 1000000
namespace K80
open PySem PySem.Spec L2 TL
theorem sAt_some {sn : List (Option Int)} {s : Nat} (h : s < sn.length) : sn[s]? = some (sAt sn s) := by
  unfold sAt
  rw [List.getD_eq_getElem?_getD, List.getElem?_eq_getElem h]
  rfl
def sp_are_lights_seen : TSp := fun ts H Q => ∃ (lo u : Wd) (sn rk : List (Option Int)) (s : Nat) (l : List Int), ts = [encW lo, encW u, oTs sn, oTs rk, nT s] ∧ s < sn.length ∧ s < rk.length ∧ lo.ls[s]? = some l ∧ u.ls.length = u.ws.length ∧ Q (.bl (litOk u (sAt sn s) (sAt rk s) l)) H
theorem w_are_lights_seen {C : Nat → TSp} (h3 : C 3 = sp_is_seen_there) (ts : List T) (H : TH) (Q : TL.KT) (h : sp_are_lights_seen ts H Q) : wSs C b_are_lights_seen (bodyEnds Q) (start0 n_are_lights_seen ts) H := by
  obtain ⟨lo, u, sn, rk, s, l, rfl, hs, hr, hl, hu, q⟩ := h
  simp only [b_are_lights_seen, start0, n_are_lights_seen, wSs_cons, wSs_nil, wS_set, wS_unp, wS_setix, wS_aug, wS_expr, wS_ret, wS_retN, wS_ife, wS_for, wS_while, wS_pass, wS_brk, wS_cont, wE_v, wE_non, wE_bl, wE_int, wE_str, wE_neg, wE_op, wE_cmp, wE_chain, wE_and, wE_or, wE_not, wE_ite, wE_ix, wE_sl, wE_tup, wE_lst, wE_dnew, wE_call, wE_bi, wE_isi, wE_me, wE_lc0, wE_dc, wE_sset, wE_frz, wEs_nil, wEs_cons, wI_over, wI_rng1, wI_rng2, List.map_cons, List.map_nil, List.length_cons, List.length_nil, List.cons_append, List.nil_append, lk_0, lk_s, st_0, st_s, ix_0, ix_1, ix_2, Op2.o, Cm.o, BI.o, ME.o, ME.rv, is_o, eq_int, cmp_int, overT, nop_cmp, nop_chain, nop_and, nop_or, nop_not, nop_call, nop_bi, nop_ite, nop_ix, nop_v, nop_int, nop_op, nop_neg, nop_nop, wE_lc_cmp, wE_lc_chain, wE_lc_and, wE_lc_or, wE_lc_not, wE_lc_call, wE_lc_bi, wE_lc_ite, wE_lc_ix, wE_lc_v, List.replicate_succ, List.replicate_zero, Nat.reduceAdd, Nat.reduceSub, oT_s, oT_n, eq_io, eq_oi, is_i, is_n, Bool.xor_true, Bool.xor_false, Bool.false_xor, Bool.true_xor, Bool.not_true, Bool.not_false, mk_t, bodyC_n, bodyC_n1, bodyD_n, ix_at (sAt_some hs), ix_at (sAt_some hr), h3]
  refine ⟨u, sAt sn s, rfl, ?_⟩
  cases h1 : seenThere u (sAt sn s) with
  | false =>
    simp only [Bool.not_false]
    exact rtn (by simpa only [litOk, h1, Bool.false_and] using q)
  | true =>
    cases h2 : sAt rk s with
    | none =>
      simp only [Bool.not_true, Option.isNone]
      refine rtn ?_
      have e : litOk u (sAt sn s) (sAt rk s) l = false := by
        rw [h2]
        unfold litOk
        cases sAt sn s <;> simp
      rw [e] at q
      exact q
    | some k =>
      simp only [Bool.not_true, Option.isNone, oT, cmp_int]
      cases h4 : sAt sn s with
      | none =>
        rw [h4] at h1
        cases h1
      | some i =>
        rw [h4] at h1
        have hi : 0 ≤ i ∧ i < (u.ws.length : Int) := of_decide_eq_true h1
        have hn : i.toNat < u.ls.length := by omega
        have e : i = ((i.toNat : Nat) : Int) := by omega
        have g : u.ls[i.toNat]? = some (u.ls.getD i.toNat []) := by
          rw [List.getD_eq_getElem?_getD, List.getElem?_eq_getElem hn]
          rfl
        rw [h4, h2] at q
        have ql : litOk u (some i) (some k) l = (decide (0 ≤ k) && decide (l = u.ls.getD i.toNat [])) := by
          simp only [litOk, h1, Bool.true_and]
        rw [ql] at q
        by_cases hk : k < 0
        · simp only [hk, decide_true]
          exact rtn (by simpa only [show ¬ 0 ≤ k by omega, decide_false, Bool.false_and] using q)
        · simp only [hk, decide_false, ix_at hl]
          rw [e]
          simp only [ix_at g, eq_iTs, Bool.false_xor]
          exact rtn (by simpa only [show 0 ≤ k by omega, decide_true, Bool.true_and] using q)
def sp_is_way_seen : TSp := fun ts H Q => ∃ (u : Wd) (sn rk : List (Option Int)) (s t a : Nat) (row : List Nat) (p r : Int), ts = [encW u, oTs sn, oTs rk, nT s, nT t] ∧ s < sn.length ∧ t < sn.length ∧ sAt sn s = some (a : Int) ∧ u.ws[a]? = some row ∧
  rk[s]? = some (some p) ∧ rk[t]? = some (some r) ∧ Q (.bl (waySeen a row (sAt sn t) p r)) H
theorem w_is_way_seen {C : Nat → TSp} (ts : List T) (H : TH) (Q : TL.KT) (h : sp_is_way_seen ts H Q) : wSs C b_is_way_seen (bodyEnds Q) (start0 n_is_way_seen ts) H := by
  obtain ⟨u, sn, rk, s, t, a, row, p, r, rfl, hs, ht, ha, hr, hp, hq, q⟩ := h
  have e1 := sAt_some hs
  rw [ha] at e1
  simp only [b_is_way_seen, start0, n_is_way_seen, wSs_cons, wSs_nil, wS_set, wS_unp, wS_setix, wS_aug, wS_expr, wS_ret, wS_retN, wS_ife, wS_for, wS_while, wS_pass, wS_brk, wS_cont, wE_v, wE_non, wE_bl, wE_int, wE_str, wE_neg, wE_op, wE_cmp, wE_chain, wE_and, wE_or, wE_not, wE_ite, wE_ix, wE_sl, wE_tup, wE_lst, wE_dnew, wE_call, wE_bi, wE_isi, wE_me, wE_lc0, wE_dc, wE_sset, wE_frz, wEs_nil, wEs_cons, wI_over, wI_rng1, wI_rng2, List.map_cons, List.map_nil, List.length_cons, List.length_nil, List.cons_append, List.nil_append, lk_0, lk_s, st_0, st_s, ix_0, ix_1, ix_2, Op2.o, Cm.o, BI.o, ME.o, ME.rv, is_o, eq_int, cmp_int, overT, nop_cmp, nop_chain, nop_and, nop_or, nop_not, nop_call, nop_bi, nop_ite, nop_ix, nop_v, nop_int, nop_op, nop_neg, nop_nop, wE_lc_cmp, wE_lc_chain, wE_lc_and, wE_lc_or, wE_lc_not, wE_lc_call, wE_lc_bi, wE_lc_ite, wE_lc_ix, wE_lc_v, List.replicate_succ, List.replicate_zero, Nat.reduceAdd, Nat.reduceSub, oT_s, oT_n, eq_io, eq_oi, is_i, is_n, Bool.xor_true, Bool.xor_false, Bool.false_xor, Bool.true_xor, Bool.not_true, Bool.not_false, mk_t, bodyC_n, bodyC_n1, bodyD_n, ix_at e1, ix_at (sAt_some ht), ix_at hp, ix_at hq]
  simp only [oT_s, ix_at hr, in_o, Bool.false_xor]
  cases h1 : inO (sAt sn t) row with
  | true => exact rtn (by simpa only [waySeen, h1, Bool.true_or] using q)
  | false =>
    have e : oEq false (.int (a : Int)) (oT (sAt sn t)) H = fun Q => Q (.bl (decide (some (a : Int) = sAt sn t))) H := by
      funext Q
      exact (eq_o (o := some (a : Int))).trans (by rw [Bool.false_xor])
    simp only [e, waySeen, h1, Bool.false_or, cmp_int] at q ⊢
    by_cases h2 : some (a : Int) = sAt sn t
    · simp only [h2, decide_true, Bool.true_and] at q ⊢
      exact rtn q
    · simp only [h2, decide_false, Bool.false_and] at q ⊢
      exact rtn q
def sp_states_seeing : TSp := fun ts H Q => ∃ (S : List Nat) (sn : List (Option Int)) (o : Option Int), ts = [nTs S, oTs sn, oT o] ∧ (∀ s ∈ S, s < sn.length) ∧ S.length ≤ 1000 ∧ Q (.lst ((seenBy S sn o).map nT)) H
theorem w_states_seeing {C : Nat → TSp} (ts : List T) (H : TH) (Q : TL.KT) (h : sp_states_seeing ts H Q) : wSs C b_states_seeing (bodyEnds Q) (start0 n_states_seeing ts) H := by
  obtain ⟨S, sn, o, rfl, hS, hl, q⟩ := h
  simp only [b_states_seeing, start0, n_states_seeing, wSs_cons, wSs_nil, wS_set, wS_unp, wS_setix, wS_aug, wS_expr, wS_ret, wS_retN, wS_ife, wS_for, wS_while, wS_pass, wS_brk, wS_cont, wE_v, wE_non, wE_bl, wE_int, wE_str, wE_neg, wE_op, wE_cmp, wE_chain, wE_and, wE_or, wE_not, wE_ite, wE_ix, wE_sl, wE_tup, wE_lst, wE_dnew, wE_call, wE_bi, wE_isi, wE_me, wE_lc0, wE_dc, wE_sset, wE_frz, wEs_nil, wEs_cons, wI_over, wI_rng1, wI_rng2, List.map_cons, List.map_nil, List.length_cons, List.length_nil, List.cons_append, List.nil_append, lk_0, lk_s, st_0, st_s, ix_0, ix_1, ix_2, Op2.o, Cm.o, BI.o, ME.o, ME.rv, is_o, eq_int, cmp_int, overT, nop_cmp, nop_chain, nop_and, nop_or, nop_not, nop_call, nop_bi, nop_ite, nop_ix, nop_v, nop_int, nop_op, nop_neg, nop_nop, wE_lc_cmp, wE_lc_chain, wE_lc_and, wE_lc_or, wE_lc_not, wE_lc_call, wE_lc_bi, wE_lc_ite, wE_lc_ix, wE_lc_v, List.replicate_succ, List.replicate_zero, Nat.reduceAdd, Nat.reduceSub, oT_s, oT_n, eq_io, eq_oi, is_i, is_n, Bool.xor_true, Bool.xor_false, Bool.false_xor, Bool.true_xor, Bool.not_true, Bool.not_false, mk_t, bodyC_n, bodyC_n1, bodyD_n]
  refine lc_filter (p := fun s => decide (sAt sn s = o)) (f := nT) trivial (fun s hs G g => ?_) (sz (by omega)) (rtn q)
  simp only [wSs_cons, wSs_nil, wS_set, wS_unp, wS_setix, wS_aug, wS_expr, wS_ret, wS_retN, wS_ife, wS_for, wS_while, wS_pass, wS_brk, wS_cont, wE_v, wE_non, wE_bl, wE_int, wE_str, wE_neg, wE_op, wE_cmp, wE_chain, wE_and, wE_or, wE_not, wE_ite, wE_ix, wE_sl, wE_tup, wE_lst, wE_dnew, wE_call, wE_bi, wE_isi, wE_me, wE_lc0, wE_dc, wE_sset, wE_frz, wEs_nil, wEs_cons, wI_over, wI_rng1, wI_rng2, List.map_cons, List.map_nil, List.length_cons, List.length_nil, List.cons_append, List.nil_append, lk_0, lk_s, st_0, st_s, ix_0, ix_1, ix_2, Op2.o, Cm.o, BI.o, ME.o, ME.rv, is_o, eq_int, cmp_int, overT, nop_cmp, nop_chain, nop_and, nop_or, nop_not, nop_call, nop_bi, nop_ite, nop_ix, nop_v, nop_int, nop_op, nop_neg, nop_nop, wE_lc_cmp, wE_lc_chain, wE_lc_and, wE_lc_or, wE_lc_not, wE_lc_call, wE_lc_bi, wE_lc_ite, wE_lc_ix, wE_lc_v, List.replicate_succ, List.replicate_zero, Nat.reduceAdd, Nat.reduceSub, oT_s, oT_n, eq_io, eq_oi, is_i, is_n, Bool.xor_true, Bool.xor_false, Bool.false_xor, Bool.true_xor, Bool.not_true, Bool.not_false, mk_t, bodyC_n, bodyC_n1, bodyD_n, ix_at (sAt_some (hS s hs)), eq_o]
  by_cases h : sAt sn s = o
  · simpa only [h, decide_true, if_true] using g
  · simpa only [h, decide_false, Bool.false_eq_true, if_false] using g
end K80
set_option maxRecDepth 100000
set_option maxHeartbeats 1000000
namespace K80
open PySem PySem.Spec L2 TL
def sp_states_by_seen : TSp := fun ts H Q => ∃ (S : List Nat) (sn : List (Option Int)), ts = [nTs S, oTs sn] ∧ (∀ s ∈ S, s < sn.length ∧ ∃ a : Int, sAt sn s = some a) ∧ S.length ≤ 1000 ∧ ∀ p kvs, H p = none → Grp S sn kvs → Q (.ref p) (up H p (.dk kvs))
theorem w_states_by_seen {C : Nat → TSp} (ts : List T) (H : TH) (Q : TL.KT) (h : sp_states_by_seen ts H Q) : wSs C b_states_by_seen (bodyEnds Q) (start0 n_states_by_seen ts) H := by
  obtain ⟨S, sn, rfl, hS, hl, q⟩ := h
  simp only [b_states_by_seen, start0, n_states_by_seen, wSs_cons, wSs_nil, wS_set, wS_unp, wS_setix, wS_aug, wS_expr, wS_ret, wS_retN, wS_ife, wS_for, wS_while, wS_pass, wS_brk, wS_cont, wE_v, wE_non, wE_bl, wE_int, wE_str, wE_neg, wE_op, wE_cmp, wE_chain, wE_and, wE_or, wE_not, wE_ite, wE_ix, wE_sl, wE_tup, wE_lst, wE_dnew, wE_call, wE_bi, wE_isi, wE_me, wE_lc0, wE_dc, wE_sset, wE_frz, wEs_nil, wEs_cons, wI_over, wI_rng1, wI_rng2, List.map_cons, List.map_nil, List.length_cons, List.length_nil, List.cons_append, List.nil_append, lk_0, lk_s, st_0, st_s, ix_0, ix_1, ix_2, Op2.o, Cm.o, BI.o, ME.o, ME.rv, is_o, eq_int, cmp_int, overT, nop_cmp, nop_chain, nop_and, nop_or, nop_not, nop_call, nop_bi, nop_ite, nop_ix, nop_v, nop_int, nop_op, nop_neg, nop_nop, wE_lc_cmp, wE_lc_chain, wE_lc_and, wE_lc_or, wE_lc_not, wE_lc_call, wE_lc_bi, wE_lc_ite, wE_lc_ix, wE_lc_v, List.replicate_succ, List.replicate_zero, Nat.reduceAdd, Nat.reduceSub, oT_s, oT_n, eq_io, eq_oi, is_i, is_n, Bool.xor_true, Bool.xor_false, Bool.false_xor, Bool.true_xor, Bool.not_true, Bool.not_false, mk_t, bodyC_n, bodyC_n1, bodyD_n]
  intro p hp
  have loop : ∀ (r S0 : List Nat) (x : Option T) (kvs : List (Key × T)), S0 ++ r = S → Grp S0 sn kvs → kvs.length ≤ S0.length →
      forGo (fun _ => True) (loopB C (.n 3) b_states_by_seen_L1) (r.map nT) { nx := wSs C (.cons (.ret (.v 2)) .nil) (bodyEnds Q), rt := (bodyEnds Q).rt, bk := (bodyEnds Q).bk, ct := (bodyEnds Q).ct }
        [some (nTs S), some (oTs sn), some (.ref p), x] (up H p (.dk kvs)) := by
    intro r
    induction r with
    | nil =>
      intro S0 x kvs e g _
      rw [List.append_nil] at e
      subst e
      simp only [List.map_nil, forGo_nil, wSs_cons, wSs_nil, wS_set, wS_unp, wS_setix, wS_aug, wS_expr, wS_ret, wS_retN, wS_ife, wS_for, wS_while, wS_pass, wS_brk, wS_cont, wE_v, wE_non, wE_bl, wE_int, wE_str, wE_neg, wE_op, wE_cmp, wE_chain, wE_and, wE_or, wE_not, wE_ite, wE_ix, wE_sl, wE_tup, wE_lst, wE_dnew, wE_call, wE_bi, wE_isi, wE_me, wE_lc0, wE_dc, wE_sset, wE_frz, wEs_nil, wEs_cons, wI_over, wI_rng1, wI_rng2, List.map_cons, List.map_nil, List.length_cons, List.length_nil, List.cons_append, List.nil_append, lk_0, lk_s, st_0, st_s, ix_0, ix_1, ix_2, Op2.o, Cm.o, BI.o, ME.o, ME.rv, is_o, eq_int, cmp_int, overT, nop_cmp, nop_chain, nop_and, nop_or, nop_not, nop_call, nop_bi, nop_ite, nop_ix, nop_v, nop_int, nop_op, nop_neg, nop_nop, wE_lc_cmp, wE_lc_chain, wE_lc_and, wE_lc_or, wE_lc_not, wE_lc_call, wE_lc_bi, wE_lc_ite, wE_lc_ix, wE_lc_v, List.replicate_succ, List.replicate_zero, Nat.reduceAdd, Nat.reduceSub, oT_s, oT_n, eq_io, eq_oi, is_i, is_n, Bool.xor_true, Bool.xor_false, Bool.false_xor, Bool.true_xor, Bool.not_true, Bool.not_false, mk_t, bodyC_n, bodyC_n1, bodyD_n, true_and]
      exact rtn (q p kvs hp g)
    | cons s r ih =>
      intro S0 x kvs e g hk
      obtain ⟨h1, a, ha⟩ := hS s (by rw [← e]; simp)
      have h2 := sAt_some h1
      rw [ha] at h2
      have hlen : S0.length ≤ 1000 := by
        have := congrArg List.length e
        rw [List.length_append] at this
        omega
      simp only [List.map_cons, forGo_cons, loopB_n, b_states_by_seen_L1, wSs_cons, wSs_nil, wS_set, wS_unp, wS_setix, wS_aug, wS_expr, wS_ret, wS_retN, wS_ife, wS_for, wS_while, wS_pass, wS_brk, wS_cont, wE_v, wE_non, wE_bl, wE_int, wE_str, wE_neg, wE_op, wE_cmp, wE_chain, wE_and, wE_or, wE_not, wE_ite, wE_ix, wE_sl, wE_tup, wE_lst, wE_dnew, wE_call, wE_bi, wE_isi, wE_me, wE_lc0, wE_dc, wE_sset, wE_frz, wEs_nil, wEs_cons, wI_over, wI_rng1, wI_rng2, List.map_cons, List.map_nil, List.length_cons, List.length_nil, List.cons_append, List.nil_append, lk_0, lk_s, st_0, st_s, ix_0, ix_1, ix_2, Op2.o, Cm.o, BI.o, ME.o, ME.rv, is_o, eq_int, cmp_int, overT, nop_cmp, nop_chain, nop_and, nop_or, nop_not, nop_call, nop_bi, nop_ite, nop_ix, nop_v, nop_int, nop_op, nop_neg, nop_nop, wE_lc_cmp, wE_lc_chain, wE_lc_and, wE_lc_or, wE_lc_not, wE_lc_call, wE_lc_bi, wE_lc_ite, wE_lc_ix, wE_lc_v, List.replicate_succ, List.replicate_zero, Nat.reduceAdd, Nat.reduceSub, oT_s, oT_n, eq_io, eq_oi, is_i, is_n, Bool.xor_true, Bool.xor_false, Bool.false_xor, Bool.true_xor, Bool.not_true, Bool.not_false, mk_t, bodyC_n, bodyC_n1, bodyD_n, true_and, ix_at h2, get2_d up_same key_i, set_d up_same key_i, grp_getD g, add_ll, up_up]
      have hf : (seenBy S0 sn (some a)).length ≤ S0.length := List.length_filter_le ..
      refine ⟨recv_d up_same, sz (by omega), sz (by omega), sz (by simp; omega), sz' (by omega), ?_⟩
      exact ih (S0 ++ [s]) _ _ (by rw [← e]; simp) (grp_snoc g ha) (Nat.le_trans length_setK (by rw [List.length_append]; simpa using hk))
  exact loop S [] none [] rfl grp_nil (Nat.zero_le _)
end K80
set_option maxRecDepth 100000
namespace K80
open PySem PySem.Spec L2 TL
/-! ### what can be come to -/
inductive Rch (w : Wd) (S : List Nat) : Nat → Prop where
  | base {s : Nat} (h : s ∈ S) : Rch w S s
  | step {s t : Nat} (h : Rch w S s) (m : t ∈ nx w s) : Rch w S t
def lawF (w : Wd) (found : List Nat) (k : Nat) : List Nat := match found[k]? with
  | some s => found ++ (nx w s).filter fun t => decide (t ∉ found)
  | none => found
def bfs (w : Wd) (S : List Nat) : List Nat := (List.range w.ws.length).foldl (lawF w) S
def stt (w : Wd) : List Nat := (List.range w.ws.length).filter fun s => decide (s ∈ bfs w w.bs)
theorem nd_len : ∀ {n : Nat} {l : List Nat}, l.Nodup → (∀ x ∈ l, x < n) → l.length ≤ n
  | 0, [], _, _ => Nat.le_refl _
  | 0, x :: _, _, h => absurd (h x List.mem_cons_self) (Nat.not_lt_zero x)
  | n + 1, l, hn, h => by
    have ih := nd_len (n := n) (hn.erase n) fun x hx => by
      have h1 := (hn.mem_erase_iff).mp hx
      have := h x h1.2
      have := h1.1
      omega
    have : l.length ≤ (l.erase n).length + 1 := by
      by_cases m : n ∈ l
      · rw [List.length_erase_of_mem m]
        omega
      · rw [List.erase_of_not_mem m]
        omega
    omega
theorem nx_lt {w : Wd} (ok : w.Ok) {s t : Nat} (h : t ∈ nx w s) : t < w.ws.length := by
  unfold nx at h
  rw [List.getD_eq_getElem?_getD] at h
  cases e : w.ws[s]? with
  | none =>
    rw [e] at h
    cases h
  | some r =>
    rw [e] at h
    exact ok.win r (List.mem_of_getElem? e) t h
theorem nx_nd {w : Wd} (ok : w.Ok) (s : Nat) : (nx w s).Nodup := by
  unfold nx
  rw [List.getD_eq_getElem?_getD]
  cases e : w.ws[s]? with
  | none => exact .nil
  | some r => exact ok.wnd r (List.mem_of_getElem? e)
theorem nx_some {w : Wd} {s : Nat} (h : s < w.ws.length) : w.ws[s]? = some (nx w s) := by
  unfold nx
  rw [List.getD_eq_getElem?_getD, List.getElem?_eq_getElem h]
  rfl
theorem rch_lt {w : Wd} (ok : w.Ok) {S : List Nat} (hS : ∀ s ∈ S, s < w.ws.length) {s : Nat} (h : Rch w S s) : s < w.ws.length := by
  induction h with
  | base h => exact hS _ h
  | step _ m _ => exact nx_lt ok m
structure BInv (w : Wd) (S : List Nat) (k : Nat) (f : List Nat) : Prop where
  nd : f.Nodup
  sub : ∀ s ∈ S, s ∈ f
  rch : ∀ s ∈ f, Rch w S s
  done : ∀ j s, j < k → f[j]? = some s → ∀ t ∈ nx w s, t ∈ f
theorem BInv.step {w : Wd} (ok : w.Ok) {S : List Nat} {k : Nat} {f : List Nat} (h : BInv w S k f) : BInv w S (k + 1) (lawF w f k) := by
  unfold lawF
  split
  · rename_i s e
    have hs : s ∈ f := List.mem_of_getElem? e
    refine ⟨?_, fun x hx => List.mem_append_left _ (h.sub x hx), fun x hx => ?_, fun j x hj hx t ht => ?_⟩
    · refine List.nodup_append.mpr ⟨h.nd, (nx_nd ok s).filter _, fun a ha b hb e => ?_⟩
      subst e
      have := (List.mem_filter.mp hb).2
      exact absurd ha (of_decide_eq_true this)
    · rcases List.mem_append.mp hx with hx | hx
      · exact h.rch x hx
      · exact .step (h.rch s hs) (List.mem_filter.mp hx).1
    · have hl : k < f.length := by
        rcases Nat.lt_or_ge k f.length with z | z
        · exact z
        · rw [List.getElem?_eq_none z] at e
          cases e
      have hx' : f[j]? = some x := by
        rw [List.getElem?_append_left (by omega)] at hx
        exact hx
      by_cases e2 : j = k
      · subst e2
        rw [e] at hx'
        cases hx'
        by_cases m : t ∈ f
        · exact List.mem_append_left _ m
        · exact List.mem_append_right _ (List.mem_filter.mpr ⟨ht, decide_eq_true m⟩)
      · exact List.mem_append_left _ (h.done j x (by omega) hx' t ht)
  · rename_i e
    refine ⟨h.nd, h.sub, h.rch, fun j x hj hx t ht => ?_⟩
    by_cases e2 : j = k
    · subst e2
      rw [e] at hx
      cases hx
    · exact h.done j x (by omega) hx t ht
theorem bfs_inv {w : Wd} (ok : w.Ok) {S : List Nat} (nd : S.Nodup) : ∀ k, BInv w S k ((List.range k).foldl (lawF w) S)
  | 0 => ⟨nd, fun _ h => h, fun _ h => .base h, fun _ _ h => absurd h (Nat.not_lt_zero _)⟩
  | k + 1 => by
    rw [List.range_succ, List.foldl_append]
    exact (bfs_inv ok nd k).step ok
theorem bfs_iff {w : Wd} (ok : w.Ok) {S : List Nat} (nd : S.Nodup) (hS : ∀ s ∈ S, s < w.ws.length) {t : Nat} : t ∈ bfs w S ↔ Rch w S t := by
  have h := bfs_inv ok nd w.ws.length
  refine ⟨h.rch t, fun r => ?_⟩
  have len : (bfs w S).length ≤ w.ws.length := nd_len h.nd fun x hx => rch_lt ok hS (h.rch x hx)
  induction r with
  | base m => exact h.sub _ m
  | step _ m ih =>
    obtain ⟨j, hj⟩ := List.getElem?_of_mem ih
    have hlt : j < (bfs w S).length := by
      rcases Nat.lt_or_ge j (bfs w S).length with z | z
      · exact z
      · rw [List.getElem?_eq_none z] at hj
        cases hj
    exact h.done j _ (by omega) hj _ m
theorem stt_iff {w : Wd} (ok : w.Ok) {t : Nat} : t ∈ stt w ↔ Rch w w.bs t := by
  unfold stt
  rw [List.mem_filter, decide_eq_true_eq, bfs_iff ok ok.bnd ok.bin, List.mem_range]
  exact ⟨fun h => h.2, fun h => ⟨rch_lt ok ok.bin h, h⟩⟩
theorem range_lt : ∀ n, (List.range n).Pairwise (· < ·)
  | 0 => .nil
  | n + 1 => by
    rw [List.range_succ]
    refine List.pairwise_append.mpr ⟨range_lt n, List.pairwise_singleton _ _, fun a ha b hb => ?_⟩
    rw [List.mem_singleton.mp hb]
    exact List.mem_range.mp ha
theorem stt_sorted (w : Wd) : (stt w).Pairwise (· < ·) := (range_lt _).filter _
theorem stt_lt {w : Wd} {s : Nat} (h : s ∈ stt w) : s < w.ws.length := List.mem_range.mp (List.mem_filter.mp h).1
theorem stt_len (w : Wd) : (stt w).length ≤ w.ws.length := by
  have := List.length_filter_le (fun s => decide (s ∈ bfs w w.bs)) (List.range w.ws.length)
  rw [List.length_range] at this
  exact this
theorem stt_step {w : Wd} (ok : w.Ok) {s t : Nat} (h : s ∈ stt w) (m : t ∈ nx w s) : t ∈ stt w := (stt_iff ok).mpr (.step ((stt_iff ok).mp h) m)
theorem ofN_lt {l : List Nat} (h : l.Pairwise (· < ·)) : (ofN l).Pairwise (· < ·) := by
  unfold ofN
  rw [List.pairwise_map]
  exact h.imp fun {a b} h => by omega
theorem mem_ofN {l : List Nat} {x : Int} : x ∈ ofN l ↔ ∃ n : Nat, n ∈ l ∧ (n : Int) = x := by
  unfold ofN
  rw [List.mem_map]
/-- any row of just these states, sorted, is this one -/
theorem sort_stt {w : Wd} (ok : w.Ok) {f : List Nat} (nd : f.Nodup) (h : ∀ t, t ∈ f ↔ Rch w w.bs t) : isort (ofN f) = ofN (stt w) := by
  have nd2 : (ofN f).Nodup := by
    unfold ofN
    exact List.Pairwise.map _ (fun a b hab e => hab (by omega)) nd
  refine strict_uniq (lt_of_le_nd (isort_sorted _) ((isort_perm _).nodup_iff.mpr nd2)) (ofN_lt (stt_sorted w)) fun x => ?_
  rw [(isort_perm _).mem_iff, mem_ofN, mem_ofN]
  constructor
  · rintro ⟨n, hn, e⟩
    exact ⟨n, (stt_iff ok).mpr ((h n).mp hn), e⟩
  · rintro ⟨n, hn, e⟩
    exact ⟨n, (h n).mpr ((stt_iff ok).mp hn), e⟩
end K80
set_option maxRecDepth 100000
set_option maxHeartbeats 1000000
namespace K80
open PySem PySem.Spec L2 TL
theorem len_dks {l : List Nat} : (dks l).length = l.length := List.length_map ..
/-- the ones that are not yet there -/
def fresh (f r : List Nat) : List Nat := r.filter fun t => decide (t ∉ f)
theorem fresh_cons_in {f r : List Nat} {t : Nat} (h : t ∈ f) : fresh f (t :: r) = fresh f r := by
  unfold fresh
  rw [List.filter_cons_of_neg (by simpa using h)]
theorem fresh_cons_out {f r : List Nat} {t : Nat} (h : t ∉ f) (nd : (t :: r).Nodup) : fresh f (t :: r) = t :: fresh (f ++ [t]) r := by
  unfold fresh
  rw [List.filter_cons_of_pos (by simpa using h)]
  congr 1
  refine List.filter_congr fun x hx => ?_
  have : x ≠ t := fun e => (List.nodup_cons.mp nd).1 (e ▸ hx)
  simp [this]
theorem fresh_len {f r : List Nat} : (fresh f r).length ≤ r.length := List.length_filter_le ..
def sp_states_come_to : TSp := fun ts H Q => ∃ w : Wd, ts = [encW w] ∧ w.Ok ∧ Q (nTs (stt w)) H
theorem in_dks {H : TH} {p : Addr} {l : List Nat} {s : Nat} {neg : Bool} {Q : TL.KT} (e : H p = some (.dk (dks l))) : oIn neg (.int (s : Int)) (.ref p) H Q = Q (.bl (neg ^^ decide (s ∈ l))) H := by
  rw [in_d e key_i, getK_dks]
theorem sct_row {C : Nat → TSp} {H : TH} {p q : Addr} {W : Option T} : ∀ (r f todo : List Nat) (x : Option T) (D : TEnds) (Hx : TH), r.Nodup → f.length + r.length ≤ 1000 → todo.length + r.length ≤ 1000 → Two H p q (.dk (dks f)) (.lst (todo.map nT)) Hx →
    (∀ x Hy, Two H p q (.dk (dks (f ++ fresh f r))) (.lst ((todo ++ fresh f r).map nT)) Hy → D.nx [W, some (.ref p), some (.ref q), x] Hy) →
    forGo (fun _ => True) (loopB C (.n 3) b_states_come_to_L1) (r.map nT) D [W, some (.ref p), some (.ref q), x] Hx
  | [], f, todo, x, D, Hx, _, _, _, h2, hn => by
    simp only [List.map_nil, forGo_nil, true_and]
    exact hn x Hx (by simpa [fresh] using h2)
  | t :: r, f, todo, x, D, Hx, nd, hf, ht, h2, hn => by
    rw [List.length_cons] at hf ht
    simp only [List.map_cons, forGo_cons, loopB_n, b_states_come_to_L1, wSs_cons, wSs_nil, wS_set, wS_unp, wS_setix, wS_aug, wS_expr, wS_ret, wS_retN, wS_ife, wS_for, wS_while, wS_pass, wS_brk, wS_cont, wE_v, wE_non, wE_bl, wE_int, wE_str, wE_neg, wE_op, wE_cmp, wE_chain, wE_and, wE_or, wE_not, wE_ite, wE_ix, wE_sl, wE_tup, wE_lst, wE_dnew, wE_call, wE_bi, wE_isi, wE_me, wE_lc0, wE_dc, wE_sset, wE_frz, wEs_nil, wEs_cons, wI_over, wI_rng1, wI_rng2, List.map_cons, List.map_nil, List.length_cons, List.length_nil, List.cons_append, List.nil_append, lk_0, lk_s, st_0, st_s, ix_0, ix_1, ix_2, Op2.o, Cm.o, BI.o, ME.o, ME.rv, is_o, eq_int, cmp_int, overT, nop_cmp, nop_chain, nop_and, nop_or, nop_not, nop_call, nop_bi, nop_ite, nop_ix, nop_v, nop_int, nop_op, nop_neg, nop_nop, wE_lc_cmp, wE_lc_chain, wE_lc_and, wE_lc_or, wE_lc_not, wE_lc_call, wE_lc_bi, wE_lc_ite, wE_lc_ix, wE_lc_v, List.replicate_succ, List.replicate_zero, Nat.reduceAdd, Nat.reduceSub, oT_s, oT_n, eq_io, eq_oi, is_i, is_n, Bool.xor_true, Bool.xor_false, Bool.false_xor, Bool.true_xor, Bool.not_true, Bool.not_false, mk_t, bodyC_n, bodyC_n1, bodyD_n, true_and, in_dks h2.p]
    by_cases m : t ∈ f
    · simp only [m, decide_true, Bool.not_true]
      refine sct_row r f todo _ D Hx (List.nodup_cons.mp nd).2 (by omega) (by omega) h2 fun x Hy h => hn x Hy ?_
      rw [fresh_cons_in m]
      exact h
    · simp only [m, decide_false, Bool.not_false, set_d h2.p key_i, len_dks]
      refine ⟨sz' (by omega), ?_⟩
      have h3 := h2.setp (A' := .dk (setK (dks f) (Sum.inl (t : Int)) (T.bl true)))
      rw [setK_dks, if_neg m] at h3 ⊢
      refine ⟨recv_l h3.q, ?_⟩
      rw [append_l h3.q]
      refine ⟨sz' (by rw [List.length_map]; omega), ?_⟩
      have h4 := h3.setq (B' := .lst ((todo ++ [t]).map nT))
      rw [List.map_append] at h4
      refine sct_row r (f ++ [t]) (todo ++ [t]) _ D _ (List.nodup_cons.mp nd).2 (by rw [List.length_append, List.length_singleton]; omega) (by rw [List.length_append, List.length_singleton]; omega) (by rw [List.map_append]; exact h4) fun x Hy h => hn x Hy ?_
      rw [fresh_cons_out m nd]
      rw [List.append_assoc, List.append_assoc] at h
      exact h
structure DInv (w : Wd) (f todo : List Nat) : Prop where
  nd : f.Nodup
  sub : ∀ s ∈ w.bs, s ∈ f
  rch : ∀ s ∈ f, Rch w w.bs s
  tin : ∀ s ∈ todo, s ∈ f
  done : ∀ s ∈ f, s ∈ todo ∨ ∀ t ∈ nx w s, t ∈ f
theorem DInv.step {w : Wd} (ok : w.Ok) {f todo : List Nat} {s : Nat} (h : DInv w f (todo ++ [s])) : DInv w (f ++ fresh f (nx w s)) (todo ++ fresh f (nx w s)) := by
  have hs : s ∈ f := h.tin s (by simp)
  have hx : ∀ t ∈ nx w s, t ∈ f ++ fresh f (nx w s) := fun t ht => by
    by_cases m : t ∈ f
    · exact List.mem_append_left _ m
    · exact List.mem_append_right _ (List.mem_filter.mpr ⟨ht, decide_eq_true m⟩)
  refine ⟨?_, fun x hx => List.mem_append_left _ (h.sub x hx), fun x hx => ?_, fun x hx => ?_, fun x hx' => ?_⟩
  · refine List.nodup_append.mpr ⟨h.nd, (nx_nd ok s).filter _, fun a ha b hb e => ?_⟩
    subst e
    exact absurd ha (of_decide_eq_true (List.mem_filter.mp hb).2)
  · rcases List.mem_append.mp hx with hx | hx
    · exact h.rch x hx
    · exact .step (h.rch s hs) (List.mem_filter.mp hx).1
  · rcases List.mem_append.mp hx with hx | hx
    · exact List.mem_append_left _ (h.tin x (List.mem_append_left _ hx))
    · exact List.mem_append_right _ hx
  · rcases List.mem_append.mp hx' with m | m
    · rcases h.done x m with z | z
      · rcases List.mem_append.mp z with z | z
        · exact .inl (List.mem_append_left _ z)
        · rw [List.mem_singleton.mp z]
          exact .inr hx
      · exact .inr fun t ht => List.mem_append_left _ (z t ht)
    · exact .inl (List.mem_append_right _ m)
theorem DInv.len {w : Wd} (ok : w.Ok) {f todo : List Nat} (h : DInv w f todo) : f.length ≤ w.ws.length := nd_len h.nd fun x hx => rch_lt ok ok.bin (h.rch x hx)
theorem DInv.fin {w : Wd} {f : List Nat} (h : DInv w f []) (t : Nat) : t ∈ f ↔ Rch w w.bs t := by
  refine ⟨h.rch t, fun r => ?_⟩
  induction r with
  | base m => exact h.sub _ m
  | step _ m ih =>
    rcases h.done _ ih with z | z
    · cases z
    · exact z _ m
theorem ints_ofN (l : List Nat) : (ofN l).map T.int = l.map nT := by
  unfold ofN
  rw [List.map_map]
  rfl
theorem w_states_come_to {C : Nat → TSp} (ts : List T) (H : TH) (Q : TL.KT) (h : sp_states_come_to ts H Q) : wSs C b_states_come_to (bodyEnds Q) (start0 n_states_come_to ts) H := by
  obtain ⟨w, rfl, ok, hQ⟩ := h
  have hb : w.bs.length ≤ 60 := Nat.le_trans (nd_len ok.bnd ok.bin) ok.small
  simp only [b_states_come_to, start0, n_states_come_to, wSs_cons, wSs_nil, wS_set, wS_unp, wS_setix, wS_aug, wS_expr, wS_ret, wS_retN, wS_ife, wS_for, wS_while, wS_pass, wS_brk, wS_cont, wE_v, wE_non, wE_bl, wE_int, wE_str, wE_neg, wE_op, wE_cmp, wE_chain, wE_and, wE_or, wE_not, wE_ite, wE_ix, wE_sl, wE_tup, wE_lst, wE_dnew, wE_call, wE_bi, wE_isi, wE_me, wE_lc0, wE_dc, wE_sset, wE_frz, wEs_nil, wEs_cons, wI_over, wI_rng1, wI_rng2, List.map_cons, List.map_nil, List.length_cons, List.length_nil, List.cons_append, List.nil_append, lk_0, lk_s, st_0, st_s, ix_0, ix_1, ix_2, Op2.o, Cm.o, BI.o, ME.o, ME.rv, is_o, eq_int, cmp_int, overT, nop_cmp, nop_chain, nop_and, nop_or, nop_not, nop_call, nop_bi, nop_ite, nop_ix, nop_v, nop_int, nop_op, nop_neg, nop_nop, wE_lc_cmp, wE_lc_chain, wE_lc_and, wE_lc_or, wE_lc_not, wE_lc_call, wE_lc_bi, wE_lc_ite, wE_lc_ix, wE_lc_v, List.replicate_succ, List.replicate_zero, Nat.reduceAdd, Nat.reduceSub, oT_s, oT_n, eq_io, eq_oi, is_i, is_n, Bool.xor_true, Bool.xor_false, Bool.false_xor, Bool.true_xor, Bool.not_true, Bool.not_false, mk_t, bodyC_n, bodyC_n1, bodyD_n]
  refine dc_dks0 trivial (by simp) ok.bnd (by omega) ?_
  intro p hp
  simp only [cList, seqOf, wSs_cons, wSs_nil, wS_set, wS_unp, wS_setix, wS_aug, wS_expr, wS_ret, wS_retN, wS_ife, wS_for, wS_while, wS_pass, wS_brk, wS_cont, wE_v, wE_non, wE_bl, wE_int, wE_str, wE_neg, wE_op, wE_cmp, wE_chain, wE_and, wE_or, wE_not, wE_ite, wE_ix, wE_sl, wE_tup, wE_lst, wE_dnew, wE_call, wE_bi, wE_isi, wE_me, wE_lc0, wE_dc, wE_sset, wE_frz, wEs_nil, wEs_cons, wI_over, wI_rng1, wI_rng2, List.map_cons, List.map_nil, List.length_cons, List.length_nil, List.cons_append, List.nil_append, lk_0, lk_s, st_0, st_s, ix_0, ix_1, ix_2, Op2.o, Cm.o, BI.o, ME.o, ME.rv, is_o, eq_int, cmp_int, overT, nop_cmp, nop_chain, nop_and, nop_or, nop_not, nop_call, nop_bi, nop_ite, nop_ix, nop_v, nop_int, nop_op, nop_neg, nop_nop, wE_lc_cmp, wE_lc_chain, wE_lc_and, wE_lc_or, wE_lc_not, wE_lc_call, wE_lc_bi, wE_lc_ite, wE_lc_ix, wE_lc_v, List.replicate_succ, List.replicate_zero, Nat.reduceAdd, Nat.reduceSub, oT_s, oT_n, eq_io, eq_oi, is_i, is_n, Bool.xor_true, Bool.xor_false, Bool.false_xor, Bool.true_xor, Bool.not_true, Bool.not_false, mk_t, bodyC_n, bodyC_n1, bodyD_n, mk_f]
  intro q hq
  refine ⟨64 * 3, ?_⟩
  have main : ∀ (m : Nat) (f todo : List Nat) (x : Option T) (Hx : TH), m ≤ 192 → 2 * (60 - f.length) + todo.length < m → DInv w f todo → Two H p q (.dk (dks f)) (.lst (todo.map nT)) Hx →
      whGo (wE C (.cmp .gt (.bi .len (.cons (.v 2) .nil)) (.int 0))) (wSs C b_states_come_to_L2) m { nx := wSs C (.cons (.ret (.bi .tuple (.cons (.bi (.sorted true) (.cons (.v 1) .nil)) .nil))) .nil) (bodyEnds Q), rt := (bodyEnds Q).rt, bk := (bodyEnds Q).bk, ct := (bodyEnds Q).ct }
        [some (encW w), some (.ref p), some (.ref q), x] Hx := by
    intro m
    induction m with
    | zero => intro f todo x Hx _ h; omega
    | succ m ih =>
      intro f todo x Hx hm0 hm d h2
      have hfl := d.len ok
      have hsm := ok.small
      unfold whGo
      simp only [wSs_cons, wSs_nil, wS_set, wS_unp, wS_setix, wS_aug, wS_expr, wS_ret, wS_retN, wS_ife, wS_for, wS_while, wS_pass, wS_brk, wS_cont, wE_v, wE_non, wE_bl, wE_int, wE_str, wE_neg, wE_op, wE_cmp, wE_chain, wE_and, wE_or, wE_not, wE_ite, wE_ix, wE_sl, wE_tup, wE_lst, wE_dnew, wE_call, wE_bi, wE_isi, wE_me, wE_lc0, wE_dc, wE_sset, wE_frz, wEs_nil, wEs_cons, wI_over, wI_rng1, wI_rng2, List.map_cons, List.map_nil, List.length_cons, List.length_nil, List.cons_append, List.nil_append, lk_0, lk_s, st_0, st_s, ix_0, ix_1, ix_2, Op2.o, Cm.o, BI.o, ME.o, ME.rv, is_o, eq_int, cmp_int, overT, nop_cmp, nop_chain, nop_and, nop_or, nop_not, nop_call, nop_bi, nop_ite, nop_ix, nop_v, nop_int, nop_op, nop_neg, nop_nop, wE_lc_cmp, wE_lc_chain, wE_lc_and, wE_lc_or, wE_lc_not, wE_lc_call, wE_lc_bi, wE_lc_ite, wE_lc_ix, wE_lc_v, List.replicate_succ, List.replicate_zero, Nat.reduceAdd, Nat.reduceSub, oT_s, oT_n, eq_io, eq_oi, is_i, is_n, Bool.xor_true, Bool.xor_false, Bool.false_xor, Bool.true_xor, Bool.not_true, Bool.not_false, mk_t, bodyC_n, bodyC_n1, bodyD_n, len_l h2.q, List.length_map]
      rcases List.eq_nil_or_concat todo with rfl | ⟨td, s, rfl⟩
      · simp only [List.length_nil, Int.natCast_zero, Int.lt_irrefl, decide_false, List.map_nil, wSs_cons, wSs_nil, wS_set, wS_unp, wS_setix, wS_aug, wS_expr, wS_ret, wS_retN, wS_ife, wS_for, wS_while, wS_pass, wS_brk, wS_cont, wE_v, wE_non, wE_bl, wE_int, wE_str, wE_neg, wE_op, wE_cmp, wE_chain, wE_and, wE_or, wE_not, wE_ite, wE_ix, wE_sl, wE_tup, wE_lst, wE_dnew, wE_call, wE_bi, wE_isi, wE_me, wE_lc0, wE_dc, wE_sset, wE_frz, wEs_nil, wEs_cons, wI_over, wI_rng1, wI_rng2, List.map_cons, List.map_nil, List.length_cons, List.length_nil, List.cons_append, List.nil_append, lk_0, lk_s, st_0, st_s, ix_0, ix_1, ix_2, Op2.o, Cm.o, BI.o, ME.o, ME.rv, is_o, eq_int, cmp_int, overT, nop_cmp, nop_chain, nop_and, nop_or, nop_not, nop_call, nop_bi, nop_ite, nop_ix, nop_v, nop_int, nop_op, nop_neg, nop_nop, wE_lc_cmp, wE_lc_chain, wE_lc_and, wE_lc_or, wE_lc_not, wE_lc_call, wE_lc_bi, wE_lc_ite, wE_lc_ix, wE_lc_v, List.replicate_succ, List.replicate_zero, Nat.reduceAdd, Nat.reduceSub, oT_s, oT_n, eq_io, eq_oi, is_i, is_n, Bool.xor_true, Bool.xor_false, Bool.false_xor, Bool.true_xor, Bool.not_true, Bool.not_false, mk_t, bodyC_n, bodyC_n1, bodyD_n]
        simp only [cSorted, seqOf, h2.p, keys_dks]
        refine ⟨sz (by rw [List.length_map]; omega), ?_⟩
        have e := sort_stt ok d.nd d.fin
        simp only [mk_t, cTuple, seqOf]
        rw [show (List.map (fun n : Nat => (n : Int)) f) = ofN f from rfl, e, ints_ofN]
        exact rts h2.sub hQ
      · rw [List.concat_eq_append] at *
        have hpos : ((0 : Int) < ((td ++ [s]).length : Int)) := by
          rw [List.length_append, List.length_singleton]
          omega
        have hs : s ∈ f := d.tin s (by simp)
        have hlt := rch_lt ok ok.bin (d.rch s hs)
        simp only [hpos, decide_true, b_states_come_to_L2, wSs_cons, wSs_nil, wS_set, wS_unp, wS_setix, wS_aug, wS_expr, wS_ret, wS_retN, wS_ife, wS_for, wS_while, wS_pass, wS_brk, wS_cont, wE_v, wE_non, wE_bl, wE_int, wE_str, wE_neg, wE_op, wE_cmp, wE_chain, wE_and, wE_or, wE_not, wE_ite, wE_ix, wE_sl, wE_tup, wE_lst, wE_dnew, wE_call, wE_bi, wE_isi, wE_me, wE_lc0, wE_dc, wE_sset, wE_frz, wEs_nil, wEs_cons, wI_over, wI_rng1, wI_rng2, List.map_cons, List.map_nil, List.length_cons, List.length_nil, List.cons_append, List.nil_append, lk_0, lk_s, st_0, st_s, ix_0, ix_1, ix_2, Op2.o, Cm.o, BI.o, ME.o, ME.rv, is_o, eq_int, cmp_int, overT, nop_cmp, nop_chain, nop_and, nop_or, nop_not, nop_call, nop_bi, nop_ite, nop_ix, nop_v, nop_int, nop_op, nop_neg, nop_nop, wE_lc_cmp, wE_lc_chain, wE_lc_and, wE_lc_or, wE_lc_not, wE_lc_call, wE_lc_bi, wE_lc_ite, wE_lc_ix, wE_lc_v, List.replicate_succ, List.replicate_zero, Nat.reduceAdd, Nat.reduceSub, oT_s, oT_n, eq_io, eq_oi, is_i, is_n, Bool.xor_true, Bool.xor_false, Bool.false_xor, Bool.true_xor, Bool.not_true, Bool.not_false, mk_t, bodyC_n, bodyC_n1, bodyD_n]
        refine ⟨recv_l h2.q, ?_⟩
        rw [pop_l h2.q (x := nT s) (by simp)]
        rw [ix_at (nx_some hlt)]
        have h3 := h2.setq (B' := .lst ((td ++ [s]).map nT).dropLast)
        rw [List.map_append, List.map_cons, List.map_nil, List.dropLast_concat] at h3
        have hrow : (nx w s).length ≤ 60 := Nat.le_trans (nd_len (nx_nd ok s) fun x hx => nx_lt ok hx) ok.small
        rw [List.length_append, List.length_singleton] at hm
        simp only [wSs_cons, wSs_nil, wS_set, wS_unp, wS_setix, wS_aug, wS_expr, wS_ret, wS_retN, wS_ife, wS_for, wS_while, wS_pass, wS_brk, wS_cont, wE_v, wE_non, wE_bl, wE_int, wE_str, wE_neg, wE_op, wE_cmp, wE_chain, wE_and, wE_or, wE_not, wE_ite, wE_ix, wE_sl, wE_tup, wE_lst, wE_dnew, wE_call, wE_bi, wE_isi, wE_me, wE_lc0, wE_dc, wE_sset, wE_frz, wEs_nil, wEs_cons, wI_over, wI_rng1, wI_rng2, List.map_cons, List.map_nil, List.length_cons, List.length_nil, List.cons_append, List.nil_append, lk_0, lk_s, st_0, st_s, ix_0, ix_1, ix_2, Op2.o, Cm.o, BI.o, ME.o, ME.rv, is_o, eq_int, cmp_int, overT, nop_cmp, nop_chain, nop_and, nop_or, nop_not, nop_call, nop_bi, nop_ite, nop_ix, nop_v, nop_int, nop_op, nop_neg, nop_nop, wE_lc_cmp, wE_lc_chain, wE_lc_and, wE_lc_or, wE_lc_not, wE_lc_call, wE_lc_bi, wE_lc_ite, wE_lc_ix, wE_lc_v, List.replicate_succ, List.replicate_zero, Nat.reduceAdd, Nat.reduceSub, oT_s, oT_n, eq_io, eq_oi, is_i, is_n, Bool.xor_true, Bool.xor_false, Bool.false_xor, Bool.true_xor, Bool.not_true, Bool.not_false, mk_t, bodyC_n, bodyC_n1, bodyD_n]
        refine sct_row (nx w s) f td x _ _ (nx_nd ok s) (by omega) (by omega) (by simpa using h3) fun x Hy h4 => ?_
        have d2 := d.step ok
        have h5 := d2.len ok
        refine ih _ _ x Hy (by omega) ?_ d2 h4
        rw [List.length_append] at h5 ⊢
        rw [List.length_append]
        omega
  have d0 : DInv w w.bs w.bs := ⟨ok.bnd, fun _ h => h, fun _ h => .base h, fun _ h => h, fun _ h => .inl h⟩
  exact main _ w.bs w.bs _ _ (by omega) (by omega) d0 (Two.mk0 hp hq)
end K80
set_option maxRecDepth 100000
set_option maxHeartbeats 1000000
namespace K80
open PySem PySem.Spec L2 TL
/-! ### rows that go on -/
abbrev Row := List Nat × Nat
def encR (r : Row) : T := .tup (r.1.map nT ++ [nT r.2])
def gr (w : Wd) (K : List Nat) : List Nat → List Row → List Row
  | _, [] => []
  | P, r :: R => if r.2 ∈ K then (fresh P (nx w r.2)).map (fun t => (r.1 ++ [r.2], t)) ++ gr w K (P ++ fresh P (nx w r.2)) R else gr w K P R
theorem ix_row {r : Row} {H : TH} {Q : TL.KT} : oIx (encR r) (.int (-1)) H Q = Q (nT r.2) H := ix_lit (atI_last _ _)
/-- one object of a def's own, and one of the caller's that is written -/
structure RG (H : TH) (p q : Addr) (A B : TL.TO) (Hx : TH) : Prop where
  nq : H q = none
  ne : p ≠ q
  keep : ∀ a o, a ≠ p → H a = some o → Hx a = some o
  p : Hx p = some A
  q : Hx q = some B
theorem RG.setp {H : TH} {p q : Addr} {A B A' : TL.TO} {Hx : TH} (h : RG H p q A B Hx) : RG H p q A' B (up Hx p A') :=
  ⟨h.nq, h.ne, fun a o n e => by rw [up_ne n]; exact h.keep a o n e, up_same, by rw [up_ne h.ne.symm]; exact h.q⟩
theorem RG.setq {H : TH} {p q : Addr} {A B B' : TL.TO} {Hx : TH} (h : RG H p q A B Hx) : RG H p q A B' (up Hx q B') :=
  ⟨h.nq, h.ne, fun a o n e => by rw [up_ne (ne_up e h.nq)]; exact h.keep a o n e, by rw [up_ne h.ne]; exact h.p, up_same⟩
theorem RG.mk0 {H : TH} {p q : Addr} {A B : TL.TO} (hp : H p = some A) (hq : H q = none) : RG H p q A B (up H q B) :=
  ⟨hq, ne_up hp hq, fun a o n e => by rw [up_ne (ne_up e hq)]; exact e, by rw [up_ne (ne_up hp hq)]; exact hp, up_same⟩
theorem RG.fin {H : TH} {p q : Addr} {A B : TL.TO} {Hx : TH} (h : RG H p q A B Hx) : Sub (up H p A) (del Hx q) := fun a o e => by
  have n : a ≠ q := by
    intro z
    subst z
    rw [up_ne h.ne.symm, h.nq] at e
    cases e
  show (if a = q then none else Hx a) = some o
  rw [if_neg n]
  by_cases z : a = p
  · subst z
    rw [up_same] at e
    rw [h.p]
    exact e
  · rw [up_ne z] at e
    exact h.keep a o z e
theorem rgo_row {C : Nat → TSp} {H : TH} {p q k : Addr} {W R : Option T} {K : List Nat} {r : Row} (hk : H k = some (.dk (dks K))) (nk : k ≠ p) (hr : r.1.length ≤ 1000) : ∀ (l P : List Nat) (out : List T) (x : Option T) (D : TEnds) (Hx : TH), l.Nodup → P.length + l.length ≤ 1000 → out.length + l.length ≤ 10000 → RG H p q (.dk (dks P)) (.lst out) Hx →
    (∀ x Hy, RG H p q (.dk (dks (if r.2 ∈ K then P ++ fresh P l else P))) (.lst (if r.2 ∈ K then out ++ (fresh P l).map (fun t => encR (r.1 ++ [r.2], t)) else out)) Hy → D.nx [W, R, some (.ref k), some (.ref p), some (.ref q), some (encR r), x] Hy) →
    forGo (fun _ => True) (loopB C (.n 6) b_rows_gone_on_L1) (l.map nT) D [W, R, some (.ref k), some (.ref p), some (.ref q), some (encR r), x] Hx
  | [], P, out, x, D, Hx, _, _, _, h2, hn => by
    simp only [List.map_nil, forGo_nil, true_and]
    exact hn x Hx (by simpa [fresh] using h2)
  | t :: l, P, out, x, D, Hx, nd, hP, ho, h2, hn => by
    rw [List.length_cons] at hP ho
    have hk2 := h2.keep k _ nk hk
    simp only [List.map_cons, forGo_cons, loopB_n, b_rows_gone_on_L1, wSs_cons, wSs_nil, wS_set, wS_unp, wS_setix, wS_aug, wS_expr, wS_ret, wS_retN, wS_ife, wS_for, wS_while, wS_pass, wS_brk, wS_cont, wE_v, wE_non, wE_bl, wE_int, wE_str, wE_neg, wE_op, wE_cmp, wE_chain, wE_and, wE_or, wE_not, wE_ite, wE_ix, wE_sl, wE_tup, wE_lst, wE_dnew, wE_call, wE_bi, wE_isi, wE_me, wE_lc0, wE_dc, wE_sset, wE_frz, wEs_nil, wEs_cons, wI_over, wI_rng1, wI_rng2, List.map_cons, List.map_nil, List.length_cons, List.length_nil, List.cons_append, List.nil_append, lk_0, lk_s, st_0, st_s, ix_0, ix_1, ix_2, Op2.o, Cm.o, BI.o, ME.o, ME.rv, is_o, eq_int, cmp_int, overT, nop_cmp, nop_chain, nop_and, nop_or, nop_not, nop_call, nop_bi, nop_ite, nop_ix, nop_v, nop_int, nop_op, nop_neg, nop_nop, wE_lc_cmp, wE_lc_chain, wE_lc_and, wE_lc_or, wE_lc_not, wE_lc_call, wE_lc_bi, wE_lc_ite, wE_lc_ix, wE_lc_v, List.replicate_succ, List.replicate_zero, Nat.reduceAdd, Nat.reduceSub, oT_s, oT_n, eq_io, eq_oi, is_i, is_n, Bool.xor_true, Bool.xor_false, Bool.false_xor, Bool.true_xor, Bool.not_true, Bool.not_false, mk_t, bodyC_n, bodyC_n1, bodyD_n, true_and, ix_row, in_dks hk2]
    by_cases mk : r.2 ∈ K
    · simp only [mk, decide_true, in_dks h2.p]
      by_cases m : t ∈ P
      · simp only [m, decide_true, Bool.not_true]
        refine rgo_row hk nk hr l P out _ D Hx (List.nodup_cons.mp nd).2 (by omega) (by omega) h2 fun x Hy h => hn x Hy ?_
        rw [fresh_cons_in m]
        exact h
      · simp only [m, decide_false, Bool.not_false, set_d h2.p key_i, len_dks]
        refine ⟨sz' (by omega), ?_⟩
        have h3 := h2.setp (A' := .dk (setK (dks P) (Sum.inl (t : Int)) (T.bl true)))
        rw [setK_dks, if_neg m] at h3 ⊢
        refine ⟨recv_l h3.q, ?_⟩
        simp only [encR, oAdd, wSs_cons, wSs_nil, wS_set, wS_unp, wS_setix, wS_aug, wS_expr, wS_ret, wS_retN, wS_ife, wS_for, wS_while, wS_pass, wS_brk, wS_cont, wE_v, wE_non, wE_bl, wE_int, wE_str, wE_neg, wE_op, wE_cmp, wE_chain, wE_and, wE_or, wE_not, wE_ite, wE_ix, wE_sl, wE_tup, wE_lst, wE_dnew, wE_call, wE_bi, wE_isi, wE_me, wE_lc0, wE_dc, wE_sset, wE_frz, wEs_nil, wEs_cons, wI_over, wI_rng1, wI_rng2, List.map_cons, List.map_nil, List.length_cons, List.length_nil, List.cons_append, List.nil_append, lk_0, lk_s, st_0, st_s, ix_0, ix_1, ix_2, Op2.o, Cm.o, BI.o, ME.o, ME.rv, is_o, eq_int, cmp_int, overT, nop_cmp, nop_chain, nop_and, nop_or, nop_not, nop_call, nop_bi, nop_ite, nop_ix, nop_v, nop_int, nop_op, nop_neg, nop_nop, wE_lc_cmp, wE_lc_chain, wE_lc_and, wE_lc_or, wE_lc_not, wE_lc_call, wE_lc_bi, wE_lc_ite, wE_lc_ix, wE_lc_v, List.replicate_succ, List.replicate_zero, Nat.reduceAdd, Nat.reduceSub, oT_s, oT_n, eq_io, eq_oi, is_i, is_n, Bool.xor_true, Bool.xor_false, Bool.false_xor, Bool.true_xor, Bool.not_true, Bool.not_false, mk_t, bodyC_n, bodyC_n1, bodyD_n]
        refine ⟨by rw [sizeLine_eq]; decide, sz (by simp; omega), ?_⟩
        rw [append_l h3.q]
        refine ⟨sz' (by omega), ?_⟩
        have h4 := h3.setq (B' := .lst (out ++ [encR (r.1 ++ [r.2], t)]))
        simp only [encR, List.map_append, List.map_cons, List.map_nil] at h4
        refine rgo_row hk nk hr l (P ++ [t]) _ _ D _ (List.nodup_cons.mp nd).2 (by rw [List.length_append, List.length_singleton]; omega) (by rw [List.length_append, List.length_singleton]; omega) h4 fun x Hy h => hn x Hy ?_
        rw [if_pos mk, if_pos mk] at h ⊢
        rw [fresh_cons_out m nd]
        rw [List.append_assoc, List.append_assoc] at h
        simpa only [List.map_cons, encR, List.map_append, List.map_nil, List.cons_append, List.nil_append] using h
    · simp only [mk, decide_false]
      refine rgo_row hk nk hr l P out _ D Hx (List.nodup_cons.mp nd).2 (by omega) (by omega) h2 fun x Hy h => hn x Hy ?_
      rw [if_neg mk, if_neg mk] at h ⊢
      exact h
def sp_rows_gone_on : TSp := fun ts H Q => ∃ (w : Wd) (R : List Row) (K P : List Nat) (k p : Addr), ts = [encW w, .lst (R.map encR), .ref k, .ref p] ∧ w.Ok ∧ H k = some (.dk (dks K)) ∧ H p = some (.dk (dks P)) ∧ k ≠ p ∧
  (∀ r ∈ R, r.2 < w.ws.length ∧ r.1.length ≤ 1000) ∧ P.length + (gr w K P R).length ≤ 100 ∧ Q (.lst ((gr w K P R).map encR)) (up H p (.dk (dks (P ++ (gr w K P R).map (·.2)))))
theorem snd_map (l i : List Nat) : (l.map fun t => ((i, t) : Row)).map (·.2) = l := by
  rw [List.map_map]
  exact List.map_id _
theorem w_rows_gone_on {C : Nat → TSp} (ts : List T) (H : TH) (Q : TL.KT) (h : sp_rows_gone_on ts H Q) : wSs C b_rows_gone_on (bodyEnds Q) (start0 n_rows_gone_on ts) H := by
  obtain ⟨w, R0, K, P0, k, p, rfl, ok, hk, hp, nk, hR, hP, hQ⟩ := h
  simp only [b_rows_gone_on, start0, n_rows_gone_on, wSs_cons, wSs_nil, wS_set, wS_unp, wS_setix, wS_aug, wS_expr, wS_ret, wS_retN, wS_ife, wS_for, wS_while, wS_pass, wS_brk, wS_cont, wE_v, wE_non, wE_bl, wE_int, wE_str, wE_neg, wE_op, wE_cmp, wE_chain, wE_and, wE_or, wE_not, wE_ite, wE_ix, wE_sl, wE_tup, wE_lst, wE_dnew, wE_call, wE_bi, wE_isi, wE_me, wE_lc0, wE_dc, wE_sset, wE_frz, wEs_nil, wEs_cons, wI_over, wI_rng1, wI_rng2, List.map_cons, List.map_nil, List.length_cons, List.length_nil, List.cons_append, List.nil_append, lk_0, lk_s, st_0, st_s, ix_0, ix_1, ix_2, Op2.o, Cm.o, BI.o, ME.o, ME.rv, is_o, eq_int, cmp_int, overT, nop_cmp, nop_chain, nop_and, nop_or, nop_not, nop_call, nop_bi, nop_ite, nop_ix, nop_v, nop_int, nop_op, nop_neg, nop_nop, wE_lc_cmp, wE_lc_chain, wE_lc_and, wE_lc_or, wE_lc_not, wE_lc_call, wE_lc_bi, wE_lc_ite, wE_lc_ix, wE_lc_v, List.replicate_succ, List.replicate_zero, Nat.reduceAdd, Nat.reduceSub, oT_s, oT_n, eq_io, eq_oi, is_i, is_n, Bool.xor_true, Bool.xor_false, Bool.false_xor, Bool.true_xor, Bool.not_true, Bool.not_false, mk_t, bodyC_n, bodyC_n1, bodyD_n, mk_f]
  refine ⟨sz (by omega), fun q hq => ?_⟩
  have main : ∀ (R : List Row) (P : List Nat) (out : List Row) (y x : Option T) (Hx : TH), (∀ r ∈ R, r.2 < w.ws.length ∧ r.1.length ≤ 1000) → out.length = P.length - P0.length → P0.length ≤ P.length → P.length + (gr w K P R).length ≤ 100 → out ++ gr w K P R = gr w K P0 R0 → P ++ (gr w K P R).map (·.2) = P0 ++ (gr w K P0 R0).map (·.2) → RG H p q (.dk (dks P)) (.lst (out.map encR)) Hx →
      forGo (fun _ => True) (loopB C (.n 5) b_rows_gone_on_L2) (R.map encR) { nx := wSs C (.cons (.ret (.frz (.v 4))) .nil) (bodyEnds Q), rt := (bodyEnds Q).rt, bk := (bodyEnds Q).bk, ct := (bodyEnds Q).ct }
        [some (encW w), some (.lst (R0.map encR)), some (.ref k), some (.ref p), some (.ref q), y, x] Hx := by
    intro R
    induction R with
    | nil =>
      intro P out y x Hx _ _ _ _ e1 e2 h2
      simp only [gr, List.append_nil, List.map_nil] at e1 e2
      simp only [List.map_nil, forGo_nil, wSs_cons, wSs_nil, wS_set, wS_unp, wS_setix, wS_aug, wS_expr, wS_ret, wS_retN, wS_ife, wS_for, wS_while, wS_pass, wS_brk, wS_cont, wE_v, wE_non, wE_bl, wE_int, wE_str, wE_neg, wE_op, wE_cmp, wE_chain, wE_and, wE_or, wE_not, wE_ite, wE_ix, wE_sl, wE_tup, wE_lst, wE_dnew, wE_call, wE_bi, wE_isi, wE_me, wE_lc0, wE_dc, wE_sset, wE_frz, wEs_nil, wEs_cons, wI_over, wI_rng1, wI_rng2, List.map_cons, List.map_nil, List.length_cons, List.length_nil, List.cons_append, List.nil_append, lk_0, lk_s, st_0, st_s, ix_0, ix_1, ix_2, Op2.o, Cm.o, BI.o, ME.o, ME.rv, is_o, eq_int, cmp_int, overT, nop_cmp, nop_chain, nop_and, nop_or, nop_not, nop_call, nop_bi, nop_ite, nop_ix, nop_v, nop_int, nop_op, nop_neg, nop_nop, wE_lc_cmp, wE_lc_chain, wE_lc_and, wE_lc_or, wE_lc_not, wE_lc_call, wE_lc_bi, wE_lc_ite, wE_lc_ix, wE_lc_v, List.replicate_succ, List.replicate_zero, Nat.reduceAdd, Nat.reduceSub, oT_s, oT_n, eq_io, eq_oi, is_i, is_n, Bool.xor_true, Bool.xor_false, Bool.false_xor, Bool.true_xor, Bool.not_true, Bool.not_false, mk_t, bodyC_n, bodyC_n1, bodyD_n, true_and, frz_l h2.q]
      rw [← e2, ← e1] at hQ
      exact rts h2.fin hQ
    | cons r R ih =>
      intro P out y x Hx hR hl hl0 hlen e1 e2 h2
      obtain ⟨h3, h4⟩ := hR r List.mem_cons_self
      have hR' := fun a ha => hR a (List.mem_cons_of_mem _ ha)
      simp only [List.map_cons, forGo_cons, loopB_n, b_rows_gone_on_L2, wSs_cons, wSs_nil, wS_set, wS_unp, wS_setix, wS_aug, wS_expr, wS_ret, wS_retN, wS_ife, wS_for, wS_while, wS_pass, wS_brk, wS_cont, wE_v, wE_non, wE_bl, wE_int, wE_str, wE_neg, wE_op, wE_cmp, wE_chain, wE_and, wE_or, wE_not, wE_ite, wE_ix, wE_sl, wE_tup, wE_lst, wE_dnew, wE_call, wE_bi, wE_isi, wE_me, wE_lc0, wE_dc, wE_sset, wE_frz, wEs_nil, wEs_cons, wI_over, wI_rng1, wI_rng2, List.map_cons, List.map_nil, List.length_cons, List.length_nil, List.cons_append, List.nil_append, lk_0, lk_s, st_0, st_s, ix_0, ix_1, ix_2, Op2.o, Cm.o, BI.o, ME.o, ME.rv, is_o, eq_int, cmp_int, overT, nop_cmp, nop_chain, nop_and, nop_or, nop_not, nop_call, nop_bi, nop_ite, nop_ix, nop_v, nop_int, nop_op, nop_neg, nop_nop, wE_lc_cmp, wE_lc_chain, wE_lc_and, wE_lc_or, wE_lc_not, wE_lc_call, wE_lc_bi, wE_lc_ite, wE_lc_ix, wE_lc_v, List.replicate_succ, List.replicate_zero, Nat.reduceAdd, Nat.reduceSub, oT_s, oT_n, eq_io, eq_oi, is_i, is_n, Bool.xor_true, Bool.xor_false, Bool.false_xor, Bool.true_xor, Bool.not_true, Bool.not_false, mk_t, bodyC_n, bodyC_n1, bodyD_n, true_and, ix_row, ix_at (nx_some h3)]
      have hrow : (nx w r.2).length ≤ 60 := Nat.le_trans (nd_len (nx_nd ok _) fun x hx => nx_lt ok hx) ok.small
      refine rgo_row hk nk h4 (nx w r.2) P (out.map encR) _ _ Hx (nx_nd ok _) (by omega) (by rw [List.length_map]; omega) h2 fun x Hy hy => ?_
      simp only [wSs_cons, wSs_nil, wS_set, wS_unp, wS_setix, wS_aug, wS_expr, wS_ret, wS_retN, wS_ife, wS_for, wS_while, wS_pass, wS_brk, wS_cont, wE_v, wE_non, wE_bl, wE_int, wE_str, wE_neg, wE_op, wE_cmp, wE_chain, wE_and, wE_or, wE_not, wE_ite, wE_ix, wE_sl, wE_tup, wE_lst, wE_dnew, wE_call, wE_bi, wE_isi, wE_me, wE_lc0, wE_dc, wE_sset, wE_frz, wEs_nil, wEs_cons, wI_over, wI_rng1, wI_rng2, List.map_cons, List.map_nil, List.length_cons, List.length_nil, List.cons_append, List.nil_append, lk_0, lk_s, st_0, st_s, ix_0, ix_1, ix_2, Op2.o, Cm.o, BI.o, ME.o, ME.rv, is_o, eq_int, cmp_int, overT, nop_cmp, nop_chain, nop_and, nop_or, nop_not, nop_call, nop_bi, nop_ite, nop_ix, nop_v, nop_int, nop_op, nop_neg, nop_nop, wE_lc_cmp, wE_lc_chain, wE_lc_and, wE_lc_or, wE_lc_not, wE_lc_call, wE_lc_bi, wE_lc_ite, wE_lc_ix, wE_lc_v, List.replicate_succ, List.replicate_zero, Nat.reduceAdd, Nat.reduceSub, oT_s, oT_n, eq_io, eq_oi, is_i, is_n, Bool.xor_true, Bool.xor_false, Bool.false_xor, Bool.true_xor, Bool.not_true, Bool.not_false, mk_t, bodyC_n, bodyC_n1, bodyD_n]
      by_cases m : r.2 ∈ K
      · rw [if_pos m, if_pos m] at hy
        simp only [gr, if_pos m] at hlen e1 e2
        rw [List.length_append, List.length_map] at hlen
        rw [← List.append_assoc] at e1
        rw [List.map_append, ← List.append_assoc, snd_map] at e2
        have hy2 : RG H p q (.dk (dks (P ++ fresh P (nx w r.2)))) (.lst ((out ++ (fresh P (nx w r.2)).map (fun t => ((r.1 ++ [r.2], t) : Row))).map encR)) Hy := by
          rw [List.map_append, List.map_map]
          exact hy
        refine ih _ _ _ x Hy hR' ?_ ?_ ?_ e1 e2 hy2
        · simp only [List.length_append, List.length_map]
          omega
        · simp only [List.length_append]
          omega
        · simp only [List.length_append]
          omega
      · rw [if_neg m, if_neg m] at hy
        simp only [gr, if_neg m] at hlen e1 e2
        exact ih P out _ x Hy hR' hl hl0 hlen e1 e2 hy
  exact main R0 P0 [] _ _ _ hR (by simp) (Nat.le_refl _) hP rfl rfl (RG.mk0 hp hq)
end K80
set_option maxRecDepth 100000
set_option maxHeartbeats 1000000
namespace K80
open PySem PySem.Spec L2 TL
/-! ### the shortest way -/
inductive Rin (w : Wd) (K : List Nat) (s : Nat) : Nat → Prop where
  | base : Rin w K s s
  | step {x t : Nat} (h : Rin w K s x) (k : x ∈ K) (m : t ∈ nx w x) : Rin w K s t
def Comes (w : Wd) (K G : List Nat) (s : Nat) : Prop := ∃ x t, Rin w K s x ∧ x ∈ K ∧ t ∈ nx w x ∧ t ∈ G
theorem gr_mem {w : Wd} {K : List Nat} : ∀ {P : List Nat} {R : List Row} {a : Row}, a ∈ gr w K P R → ∃ r ∈ R, r.2 ∈ K ∧ a.2 ∈ nx w r.2 ∧ a.1.length = r.1.length + 1
  | _, [], _, h => nomatch h
  | P, r :: R, a, h => by
    unfold gr at h
    by_cases m : r.2 ∈ K
    · rw [if_pos m] at h
      rcases List.mem_append.mp h with h | h
      · obtain ⟨t, ht, e⟩ := List.mem_map.mp h
        subst e
        exact ⟨r, List.mem_cons_self, m, (List.mem_filter.mp ht).1, by simp⟩
      · obtain ⟨b, hb, z⟩ := gr_mem h
        exact ⟨b, List.mem_cons_of_mem _ hb, z⟩
    · rw [if_neg m] at h
      obtain ⟨b, hb, z⟩ := gr_mem h
      exact ⟨b, List.mem_cons_of_mem _ hb, z⟩
theorem fresh_nd {P r : List Nat} (hP : P.Nodup) (hr : r.Nodup) : (P ++ fresh P r).Nodup := by
  refine List.nodup_append.mpr ⟨hP, hr.filter _, fun a ha b hb e => ?_⟩
  subst e
  exact absurd ha (of_decide_eq_true (List.mem_filter.mp hb).2)
theorem fresh_all {P r : List Nat} {t : Nat} (h : t ∈ r) : t ∈ P ++ fresh P r := by
  by_cases m : t ∈ P
  · exact List.mem_append_left _ m
  · exact List.mem_append_right _ (List.mem_filter.mpr ⟨h, decide_eq_true m⟩)
theorem gr_nd {w : Wd} (ok : w.Ok) {K : List Nat} : ∀ {R : List Row} {P : List Nat}, P.Nodup → (P ++ (gr w K P R).map (·.2)).Nodup
  | [], P, h => by simpa [gr] using h
  | r :: R, P, h => by
    unfold gr
    by_cases m : r.2 ∈ K
    · rw [if_pos m, List.map_append, snd_map, ← List.append_assoc]
      exact gr_nd ok (fresh_nd h (nx_nd ok _))
    · rw [if_neg m]
      exact gr_nd ok h
theorem gr_all {w : Wd} {K : List Nat} : ∀ {R : List Row} {P : List Nat} {r : Row}, r ∈ R → r.2 ∈ K → ∀ t ∈ nx w r.2, t ∈ P ++ (gr w K P R).map (·.2)
  | [], _, _, h, _, _, _ => nomatch h
  | a :: R, P, r, h, hk, t, ht => by
    unfold gr
    rcases List.mem_cons.mp h with e | h
    · subst e
      rw [if_pos hk, List.map_append, snd_map, ← List.append_assoc]
      exact List.mem_append_left _ (fresh_all ht)
    · by_cases m : a.2 ∈ K
      · rw [if_pos m, List.map_append, snd_map, ← List.append_assoc]
        exact gr_all h hk t ht
      · rw [if_neg m]
        exact gr_all h hk t ht
structure WInv (w : Wd) (K G : List Nat) (s : Nat) (P : List Nat) (R : List Row) : Prop where
  nd : P.Nodup
  rin : ∀ r ∈ R, Rin w K s r.2
  pin : ∀ t ∈ P, t < w.ws.length
  png : ∀ t ∈ P, t ∉ G
  done : ∀ x, x = s ∨ x ∈ P → (∃ r ∈ R, r.2 = x) ∨ (x ∈ K → ∀ t ∈ nx w x, t ∈ P)
  len : ∀ r ∈ R, r.1.length ≤ P.length
theorem WInv.step {w : Wd} (ok : w.Ok) {K G : List Nat} {s : Nat} {P : List Nat} {R : List Row} (h : WInv w K G s P R) (n : ∀ r ∈ gr w K P R, r.2 ∉ G) : WInv w K G s (P ++ (gr w K P R).map (·.2)) (gr w K P R) := by
  refine ⟨gr_nd ok h.nd, fun a ha => ?_, fun t ht => ?_, fun t ht => ?_, fun x hx => ?_, fun a ha => ?_⟩
  · obtain ⟨r, hr, hk, m, _⟩ := gr_mem ha
    exact .step (h.rin r hr) hk m
  · rcases List.mem_append.mp ht with z | z
    · exact h.pin t z
    · obtain ⟨a, ha, e⟩ := List.mem_map.mp z
      obtain ⟨r, _, _, m, _⟩ := gr_mem ha
      exact nx_lt ok (e ▸ m)
  · rcases List.mem_append.mp ht with z | z
    · exact h.png t z
    · obtain ⟨a, ha, e⟩ := List.mem_map.mp z
      exact e ▸ n a ha
  · by_cases z : x ∈ (gr w K P R).map (·.2)
    · obtain ⟨a, ha, e⟩ := List.mem_map.mp z
      exact .inl ⟨a, ha, e⟩
    · have hx' : x = s ∨ x ∈ P := by
        rcases hx with e | e
        · exact .inl e
        · rcases List.mem_append.mp e with e | e
          · exact .inr e
          · exact absurd e z
      rcases h.done x hx' with ⟨r, hr, e⟩ | d
      · subst e
        exact .inr fun hk t ht => gr_all hr hk t ht
      · exact .inr fun hk t ht => List.mem_append_left _ (d hk t ht)
  · obtain ⟨r, hr, _, _, e⟩ := gr_mem ha
    have h1 := h.len r hr
    have h2 : 0 < (gr w K P R).length := List.length_pos_of_mem ha
    rw [List.length_append, List.length_map]
    omega
theorem WInv.plen {w : Wd} (ok : w.Ok) {K G : List Nat} {s : Nat} {P : List Nat} {R : List Row} (h : WInv w K G s P R) : P.length ≤ 60 := Nat.le_trans (nd_len h.nd h.pin) ok.small
theorem gr_len {w : Wd} (ok : w.Ok) {K G : List Nat} {s : Nat} {P : List Nat} {R : List Row} (h : WInv w K G s P R) : P.length + (gr w K P R).length ≤ 60 := by
  have h1 := nd_len (n := w.ws.length) (gr_nd ok (K := K) (R := R) h.nd) fun t ht => by
    rcases List.mem_append.mp ht with z | z
    · exact h.pin t z
    · obtain ⟨a, ha, e⟩ := List.mem_map.mp z
      obtain ⟨r, _, _, m, _⟩ := gr_mem ha
      exact nx_lt ok (e ▸ m)
  rw [List.length_append, List.length_map] at h1
  exact Nat.le_trans h1 ok.small
theorem WInv.fin {w : Wd} {K G : List Nat} {s : Nat} {P : List Nat} (h : WInv w K G s P []) : ¬ Comes w K G s := by
  have all : ∀ x, Rin w K s x → x = s ∨ x ∈ P := by
    intro x r
    induction r with
    | base => exact .inl rfl
    | step _ k m ih =>
      rcases h.done _ ih with ⟨r, hr, _⟩ | d
      · cases hr
      · exact .inr (d k _ m)
  rintro ⟨x, t, hx, hk, ht, hg⟩
  rcases h.done x (all x hx) with ⟨r, hr, _⟩ | d
  · cases hr
  · exact h.png t (d hk t ht) hg
theorem WInv.hit {w : Wd} {K G : List Nat} {s : Nat} {P : List Nat} {R : List Row} (h : WInv w K G s P R) {a : Row} (ha : a ∈ gr w K P R) (g : a.2 ∈ G) : Comes w K G s := by
  obtain ⟨r, hr, hk, m, _⟩ := gr_mem ha
  exact ⟨r.2, a.2, h.rin r hr, hk, m, g⟩
def sp_shortest_way : TSp := fun ts H Q => ∃ (w : Wd) (s : Nat) (G K : List Nat), ts = [encW w, .tup [nT s], .lst (G.map nT), .lst (K.map nT)] ∧ w.Ok ∧ s < w.ws.length ∧ K.Nodup ∧ K.length ≤ 60 ∧ ∀ t, (TL.isNon t = false ↔ Comes w K G s) → Q t H
theorem two_p_kept {H : TH} {k p : Addr} {A B B' : TL.TO} {Hx : TH} (h : Two H k p A B Hx) : Two H k p A B' (up Hx p B') := h.setq
theorem w_shortest_way {C : Nat → TSp} (h1 : C 1 = sp_rows_gone_on) (ts : List T) (H : TH) (Q : TL.KT) (h : sp_shortest_way ts H Q) : wSs C b_shortest_way (bodyEnds Q) (start0 n_shortest_way ts) H := by
  obtain ⟨w, s, G, K, rfl, ok, hs, ndK, hK, hQ⟩ := h
  simp only [b_shortest_way, start0, n_shortest_way, wSs_cons, wSs_nil, wS_set, wS_unp, wS_setix, wS_aug, wS_expr, wS_ret, wS_retN, wS_ife, wS_for, wS_while, wS_pass, wS_brk, wS_cont, wE_v, wE_non, wE_bl, wE_int, wE_str, wE_neg, wE_op, wE_cmp, wE_chain, wE_and, wE_or, wE_not, wE_ite, wE_ix, wE_sl, wE_tup, wE_lst, wE_dnew, wE_call, wE_bi, wE_isi, wE_me, wE_lc0, wE_dc, wE_sset, wE_frz, wEs_nil, wEs_cons, wI_over, wI_rng1, wI_rng2, List.map_cons, List.map_nil, List.length_cons, List.length_nil, List.cons_append, List.nil_append, lk_0, lk_s, st_0, st_s, ix_0, ix_1, ix_2, Op2.o, Cm.o, BI.o, ME.o, ME.rv, is_o, eq_int, cmp_int, overT, nop_cmp, nop_chain, nop_and, nop_or, nop_not, nop_call, nop_bi, nop_ite, nop_ix, nop_v, nop_int, nop_op, nop_neg, nop_nop, wE_lc_cmp, wE_lc_chain, wE_lc_and, wE_lc_or, wE_lc_not, wE_lc_call, wE_lc_bi, wE_lc_ite, wE_lc_ix, wE_lc_v, List.replicate_succ, List.replicate_zero, Nat.reduceAdd, Nat.reduceSub, oT_s, oT_n, eq_io, eq_oi, is_i, is_n, Bool.xor_true, Bool.xor_false, Bool.false_xor, Bool.true_xor, Bool.not_true, Bool.not_false, mk_t, bodyC_n, bodyC_n1, bodyD_n]
  refine dc_dks0 trivial (by simp) ndK (by omega) ?_
  intro k hk p hp
  simp only [cSorted, seqOf, asInts, mk_t, wSs_cons, wSs_nil, wS_set, wS_unp, wS_setix, wS_aug, wS_expr, wS_ret, wS_retN, wS_ife, wS_for, wS_while, wS_pass, wS_brk, wS_cont, wE_v, wE_non, wE_bl, wE_int, wE_str, wE_neg, wE_op, wE_cmp, wE_chain, wE_and, wE_or, wE_not, wE_ite, wE_ix, wE_sl, wE_tup, wE_lst, wE_dnew, wE_call, wE_bi, wE_isi, wE_me, wE_lc0, wE_dc, wE_sset, wE_frz, wEs_nil, wEs_cons, wI_over, wI_rng1, wI_rng2, List.map_cons, List.map_nil, List.length_cons, List.length_nil, List.cons_append, List.nil_append, lk_0, lk_s, st_0, st_s, ix_0, ix_1, ix_2, Op2.o, Cm.o, BI.o, ME.o, ME.rv, is_o, eq_int, cmp_int, overT, nop_cmp, nop_chain, nop_and, nop_or, nop_not, nop_call, nop_bi, nop_ite, nop_ix, nop_v, nop_int, nop_op, nop_neg, nop_nop, wE_lc_cmp, wE_lc_chain, wE_lc_and, wE_lc_or, wE_lc_not, wE_lc_call, wE_lc_bi, wE_lc_ite, wE_lc_ix, wE_lc_v, List.replicate_succ, List.replicate_zero, Nat.reduceAdd, Nat.reduceSub, oT_s, oT_n, eq_io, eq_oi, is_i, is_n, Bool.xor_true, Bool.xor_false, Bool.false_xor, Bool.true_xor, Bool.not_true, Bool.not_false, mk_t, bodyC_n, bodyC_n1, bodyD_n]
  refine lc_map (α := Nat) (xs := [s]) (enc := nT) (f := fun a => encR ([], a)) trivial (fun a ha G g => ?_) (sz (by simp)) ?_
  · simp only [wSs_cons, wSs_nil, wS_set, wS_unp, wS_setix, wS_aug, wS_expr, wS_ret, wS_retN, wS_ife, wS_for, wS_while, wS_pass, wS_brk, wS_cont, wE_v, wE_non, wE_bl, wE_int, wE_str, wE_neg, wE_op, wE_cmp, wE_chain, wE_and, wE_or, wE_not, wE_ite, wE_ix, wE_sl, wE_tup, wE_lst, wE_dnew, wE_call, wE_bi, wE_isi, wE_me, wE_lc0, wE_dc, wE_sset, wE_frz, wEs_nil, wEs_cons, wI_over, wI_rng1, wI_rng2, List.map_cons, List.map_nil, List.length_cons, List.length_nil, List.cons_append, List.nil_append, lk_0, lk_s, st_0, st_s, ix_0, ix_1, ix_2, Op2.o, Cm.o, BI.o, ME.o, ME.rv, is_o, eq_int, cmp_int, overT, nop_cmp, nop_chain, nop_and, nop_or, nop_not, nop_call, nop_bi, nop_ite, nop_ix, nop_v, nop_int, nop_op, nop_neg, nop_nop, wE_lc_cmp, wE_lc_chain, wE_lc_and, wE_lc_or, wE_lc_not, wE_lc_call, wE_lc_bi, wE_lc_ite, wE_lc_ix, wE_lc_v, List.replicate_succ, List.replicate_zero, Nat.reduceAdd, Nat.reduceSub, oT_s, oT_n, eq_io, eq_oi, is_i, is_n, Bool.xor_true, Bool.xor_false, Bool.false_xor, Bool.true_xor, Bool.not_true, Bool.not_false, mk_t, bodyC_n, bodyC_n1, bodyD_n]
    exact ⟨by rw [sizeLine_eq]; decide, g⟩
  refine ⟨200, ?_⟩
  have main : ∀ (m : Nat) (P : List Nat) (R : List Row) (f x y : Option T) (Hx : TH), 2 * (60 - P.length) + min R.length 1 < m → WInv w K G s P R → Two H k p (.dk (dks K)) (.dk (dks P)) Hx → (∀ r ∈ R, r.2 < w.ws.length) →
      whGo (wE C (.cmp .gt (.bi .len (.cons (.v 6) .nil)) (.int 0))) (wSs C b_shortest_way_L1) m { nx := wSs C (.cons (.ret .non) .nil) (bodyEnds Q), rt := (bodyEnds Q).rt, bk := (bodyEnds Q).bk, ct := (bodyEnds Q).ct }
        [some (encW w), some (.tup [nT s]), some (.lst (G.map nT)), some (.lst (K.map nT)), some (.ref k), some (.ref p), some (.lst (R.map encR)), f, x, y] Hx := by
    intro m
    induction m with
    | zero => intro P R f x y Hx h; omega
    | succ m ih =>
      intro P R f x y Hx hm d h2 hlt
      have hPl := d.plen ok
      unfold whGo
      simp only [wSs_cons, wSs_nil, wS_set, wS_unp, wS_setix, wS_aug, wS_expr, wS_ret, wS_retN, wS_ife, wS_for, wS_while, wS_pass, wS_brk, wS_cont, wE_v, wE_non, wE_bl, wE_int, wE_str, wE_neg, wE_op, wE_cmp, wE_chain, wE_and, wE_or, wE_not, wE_ite, wE_ix, wE_sl, wE_tup, wE_lst, wE_dnew, wE_call, wE_bi, wE_isi, wE_me, wE_lc0, wE_dc, wE_sset, wE_frz, wEs_nil, wEs_cons, wI_over, wI_rng1, wI_rng2, List.map_cons, List.map_nil, List.length_cons, List.length_nil, List.cons_append, List.nil_append, lk_0, lk_s, st_0, st_s, ix_0, ix_1, ix_2, Op2.o, Cm.o, BI.o, ME.o, ME.rv, is_o, eq_int, cmp_int, overT, nop_cmp, nop_chain, nop_and, nop_or, nop_not, nop_call, nop_bi, nop_ite, nop_ix, nop_v, nop_int, nop_op, nop_neg, nop_nop, wE_lc_cmp, wE_lc_chain, wE_lc_and, wE_lc_or, wE_lc_not, wE_lc_call, wE_lc_bi, wE_lc_ite, wE_lc_ix, wE_lc_v, List.replicate_succ, List.replicate_zero, Nat.reduceAdd, Nat.reduceSub, oT_s, oT_n, eq_io, eq_oi, is_i, is_n, Bool.xor_true, Bool.xor_false, Bool.false_xor, Bool.true_xor, Bool.not_true, Bool.not_false, mk_t, bodyC_n, bodyC_n1, bodyD_n, len_lmap]
      cases R with
      | nil =>
        simp only [List.length_nil, Int.natCast_zero, Int.lt_irrefl, decide_false, List.map_nil, wSs_cons, wSs_nil, wS_set, wS_unp, wS_setix, wS_aug, wS_expr, wS_ret, wS_retN, wS_ife, wS_for, wS_while, wS_pass, wS_brk, wS_cont, wE_v, wE_non, wE_bl, wE_int, wE_str, wE_neg, wE_op, wE_cmp, wE_chain, wE_and, wE_or, wE_not, wE_ite, wE_ix, wE_sl, wE_tup, wE_lst, wE_dnew, wE_call, wE_bi, wE_isi, wE_me, wE_lc0, wE_dc, wE_sset, wE_frz, wEs_nil, wEs_cons, wI_over, wI_rng1, wI_rng2, List.map_cons, List.map_nil, List.length_cons, List.length_nil, List.cons_append, List.nil_append, lk_0, lk_s, st_0, st_s, ix_0, ix_1, ix_2, Op2.o, Cm.o, BI.o, ME.o, ME.rv, is_o, eq_int, cmp_int, overT, nop_cmp, nop_chain, nop_and, nop_or, nop_not, nop_call, nop_bi, nop_ite, nop_ix, nop_v, nop_int, nop_op, nop_neg, nop_nop, wE_lc_cmp, wE_lc_chain, wE_lc_and, wE_lc_or, wE_lc_not, wE_lc_call, wE_lc_bi, wE_lc_ite, wE_lc_ix, wE_lc_v, List.replicate_succ, List.replicate_zero, Nat.reduceAdd, Nat.reduceSub, oT_s, oT_n, eq_io, eq_oi, is_i, is_n, Bool.xor_true, Bool.xor_false, Bool.false_xor, Bool.true_xor, Bool.not_true, Bool.not_false, mk_t, bodyC_n, bodyC_n1, bodyD_n]
        exact rts h2.sub (hQ .non ⟨fun z => (by cases z), fun z => absurd z d.fin⟩)
      | cons r R =>
        have hpos : ((0 : Int) < ((R.length + 1 : Nat) : Int)) := by omega
        have hg := gr_len ok d
        simp only [hpos, decide_true, b_shortest_way_L1, wSs_cons, wSs_nil, wS_set, wS_unp, wS_setix, wS_aug, wS_expr, wS_ret, wS_retN, wS_ife, wS_for, wS_while, wS_pass, wS_brk, wS_cont, wE_v, wE_non, wE_bl, wE_int, wE_str, wE_neg, wE_op, wE_cmp, wE_chain, wE_and, wE_or, wE_not, wE_ite, wE_ix, wE_sl, wE_tup, wE_lst, wE_dnew, wE_call, wE_bi, wE_isi, wE_me, wE_lc0, wE_dc, wE_sset, wE_frz, wEs_nil, wEs_cons, wI_over, wI_rng1, wI_rng2, List.map_cons, List.map_nil, List.length_cons, List.length_nil, List.cons_append, List.nil_append, lk_0, lk_s, st_0, st_s, ix_0, ix_1, ix_2, Op2.o, Cm.o, BI.o, ME.o, ME.rv, is_o, eq_int, cmp_int, overT, nop_cmp, nop_chain, nop_and, nop_or, nop_not, nop_call, nop_bi, nop_ite, nop_ix, nop_v, nop_int, nop_op, nop_neg, nop_nop, wE_lc_cmp, wE_lc_chain, wE_lc_and, wE_lc_or, wE_lc_not, wE_lc_call, wE_lc_bi, wE_lc_ite, wE_lc_ix, wE_lc_v, List.replicate_succ, List.replicate_zero, Nat.reduceAdd, Nat.reduceSub, oT_s, oT_n, eq_io, eq_oi, is_i, is_n, Bool.xor_true, Bool.xor_false, Bool.false_xor, Bool.true_xor, Bool.not_true, Bool.not_false, mk_t, bodyC_n, bodyC_n1, bodyD_n, h1]
        refine ⟨w, r :: R, K, P, k, p, rfl, ok, h2.p, h2.q, h2.ne, fun a ha => ⟨hlt a ha, Nat.le_trans (d.len a ha) (by omega)⟩, by omega, ?_⟩
        have h3 := h2.setq (B' := .dk (dks (P ++ (gr w K P (r :: R)).map (·.2))))
        refine lc_filter (α := Row) (enc := encR) (f := encR) (p := fun a => decide (a.2 ∈ G)) trivial (fun a ha G' g => ?_) (sz (by omega)) ?_
        · simp only [wSs_cons, wSs_nil, wS_set, wS_unp, wS_setix, wS_aug, wS_expr, wS_ret, wS_retN, wS_ife, wS_for, wS_while, wS_pass, wS_brk, wS_cont, wE_v, wE_non, wE_bl, wE_int, wE_str, wE_neg, wE_op, wE_cmp, wE_chain, wE_and, wE_or, wE_not, wE_ite, wE_ix, wE_sl, wE_tup, wE_lst, wE_dnew, wE_call, wE_bi, wE_isi, wE_me, wE_lc0, wE_dc, wE_sset, wE_frz, wEs_nil, wEs_cons, wI_over, wI_rng1, wI_rng2, List.map_cons, List.map_nil, List.length_cons, List.length_nil, List.cons_append, List.nil_append, lk_0, lk_s, st_0, st_s, ix_0, ix_1, ix_2, Op2.o, Cm.o, BI.o, ME.o, ME.rv, is_o, eq_int, cmp_int, overT, nop_cmp, nop_chain, nop_and, nop_or, nop_not, nop_call, nop_bi, nop_ite, nop_ix, nop_v, nop_int, nop_op, nop_neg, nop_nop, wE_lc_cmp, wE_lc_chain, wE_lc_and, wE_lc_or, wE_lc_not, wE_lc_call, wE_lc_bi, wE_lc_ite, wE_lc_ix, wE_lc_v, List.replicate_succ, List.replicate_zero, Nat.reduceAdd, Nat.reduceSub, oT_s, oT_n, eq_io, eq_oi, is_i, is_n, Bool.xor_true, Bool.xor_false, Bool.false_xor, Bool.true_xor, Bool.not_true, Bool.not_false, mk_t, bodyC_n, bodyC_n1, bodyD_n, ix_row, in_lnats]
          by_cases z : a.2 ∈ G
          · simp only [z, decide_true]
            simpa only [z, decide_true, if_true] using g
          · simp only [z, decide_false]
            simpa only [z, decide_false, if_false, Bool.false_eq_true] using g
        · simp only [wSs_cons, wSs_nil, wS_set, wS_unp, wS_setix, wS_aug, wS_expr, wS_ret, wS_retN, wS_ife, wS_for, wS_while, wS_pass, wS_brk, wS_cont, wE_v, wE_non, wE_bl, wE_int, wE_str, wE_neg, wE_op, wE_cmp, wE_chain, wE_and, wE_or, wE_not, wE_ite, wE_ix, wE_sl, wE_tup, wE_lst, wE_dnew, wE_call, wE_bi, wE_isi, wE_me, wE_lc0, wE_dc, wE_sset, wE_frz, wEs_nil, wEs_cons, wI_over, wI_rng1, wI_rng2, List.map_cons, List.map_nil, List.length_cons, List.length_nil, List.cons_append, List.nil_append, lk_0, lk_s, st_0, st_s, ix_0, ix_1, ix_2, Op2.o, Cm.o, BI.o, ME.o, ME.rv, is_o, eq_int, cmp_int, overT, nop_cmp, nop_chain, nop_and, nop_or, nop_not, nop_call, nop_bi, nop_ite, nop_ix, nop_v, nop_int, nop_op, nop_neg, nop_nop, wE_lc_cmp, wE_lc_chain, wE_lc_and, wE_lc_or, wE_lc_not, wE_lc_call, wE_lc_bi, wE_lc_ite, wE_lc_ix, wE_lc_v, List.replicate_succ, List.replicate_zero, Nat.reduceAdd, Nat.reduceSub, oT_s, oT_n, eq_io, eq_oi, is_i, is_n, Bool.xor_true, Bool.xor_false, Bool.false_xor, Bool.true_xor, Bool.not_true, Bool.not_false, mk_t, bodyC_n, bodyC_n1, bodyD_n, len_lmap]
          cases e : (gr w K P (r :: R)).filter (fun a => decide (a.2 ∈ G)) with
          | nil =>
            have hn : ∀ a ∈ gr w K P (r :: R), a.2 ∉ G := fun a ha z => by
              have : a ∈ (gr w K P (r :: R)).filter (fun a => decide (a.2 ∈ G)) := List.mem_filter.mpr ⟨ha, decide_eq_true z⟩
              rw [e] at this
              cases this
            simp only [List.length_nil, Int.natCast_zero, Int.lt_irrefl, decide_false, wSs_cons, wSs_nil, wS_set, wS_unp, wS_setix, wS_aug, wS_expr, wS_ret, wS_retN, wS_ife, wS_for, wS_while, wS_pass, wS_brk, wS_cont, wE_v, wE_non, wE_bl, wE_int, wE_str, wE_neg, wE_op, wE_cmp, wE_chain, wE_and, wE_or, wE_not, wE_ite, wE_ix, wE_sl, wE_tup, wE_lst, wE_dnew, wE_call, wE_bi, wE_isi, wE_me, wE_lc0, wE_dc, wE_sset, wE_frz, wEs_nil, wEs_cons, wI_over, wI_rng1, wI_rng2, List.map_cons, List.map_nil, List.length_cons, List.length_nil, List.cons_append, List.nil_append, lk_0, lk_s, st_0, st_s, ix_0, ix_1, ix_2, Op2.o, Cm.o, BI.o, ME.o, ME.rv, is_o, eq_int, cmp_int, overT, nop_cmp, nop_chain, nop_and, nop_or, nop_not, nop_call, nop_bi, nop_ite, nop_ix, nop_v, nop_int, nop_op, nop_neg, nop_nop, wE_lc_cmp, wE_lc_chain, wE_lc_and, wE_lc_or, wE_lc_not, wE_lc_call, wE_lc_bi, wE_lc_ite, wE_lc_ix, wE_lc_v, List.replicate_succ, List.replicate_zero, Nat.reduceAdd, Nat.reduceSub, oT_s, oT_n, eq_io, eq_oi, is_i, is_n, Bool.xor_true, Bool.xor_false, Bool.false_xor, Bool.true_xor, Bool.not_true, Bool.not_false, mk_t, bodyC_n, bodyC_n1, bodyD_n]
            refine ih _ _ _ _ _ _ ?_ (d.step ok hn) h3 fun a ha => ?_
            · rw [List.length_append, List.length_map]
              have : (r :: R).length = R.length + 1 := List.length_cons
              omega
            · obtain ⟨_, _, _, z, _⟩ := gr_mem ha
              exact nx_lt ok z
          | cons a l =>
            have ha : a ∈ (gr w K P (r :: R)).filter (fun a => decide (a.2 ∈ G)) := by
              rw [e]
              exact List.mem_cons_self
            have ha' := List.mem_filter.mp ha
            have hpos : ((0 : Int) < ((l.length + 1 : Nat) : Int)) := by omega
            simp only [hpos, decide_true, wSs_cons, wSs_nil, wS_set, wS_unp, wS_setix, wS_aug, wS_expr, wS_ret, wS_retN, wS_ife, wS_for, wS_while, wS_pass, wS_brk, wS_cont, wE_v, wE_non, wE_bl, wE_int, wE_str, wE_neg, wE_op, wE_cmp, wE_chain, wE_and, wE_or, wE_not, wE_ite, wE_ix, wE_sl, wE_tup, wE_lst, wE_dnew, wE_call, wE_bi, wE_isi, wE_me, wE_lc0, wE_dc, wE_sset, wE_frz, wEs_nil, wEs_cons, wI_over, wI_rng1, wI_rng2, List.map_cons, List.map_nil, List.length_cons, List.length_nil, List.cons_append, List.nil_append, lk_0, lk_s, st_0, st_s, ix_0, ix_1, ix_2, Op2.o, Cm.o, BI.o, ME.o, ME.rv, is_o, eq_int, cmp_int, overT, nop_cmp, nop_chain, nop_and, nop_or, nop_not, nop_call, nop_bi, nop_ite, nop_ix, nop_v, nop_int, nop_op, nop_neg, nop_nop, wE_lc_cmp, wE_lc_chain, wE_lc_and, wE_lc_or, wE_lc_not, wE_lc_call, wE_lc_bi, wE_lc_ite, wE_lc_ix, wE_lc_v, List.replicate_succ, List.replicate_zero, Nat.reduceAdd, Nat.reduceSub, oT_s, oT_n, eq_io, eq_oi, is_i, is_n, Bool.xor_true, Bool.xor_false, Bool.false_xor, Bool.true_xor, Bool.not_true, Bool.not_false, mk_t, bodyC_n, bodyC_n1, bodyD_n]
            have e0 : atI (encR a :: l.map encR) 0 = some (encR a) := atI_nat (j := 0) rfl
            simp only [oIx, seqOf, e0]
            exact rts h3.sub (hQ _ ⟨fun _ => d.hit ha'.1 (of_decide_eq_true ha'.2), fun _ => rfl⟩)
  refine main _ [] [([], s)] _ _ _ _ (by simp) ⟨.nil, fun r hr => ?_, fun t ht => (nomatch ht), fun t ht => (nomatch ht), fun x hx => ?_, fun r hr => ?_⟩ (Two.mk0 hk hp) fun r hr => ?_
  · rw [List.mem_singleton.mp hr]
    exact .base
  · rcases hx with e | e
    · exact .inl ⟨_, List.mem_cons_self, e.symm⟩
    · cases e
  · rw [List.mem_singleton.mp hr]
    exact Nat.le_refl _
  · rw [List.mem_singleton.mp hr]
    exact hs
end K80
set_option maxRecDepth 100000
set_option maxHeartbeats 1000000
namespace K80
open PySem PySem.Spec L2 TL
theorem nd1 (a : Nat) : [a].Nodup := List.nodup_cons.mpr ⟨List.not_mem_nil, .nil⟩
/-! ### does the next come? as the law asks it -/
def lcRow (sn : List (Option Int)) (u : Int) (ins : List Nat) : List Nat → List Nat → Option (List Nat)
  | found, [] => some found
  | found, t :: r => if sAt sn t = some u then none else lcRow sn u ins (if t ∈ ins ∧ t ∉ found then found ++ [t] else found) r
def lcTry (w : Wd) (sn : List (Option Int)) (u : Int) (ins : List Nat) : Nat → Nat → List Nat → Bool
  | 0, _, _ => false
  | m + 1, k, found => match found[k]? with
    | none => lcTry w sn u ins m (k + 1) found
    | some x => match lcRow sn u ins found (nx w x) with
      | none => true
      | some f => lcTry w sn u ins m (k + 1) f
def comesB (w : Wd) (sn : List (Option Int)) (S : List Nat) (s : Nat) (u : Int) : Bool := lcTry w sn u (seenBy S sn (sAt sn s)) (w.ws.length + 1) 0 [s]
theorem lcRow_none {sn : List (Option Int)} {u : Int} {ins : List Nat} : ∀ {r found : List Nat}, lcRow sn u ins found r = none → ∃ t ∈ r, sAt sn t = some u
  | [], _, h => nomatch h
  | t :: r, found, h => by
    unfold lcRow at h
    by_cases e : sAt sn t = some u
    · exact ⟨t, List.mem_cons_self, e⟩
    · rw [if_neg e] at h
      obtain ⟨x, hx, z⟩ := lcRow_none h
      exact ⟨x, List.mem_cons_of_mem _ hx, z⟩
theorem lcRow_some {sn : List (Option Int)} {u : Int} {ins : List Nat} : ∀ {r found f : List Nat}, lcRow sn u ins found r = some f → found.Nodup →
    f.Nodup ∧ (∃ e, f = found ++ e ∧ ∀ t ∈ e, t ∈ ins ∧ t ∈ r) ∧ ∀ t ∈ r, sAt sn t ≠ some u ∧ (t ∈ ins → t ∈ f)
  | [], found, f, h, nd => by
    cases h
    exact ⟨nd, ⟨[], by simp, fun t ht => (nomatch ht)⟩, fun t ht => (nomatch ht)⟩
  | t :: r, found, f, h, nd => by
    unfold lcRow at h
    by_cases e : sAt sn t = some u
    · rw [if_pos e] at h
      cases h
    · rw [if_neg e] at h
      by_cases c : t ∈ ins ∧ t ∉ found
      · rw [if_pos c] at h
        have nd2 : (found ++ [t]).Nodup := by
          refine List.nodup_append.mpr ⟨nd, nd1 t, fun a ha b hb e => ?_⟩
          rw [List.mem_singleton.mp hb] at e
          exact c.2 (e ▸ ha)
        obtain ⟨h1, ⟨x, h2, h3⟩, h4⟩ := lcRow_some h nd2
        refine ⟨h1, ⟨t :: x, by rw [h2]; simp, fun a ha => ?_⟩, fun a ha => ?_⟩
        · rcases List.mem_cons.mp ha with z | z
          · subst z
            exact ⟨c.1, List.mem_cons_self⟩
          · exact ⟨(h3 a z).1, List.mem_cons_of_mem _ (h3 a z).2⟩
        · rcases List.mem_cons.mp ha with z | z
          · subst z
            exact ⟨e, fun _ => by rw [h2]; simp⟩
          · exact h4 a z
      · rw [if_neg c] at h
        obtain ⟨h1, ⟨x, h2, h3⟩, h4⟩ := lcRow_some h nd
        refine ⟨h1, ⟨x, h2, fun a ha => ⟨(h3 a ha).1, List.mem_cons_of_mem _ (h3 a ha).2⟩⟩, fun a ha => ?_⟩
        rcases List.mem_cons.mp ha with z | z
        · subst z
          refine ⟨e, fun hi => ?_⟩
          rw [h2]
          refine List.mem_append_left _ ?_
          by_cases q : a ∈ found
          · exact q
          · exact absurd ⟨hi, q⟩ c
        · exact h4 a z
structure CInv (w : Wd) (sn : List (Option Int)) (u : Int) (ins : List Nat) (s : Nat) (k : Nat) (f : List Nat) : Prop where
  nd : f.Nodup
  sin : s ∈ f
  rin : ∀ x ∈ f, Rin w ins s x ∧ x ∈ ins
  done : ∀ j x, j < k → f[j]? = some x → ∀ t ∈ nx w x, sAt sn t ≠ some u ∧ (t ∈ ins → t ∈ f)
theorem CInv.skip {w : Wd} {sn : List (Option Int)} {u : Int} {ins : List Nat} {s k : Nat} {f : List Nat} (h : CInv w sn u ins s k f) (e : f[k]? = none) : CInv w sn u ins s (k + 1) f :=
  ⟨h.nd, h.sin, h.rin, fun j x hj hx => by
    by_cases z : j = k
    · subst z
      rw [e] at hx
      cases hx
    · exact h.done j x (by omega) hx⟩
theorem CInv.go {w : Wd} {sn : List (Option Int)} {u : Int} {ins : List Nat} {s k x : Nat} {f g : List Nat} (h : CInv w sn u ins s k f) (e : f[k]? = some x) (r : lcRow sn u ins f (nx w x) = some g) : CInv w sn u ins s (k + 1) g := by
  obtain ⟨h1, ⟨y, h2, h3⟩, h4⟩ := lcRow_some r h.nd
  have hx := h.rin x (List.mem_of_getElem? e)
  refine ⟨h1, by rw [h2]; exact List.mem_append_left _ h.sin, fun a ha => ?_, fun j a hj ha t ht => ?_⟩
  · rw [h2] at ha
    rcases List.mem_append.mp ha with z | z
    · exact h.rin a z
    · exact ⟨.step hx.1 hx.2 (h3 a z).2, (h3 a z).1⟩
  · have hl : k < f.length := by
      rcases Nat.lt_or_ge k f.length with z | z
      · exact z
      · rw [List.getElem?_eq_none z] at e
        cases e
    rw [h2, List.getElem?_append_left (by omega)] at ha
    by_cases z : j = k
    · subst z
      rw [e] at ha
      cases ha
      exact h4 t ht
    · have := h.done j a (by omega) ha t ht
      exact ⟨this.1, fun q => by rw [h2]; exact List.mem_append_left _ (this.2 q)⟩
theorem lcTry_true {w : Wd} {sn : List (Option Int)} {u : Int} {ins : List Nat} {s : Nat} : ∀ {m k : Nat} {f : List Nat}, CInv w sn u ins s k f → lcTry w sn u ins m k f = true → ∃ x t, Rin w ins s x ∧ x ∈ ins ∧ t ∈ nx w x ∧ sAt sn t = some u
  | 0, _, _, _, h => nomatch h
  | m + 1, k, f, i, h => by
    unfold lcTry at h
    split at h
    · rename_i e
      exact lcTry_true (i.skip e) h
    · rename_i x e
      split at h
      · rename_i r
        obtain ⟨t, ht, z⟩ := lcRow_none r
        have hx := i.rin x (List.mem_of_getElem? e)
        exact ⟨x, t, hx.1, hx.2, ht, z⟩
      · rename_i g r
        exact lcTry_true (i.go e r) h
theorem lcTry_false {w : Wd} {sn : List (Option Int)} {u : Int} {ins : List Nat} {s : Nat} : ∀ {m k : Nat} {f : List Nat}, CInv w sn u ins s k f → lcTry w sn u ins m k f = false → ∃ g, CInv w sn u ins s (k + m) g
  | 0, k, f, i, _ => ⟨f, i⟩
  | m + 1, k, f, i, h => by
    unfold lcTry at h
    split at h
    · rename_i e
      obtain ⟨g, z⟩ := lcTry_false (i.skip e) h
      exact ⟨g, by rw [Nat.add_right_comm k 1 m] at z; exact z⟩
    · rename_i x e
      split at h
      · cases h
      · rename_i g r
        obtain ⟨g2, z⟩ := lcTry_false (i.go e r) h
        exact ⟨g2, by rw [Nat.add_right_comm k 1 m] at z; exact z⟩
theorem mem_seenBy {S : List Nat} {sn : List (Option Int)} {o : Option Int} {s : Nat} : s ∈ seenBy S sn o ↔ s ∈ S ∧ sAt sn s = o := by
  unfold seenBy
  rw [List.mem_filter, decide_eq_true_eq]
theorem comes_iff {w : Wd} (ok : w.Ok) {sn : List (Option Int)} {s : Nat} {u : Int} (hs : s ∈ stt w) : comesB w sn (stt w) s u = true ↔ Comes w (seenBy (stt w) sn (sAt sn s)) (seenBy (stt w) sn (some u)) s := by
  have i0 : CInv w sn u (seenBy (stt w) sn (sAt sn s)) s 0 [s] := ⟨nd1 s, List.mem_cons_self, fun x hx => by
    rw [List.mem_singleton.mp hx]
    exact ⟨.base, mem_seenBy.mpr ⟨hs, rfl⟩⟩, fun j x hj => absurd hj (Nat.not_lt_zero j)⟩
  unfold comesB
  constructor
  · intro h
    obtain ⟨x, t, h1, h2, h3, h4⟩ := lcTry_true i0 h
    exact ⟨x, t, h1, h2, h3, mem_seenBy.mpr ⟨stt_step ok (mem_seenBy.mp h2).1 h3, h4⟩⟩
  · rintro ⟨x, t, h1, h2, h3, h4⟩
    cases e : lcTry w sn u (seenBy (stt w) sn (sAt sn s)) (w.ws.length + 1) 0 [s] with
    | true => rfl
    | false =>
      exfalso
      obtain ⟨g, i⟩ := lcTry_false i0 e
      have len : g.length ≤ w.ws.length := nd_len i.nd fun x hx => stt_lt (mem_seenBy.mp (i.rin x hx).2).1
      have cl : ∀ x ∈ g, ∀ t ∈ nx w x, sAt sn t ≠ some u ∧ (t ∈ seenBy (stt w) sn (sAt sn s) → t ∈ g) := fun x hx => by
        obtain ⟨j, hj⟩ := List.getElem?_of_mem hx
        have hlt : j < g.length := by
          rcases Nat.lt_or_ge j g.length with z | z
          · exact z
          · rw [List.getElem?_eq_none z] at hj
            cases hj
        exact i.done j x (by omega) hj
      have all : ∀ y, Rin w (seenBy (stt w) sn (sAt sn s)) s y → y ∈ seenBy (stt w) sn (sAt sn s) → y ∈ g := by
        intro y r
        induction r with
        | base => exact fun _ => i.sin
        | step _ k m ih => exact fun z => (cl _ (ih k) _ m).2 z
      exact (cl x (all x h1 h2) t h3).1 (mem_seenBy.mp h4).2
/-! ### all that breaks -/
def nxtB (lo u : Wd) (sn : List (Option Int)) (S : List Nat) : List Brc := S.flatMap fun s => ((nx u (seenN sn s)).filter fun x : Nat => !comesB lo sn S s (x : Int)).map (.nxt s)
def within (lo u : Wd) (sn rk : List (Option Int)) : List Brc :=
  if begB lo u sn = [] then (if litB lo u sn rk (stt lo) = [] then wayB lo u sn rk (stt lo) else litB lo u sn rk (stt lo)) else begB lo u sn
def breaches (lo u : Wd) (sn rk : List (Option Int)) : List Brc := if within lo u sn rk = [] then nxtB lo u sn (stt lo) else within lo u sn rk
/-- what a judge may be asked about -/
structure Ctx (lo u : Wd) (sn rk : List (Option Int)) : Prop where
  okl : lo.Ok
  oku : u.Ok
  sn : sn.length = lo.ws.length
  rk : rk.length = lo.ws.length
theorem Ctx.s1 {lo u : Wd} {sn rk : List (Option Int)} (c : Ctx lo u sn rk) {s : Nat} (h : s ∈ stt lo) : s < sn.length := c.sn ▸ stt_lt h
theorem Ctx.s2 {lo u : Wd} {sn rk : List (Option Int)} (c : Ctx lo u sn rk) {s : Nat} (h : s ∈ stt lo) : s < rk.length := c.rk ▸ stt_lt h
theorem seenThere_some {u : Wd} {o : Option Int} (h : seenThere u o = true) : ∃ a : Nat, o = some (a : Int) ∧ a < u.ws.length := by
  cases o with
  | none => cases h
  | some i =>
    have := of_decide_eq_true h
    exact ⟨i.toNat, by rw [Int.toNat_of_nonneg this.1], by omega⟩
/-- every state sees a state, and has a rank -/
def Seen (lo u : Wd) (sn rk : List (Option Int)) : Prop := ∀ s ∈ stt lo, (∃ a : Nat, sAt sn s = some (a : Int) ∧ a < u.ws.length) ∧ ∃ p : Int, sAt rk s = some p
theorem litB_nil {lo u : Wd} {sn rk : List (Option Int)} (h : litB lo u sn rk (stt lo) = []) : Seen lo u sn rk := by
  intro s hs
  unfold litB at h
  rw [List.map_eq_nil_iff, List.filter_eq_nil_iff] at h
  have h1 := h s hs
  have h2 : litOk u (sAt sn s) (sAt rk s) (lo.ls.getD s []) = true := by simpa using h1
  unfold litOk at h2
  rw [Bool.and_eq_true] at h2
  refine ⟨seenThere_some h2.1, ?_⟩
  cases e : sAt rk s with
  | none =>
    rw [e] at h2
    cases e2 : sAt sn s with
    | none =>
      rw [e2] at h2
      exact absurd h2.2 Bool.false_ne_true
    | some _ =>
      rw [e2] at h2
      exact absurd h2.2 Bool.false_ne_true
  | some p => exact ⟨p, rfl⟩
theorem seenN_eq {sn : List (Option Int)} {s a : Nat} (h : sAt sn s = some (a : Int)) : seenN sn s = a := by
  unfold seenN
  rw [h]
  rfl
end K80
set_option maxRecDepth 100000
set_option maxHeartbeats 1000000
namespace K80
open PySem PySem.Spec L2 TL
theorem len0 {α : Type} {l : List α} : decide ((l.length : Int) = 0) = decide (l = []) := decide_eq_decide.mpr ⟨fun h => List.eq_nil_of_length_eq_zero (by omega), fun h => by rw [h]; rfl⟩
theorem len00 {α : Type} {l : List α} : decide ((l.length : Int) = 0) = decide (l.length = 0) := decide_eq_decide.mpr ⟨fun h => by omega, fun h => by omega⟩
def sp_does_next_come : TSp := fun ts H Q => ∃ (lo : Wd) (sn : List (Option Int)) (s u a : Nat) (kvs : List (Key × T)) (g : Addr), ts = [encW lo, .ref g, oTs sn, nT s, nT u] ∧ H g = some (.dk kvs) ∧ Grp (stt lo) sn kvs ∧ lo.Ok ∧ s ∈ stt lo ∧ s < sn.length ∧ sAt sn s = some (a : Int) ∧
  Q (.bl (comesB lo sn (stt lo) s (u : Int))) H
theorem stt_nd (w : Wd) : (stt w).Nodup := (stt_sorted w).imp fun {a b} h => Nat.ne_of_lt h
theorem seenBy_nd {S : List Nat} {sn : List (Option Int)} {o : Option Int} (h : S.Nodup) : (seenBy S sn o).Nodup := h.filter _
theorem w_does_next_come {C : Nat → TSp} (h2 : C 2 = sp_shortest_way) (ts : List T) (H : TH) (Q : TL.KT) (h : sp_does_next_come ts H Q) : wSs C b_does_next_come (bodyEnds Q) (start0 n_does_next_come ts) H := by
  obtain ⟨lo, sn, s, u, a, kvs, g, rfl, hg, G, ok, hs, hl, ha, q⟩ := h
  have e1 := sAt_some hl
  rw [ha] at e1
  have hin : s ∈ seenBy (stt lo) sn (some (a : Int)) := mem_seenBy.mpr ⟨hs, ha⟩
  have hget : getK kvs (.inl (a : Int)) = some (.lst ((seenBy (stt lo) sn (some (a : Int))).map nT)) := by
    rw [G, if_neg (List.ne_nil_of_mem hin)]
  simp only [b_does_next_come, start0, n_does_next_come, wSs_cons, wSs_nil, wS_set, wS_unp, wS_setix, wS_aug, wS_expr, wS_ret, wS_retN, wS_ife, wS_for, wS_while, wS_pass, wS_brk, wS_cont, wE_v, wE_non, wE_bl, wE_int, wE_str, wE_neg, wE_op, wE_cmp, wE_chain, wE_and, wE_or, wE_not, wE_ite, wE_ix, wE_sl, wE_tup, wE_lst, wE_dnew, wE_call, wE_bi, wE_isi, wE_me, wE_lc0, wE_dc, wE_sset, wE_frz, wEs_nil, wEs_cons, wI_over, wI_rng1, wI_rng2, List.map_cons, List.map_nil, List.length_cons, List.length_nil, List.cons_append, List.nil_append, lk_0, lk_s, st_0, st_s, ix_0, ix_1, ix_2, Op2.o, Cm.o, BI.o, ME.o, ME.rv, is_o, eq_int, cmp_int, overT, nop_cmp, nop_chain, nop_and, nop_or, nop_not, nop_call, nop_bi, nop_ite, nop_ix, nop_v, nop_int, nop_op, nop_neg, nop_nop, wE_lc_cmp, wE_lc_chain, wE_lc_and, wE_lc_or, wE_lc_not, wE_lc_call, wE_lc_bi, wE_lc_ite, wE_lc_ix, wE_lc_v, List.replicate_succ, List.replicate_zero, Nat.reduceAdd, Nat.reduceSub, oT_s, oT_n, eq_io, eq_oi, is_i, is_n, Bool.xor_true, Bool.xor_false, Bool.false_xor, Bool.true_xor, Bool.not_true, Bool.not_false, mk_t, bodyC_n, bodyC_n1, bodyD_n, get2_d hg key_i, grp_getD G, ix_at e1, ix_d hg key_i hget, h2]
  refine ⟨by rw [sizeLine_eq]; decide, recv_d hg, by rw [sizeLine_eq]; decide, lo, s, _, _, rfl, ok, stt_lt hs, seenBy_nd (stt_nd lo), ?_, fun t ht => ?_⟩
  · exact Nat.le_trans (List.length_filter_le ..) (Nat.le_trans (stt_len lo) ok.small)
  · simp only [oIs]
    refine ⟨trivial, rtn ?_⟩
    have e : comesB lo sn (stt lo) s (u : Int) = (true ^^ TL.isNon t) := by
      have c := comes_iff ok (sn := sn) (u := (u : Int)) hs
      rw [ha] at c
      cases z : TL.isNon t with
      | true =>
        cases y : comesB lo sn (stt lo) s (u : Int) with
        | false => rfl
        | true =>
          have := ht.mpr (c.mp y)
          rw [z] at this
          cases this
      | false => exact c.mpr (ht.mp z)
    rw [← e]
    exact q
theorem Ctx.s3 {lo u : Wd} {sn rk : List (Option Int)} (c : Ctx lo u sn rk) {s : Nat} (h : s ∈ lo.bs) : s < sn.length := c.sn ▸ c.okl.bin s h
theorem bs_len {w : Wd} (ok : w.Ok) : w.bs.length ≤ 60 := Nat.le_trans (nd_len ok.bnd ok.bin) ok.small
theorem nx_len {w : Wd} (ok : w.Ok) (s : Nat) : (nx w s).length ≤ 60 := Nat.le_trans (nd_len (nx_nd ok s) fun x hx => nx_lt ok hx) ok.small
def sp_wrong_begins : TSp := fun ts H Q => ∃ (lo u : Wd) (sn rk : List (Option Int)), ts = [encW lo, encW u, oTs sn] ∧ Ctx lo u sn rk ∧ Q (.lst ((begB lo u sn).map encB)) H
theorem w_wrong_begins {C : Nat → TSp} (h5 : C 5 = sp_does_begin_see) (h8 : C 8 = sp_states_seeing) (ts : List T) (H : TH) (Q : TL.KT) (h : sp_wrong_begins ts H Q) : wSs C b_wrong_begins (bodyEnds Q) (start0 n_wrong_begins ts) H := by
  obtain ⟨lo, u, sn, rk, rfl, c, q⟩ := h
  have hb := bs_len c.okl
  have hb2 := bs_len c.oku
  simp only [b_wrong_begins, start0, n_wrong_begins, wSs_cons, wSs_nil, wS_set, wS_unp, wS_setix, wS_aug, wS_expr, wS_ret, wS_retN, wS_ife, wS_for, wS_while, wS_pass, wS_brk, wS_cont, wE_v, wE_non, wE_bl, wE_int, wE_str, wE_neg, wE_op, wE_cmp, wE_chain, wE_and, wE_or, wE_not, wE_ite, wE_ix, wE_sl, wE_tup, wE_lst, wE_dnew, wE_call, wE_bi, wE_isi, wE_me, wE_lc0, wE_dc, wE_sset, wE_frz, wEs_nil, wEs_cons, wI_over, wI_rng1, wI_rng2, List.map_cons, List.map_nil, List.length_cons, List.length_nil, List.cons_append, List.nil_append, lk_0, lk_s, st_0, st_s, ix_0, ix_1, ix_2, Op2.o, Cm.o, BI.o, ME.o, ME.rv, is_o, eq_int, cmp_int, overT, nop_cmp, nop_chain, nop_and, nop_or, nop_not, nop_call, nop_bi, nop_ite, nop_ix, nop_v, nop_int, nop_op, nop_neg, nop_nop, wE_lc_cmp, wE_lc_chain, wE_lc_and, wE_lc_or, wE_lc_not, wE_lc_call, wE_lc_bi, wE_lc_ite, wE_lc_ix, wE_lc_v, List.replicate_succ, List.replicate_zero, Nat.reduceAdd, Nat.reduceSub, oT_s, oT_n, eq_io, eq_oi, is_i, is_n, Bool.xor_true, Bool.xor_false, Bool.false_xor, Bool.true_xor, Bool.not_true, Bool.not_false, mk_t, bodyC_n, bodyC_n1, bodyD_n]
  refine lc_filter (α := Nat) (enc := nT) (f := fun s => encB (.beg s)) (p := fun s => !bSee u.bs (sAt sn s)) trivial (fun s hs G g => ?_) (sz (by omega)) ?_
  · simp only [wSs_cons, wSs_nil, wS_set, wS_unp, wS_setix, wS_aug, wS_expr, wS_ret, wS_retN, wS_ife, wS_for, wS_while, wS_pass, wS_brk, wS_cont, wE_v, wE_non, wE_bl, wE_int, wE_str, wE_neg, wE_op, wE_cmp, wE_chain, wE_and, wE_or, wE_not, wE_ite, wE_ix, wE_sl, wE_tup, wE_lst, wE_dnew, wE_call, wE_bi, wE_isi, wE_me, wE_lc0, wE_dc, wE_sset, wE_frz, wEs_nil, wEs_cons, wI_over, wI_rng1, wI_rng2, List.map_cons, List.map_nil, List.length_cons, List.length_nil, List.cons_append, List.nil_append, lk_0, lk_s, st_0, st_s, ix_0, ix_1, ix_2, Op2.o, Cm.o, BI.o, ME.o, ME.rv, is_o, eq_int, cmp_int, overT, nop_cmp, nop_chain, nop_and, nop_or, nop_not, nop_call, nop_bi, nop_ite, nop_ix, nop_v, nop_int, nop_op, nop_neg, nop_nop, wE_lc_cmp, wE_lc_chain, wE_lc_and, wE_lc_or, wE_lc_not, wE_lc_call, wE_lc_bi, wE_lc_ite, wE_lc_ix, wE_lc_v, List.replicate_succ, List.replicate_zero, Nat.reduceAdd, Nat.reduceSub, oT_s, oT_n, eq_io, eq_oi, is_i, is_n, Bool.xor_true, Bool.xor_false, Bool.false_xor, Bool.true_xor, Bool.not_true, Bool.not_false, mk_t, bodyC_n, bodyC_n1, bodyD_n, h5]
    refine ⟨u, sn, s, _, rfl, sAt_some (c.s3 hs), ?_⟩
    cases e : bSee u.bs (sAt sn s) with
    | true => simpa [e] using g
    | false =>
      simp only [Bool.not_false]
      exact ⟨sz (by decide), by simpa [e, encB] using g⟩
  · refine lc_filter (α := Nat) (enc := nT) (f := fun s => encB (.uns s)) (p := fun x : Nat => decide ((seenBy lo.bs sn (some (x : Int))).length = 0)) trivial (fun x hx G g => ?_) (sz (by omega)) ?_
    · simp only [wSs_cons, wSs_nil, wS_set, wS_unp, wS_setix, wS_aug, wS_expr, wS_ret, wS_retN, wS_ife, wS_for, wS_while, wS_pass, wS_brk, wS_cont, wE_v, wE_non, wE_bl, wE_int, wE_str, wE_neg, wE_op, wE_cmp, wE_chain, wE_and, wE_or, wE_not, wE_ite, wE_ix, wE_sl, wE_tup, wE_lst, wE_dnew, wE_call, wE_bi, wE_isi, wE_me, wE_lc0, wE_dc, wE_sset, wE_frz, wEs_nil, wEs_cons, wI_over, wI_rng1, wI_rng2, List.map_cons, List.map_nil, List.length_cons, List.length_nil, List.cons_append, List.nil_append, lk_0, lk_s, st_0, st_s, ix_0, ix_1, ix_2, Op2.o, Cm.o, BI.o, ME.o, ME.rv, is_o, eq_int, cmp_int, overT, nop_cmp, nop_chain, nop_and, nop_or, nop_not, nop_call, nop_bi, nop_ite, nop_ix, nop_v, nop_int, nop_op, nop_neg, nop_nop, wE_lc_cmp, wE_lc_chain, wE_lc_and, wE_lc_or, wE_lc_not, wE_lc_call, wE_lc_bi, wE_lc_ite, wE_lc_ix, wE_lc_v, List.replicate_succ, List.replicate_zero, Nat.reduceAdd, Nat.reduceSub, oT_s, oT_n, eq_io, eq_oi, is_i, is_n, Bool.xor_true, Bool.xor_false, Bool.false_xor, Bool.true_xor, Bool.not_true, Bool.not_false, mk_t, bodyC_n, bodyC_n1, bodyD_n, h8]
      refine ⟨lo.bs, sn, some (x : Int), rfl, fun s hs => c.s3 hs, by omega, ?_⟩
      simp only [len_lmap, wSs_cons, wSs_nil, wS_set, wS_unp, wS_setix, wS_aug, wS_expr, wS_ret, wS_retN, wS_ife, wS_for, wS_while, wS_pass, wS_brk, wS_cont, wE_v, wE_non, wE_bl, wE_int, wE_str, wE_neg, wE_op, wE_cmp, wE_chain, wE_and, wE_or, wE_not, wE_ite, wE_ix, wE_sl, wE_tup, wE_lst, wE_dnew, wE_call, wE_bi, wE_isi, wE_me, wE_lc0, wE_dc, wE_sset, wE_frz, wEs_nil, wEs_cons, wI_over, wI_rng1, wI_rng2, List.map_cons, List.map_nil, List.length_cons, List.length_nil, List.cons_append, List.nil_append, lk_0, lk_s, st_0, st_s, ix_0, ix_1, ix_2, Op2.o, Cm.o, BI.o, ME.o, ME.rv, is_o, eq_int, cmp_int, overT, nop_cmp, nop_chain, nop_and, nop_or, nop_not, nop_call, nop_bi, nop_ite, nop_ix, nop_v, nop_int, nop_op, nop_neg, nop_nop, wE_lc_cmp, wE_lc_chain, wE_lc_and, wE_lc_or, wE_lc_not, wE_lc_call, wE_lc_bi, wE_lc_ite, wE_lc_ix, wE_lc_v, List.replicate_succ, List.replicate_zero, Nat.reduceAdd, Nat.reduceSub, oT_s, oT_n, eq_io, eq_oi, is_i, is_n, Bool.xor_true, Bool.xor_false, Bool.false_xor, Bool.true_xor, Bool.not_true, Bool.not_false, mk_t, bodyC_n, bodyC_n1, bodyD_n, len00]
      by_cases e : (seenBy lo.bs sn (some (x : Int))).length = 0
      · simp only [e, decide_true, if_true] at g ⊢
        exact ⟨sz (by decide), g⟩
      · simp only [e, decide_false, if_false, Bool.false_eq_true] at g ⊢
        exact g
    · simp only [wSs_cons, wSs_nil, wS_set, wS_unp, wS_setix, wS_aug, wS_expr, wS_ret, wS_retN, wS_ife, wS_for, wS_while, wS_pass, wS_brk, wS_cont, wE_v, wE_non, wE_bl, wE_int, wE_str, wE_neg, wE_op, wE_cmp, wE_chain, wE_and, wE_or, wE_not, wE_ite, wE_ix, wE_sl, wE_tup, wE_lst, wE_dnew, wE_call, wE_bi, wE_isi, wE_me, wE_lc0, wE_dc, wE_sset, wE_frz, wEs_nil, wEs_cons, wI_over, wI_rng1, wI_rng2, List.map_cons, List.map_nil, List.length_cons, List.length_nil, List.cons_append, List.nil_append, lk_0, lk_s, st_0, st_s, ix_0, ix_1, ix_2, Op2.o, Cm.o, BI.o, ME.o, ME.rv, is_o, eq_int, cmp_int, overT, nop_cmp, nop_chain, nop_and, nop_or, nop_not, nop_call, nop_bi, nop_ite, nop_ix, nop_v, nop_int, nop_op, nop_neg, nop_nop, wE_lc_cmp, wE_lc_chain, wE_lc_and, wE_lc_or, wE_lc_not, wE_lc_call, wE_lc_bi, wE_lc_ite, wE_lc_ix, wE_lc_v, List.replicate_succ, List.replicate_zero, Nat.reduceAdd, Nat.reduceSub, oT_s, oT_n, eq_io, eq_oi, is_i, is_n, Bool.xor_true, Bool.xor_false, Bool.false_xor, Bool.true_xor, Bool.not_true, Bool.not_false, mk_t, bodyC_n, bodyC_n1, bodyD_n, add_ll]
      refine ⟨sz ?_, rtn ?_⟩
      · simp only [List.length_map]
        have a1 : (lo.bs.filter fun s => !bSee u.bs (sAt sn s)).length ≤ lo.bs.length := List.length_filter_le ..
        have a2 : (u.bs.filter fun x : Nat => decide ((seenBy lo.bs sn (some (x : Int))).length = 0)).length ≤ u.bs.length := List.length_filter_le ..
        omega
      · have e : (begB lo u sn).map encB = (lo.bs.filter fun s => !bSee u.bs (sAt sn s)).map (fun s => encB (.beg s)) ++ (u.bs.filter fun x : Nat => decide ((seenBy lo.bs sn (some (x : Int))).length = 0)).map (fun s => encB (.uns s)) := by
          simp only [begB, List.map_append, List.map_map]
          rfl
        rw [← e]
        exact q
theorem wayB_snoc {lo u : Wd} {sn rk : List (Option Int)} {S : List Nat} {s : Nat} : wayB lo u sn rk (S ++ [s]) = wayB lo u sn rk S ++ ((nx lo s).filter fun t => !wayOkB u sn rk s t).map (.way s) := by
  simp [wayB]
theorem nxtB_snoc {lo u : Wd} {sn : List (Option Int)} {S S0 : List Nat} {s : Nat} : (S0 ++ [s]).flatMap (fun s => ((nx u (seenN sn s)).filter fun x : Nat => !comesB lo sn S s (x : Int)).map (Brc.nxt s)) = S0.flatMap (fun s => ((nx u (seenN sn s)).filter fun x : Nat => !comesB lo sn S s (x : Int)).map (Brc.nxt s)) ++ ((nx u (seenN sn s)).filter fun x : Nat => !comesB lo sn S s (x : Int)).map (Brc.nxt s) := by
  simp
def sp_wrong_ways : TSp := fun ts H Q => ∃ (lo u : Wd) (sn rk : List (Option Int)), ts = [encW lo, encW u, nTs (stt lo), oTs sn, oTs rk] ∧ Ctx lo u sn rk ∧ Seen lo u sn rk ∧ Q (.lst ((wayB lo u sn rk (stt lo)).map encB)) H
theorem rk_some {rk : List (Option Int)} {s : Nat} {p : Int} (h : s < rk.length) (e : sAt rk s = some p) : rk[s]? = some (some (rkI rk s)) := by
  have := sAt_some h
  rw [e] at this
  rw [this]
  unfold rkI
  rw [e]
  rfl
theorem w_wrong_ways {C : Nat → TSp} (h7 : C 7 = sp_is_way_seen) (ts : List T) (H : TH) (Q : TL.KT) (h : sp_wrong_ways ts H Q) : wSs C b_wrong_ways (bodyEnds Q) (start0 n_wrong_ways ts) H := by
  obtain ⟨lo, u, sn, rk, rfl, c, sd, q⟩ := h
  simp only [b_wrong_ways, start0, n_wrong_ways, wSs_cons, wSs_nil, wS_set, wS_unp, wS_setix, wS_aug, wS_expr, wS_ret, wS_retN, wS_ife, wS_for, wS_while, wS_pass, wS_brk, wS_cont, wE_v, wE_non, wE_bl, wE_int, wE_str, wE_neg, wE_op, wE_cmp, wE_chain, wE_and, wE_or, wE_not, wE_ite, wE_ix, wE_sl, wE_tup, wE_lst, wE_dnew, wE_call, wE_bi, wE_isi, wE_me, wE_lc0, wE_dc, wE_sset, wE_frz, wEs_nil, wEs_cons, wI_over, wI_rng1, wI_rng2, List.map_cons, List.map_nil, List.length_cons, List.length_nil, List.cons_append, List.nil_append, lk_0, lk_s, st_0, st_s, ix_0, ix_1, ix_2, Op2.o, Cm.o, BI.o, ME.o, ME.rv, is_o, eq_int, cmp_int, overT, nop_cmp, nop_chain, nop_and, nop_or, nop_not, nop_call, nop_bi, nop_ite, nop_ix, nop_v, nop_int, nop_op, nop_neg, nop_nop, wE_lc_cmp, wE_lc_chain, wE_lc_and, wE_lc_or, wE_lc_not, wE_lc_call, wE_lc_bi, wE_lc_ite, wE_lc_ix, wE_lc_v, List.replicate_succ, List.replicate_zero, Nat.reduceAdd, Nat.reduceSub, oT_s, oT_n, eq_io, eq_oi, is_i, is_n, Bool.xor_true, Bool.xor_false, Bool.false_xor, Bool.true_xor, Bool.not_true, Bool.not_false, mk_t, bodyC_n, bodyC_n1, bodyD_n, mk_f]
  refine ⟨sz (by decide), fun p hp => ?_⟩
  have hS : (stt lo).length ≤ 60 := Nat.le_trans (stt_len lo) c.okl.small
  have loop : ∀ (r S0 : List Nat) (x y : Option T), S0 ++ r = stt lo → (wayB lo u sn rk S0).length ≤ 60 * S0.length →
      forGo (fun _ => True) (loopB C (.n 6) b_wrong_ways_L1) (r.map nT) { nx := wSs C (.cons (.ret (.frz (.v 5))) .nil) (bodyEnds Q), rt := (bodyEnds Q).rt, bk := (bodyEnds Q).bk, ct := (bodyEnds Q).ct }
        [some (encW lo), some (encW u), some (nTs (stt lo)), some (oTs sn), some (oTs rk), some (.ref p), x, y] (up H p (.lst ((wayB lo u sn rk S0).map encB))) := by
    intro r
    induction r with
    | nil =>
      intro S0 x y e _
      rw [List.append_nil] at e
      subst e
      simp only [List.map_nil, forGo_nil, wSs_cons, wSs_nil, wS_set, wS_unp, wS_setix, wS_aug, wS_expr, wS_ret, wS_retN, wS_ife, wS_for, wS_while, wS_pass, wS_brk, wS_cont, wE_v, wE_non, wE_bl, wE_int, wE_str, wE_neg, wE_op, wE_cmp, wE_chain, wE_and, wE_or, wE_not, wE_ite, wE_ix, wE_sl, wE_tup, wE_lst, wE_dnew, wE_call, wE_bi, wE_isi, wE_me, wE_lc0, wE_dc, wE_sset, wE_frz, wEs_nil, wEs_cons, wI_over, wI_rng1, wI_rng2, List.map_cons, List.map_nil, List.length_cons, List.length_nil, List.cons_append, List.nil_append, lk_0, lk_s, st_0, st_s, ix_0, ix_1, ix_2, Op2.o, Cm.o, BI.o, ME.o, ME.rv, is_o, eq_int, cmp_int, overT, nop_cmp, nop_chain, nop_and, nop_or, nop_not, nop_call, nop_bi, nop_ite, nop_ix, nop_v, nop_int, nop_op, nop_neg, nop_nop, wE_lc_cmp, wE_lc_chain, wE_lc_and, wE_lc_or, wE_lc_not, wE_lc_call, wE_lc_bi, wE_lc_ite, wE_lc_ix, wE_lc_v, List.replicate_succ, List.replicate_zero, Nat.reduceAdd, Nat.reduceSub, oT_s, oT_n, eq_io, eq_oi, is_i, is_n, Bool.xor_true, Bool.xor_false, Bool.false_xor, Bool.true_xor, Bool.not_true, Bool.not_false, mk_t, bodyC_n, bodyC_n1, bodyD_n, true_and, frz_l up_same, del_up hp]
      exact rtn q
    | cons s r ih =>
      intro S0 x y e hk
      have hs : s ∈ stt lo := by
        rw [← e]
        simp
      obtain ⟨⟨a, ha, hau⟩, p0, hp0⟩ := sd s hs
      have hnx := nx_len c.okl s
      have hlen : S0.length ≤ 60 := by
        have := congrArg List.length e
        rw [List.length_append] at this
        omega
      simp only [List.map_cons, forGo_cons, loopB_n, b_wrong_ways_L1, wSs_cons, wSs_nil, wS_set, wS_unp, wS_setix, wS_aug, wS_expr, wS_ret, wS_retN, wS_ife, wS_for, wS_while, wS_pass, wS_brk, wS_cont, wE_v, wE_non, wE_bl, wE_int, wE_str, wE_neg, wE_op, wE_cmp, wE_chain, wE_and, wE_or, wE_not, wE_ite, wE_ix, wE_sl, wE_tup, wE_lst, wE_dnew, wE_call, wE_bi, wE_isi, wE_me, wE_lc0, wE_dc, wE_sset, wE_frz, wEs_nil, wEs_cons, wI_over, wI_rng1, wI_rng2, List.map_cons, List.map_nil, List.length_cons, List.length_nil, List.cons_append, List.nil_append, lk_0, lk_s, st_0, st_s, ix_0, ix_1, ix_2, Op2.o, Cm.o, BI.o, ME.o, ME.rv, is_o, eq_int, cmp_int, overT, nop_cmp, nop_chain, nop_and, nop_or, nop_not, nop_call, nop_bi, nop_ite, nop_ix, nop_v, nop_int, nop_op, nop_neg, nop_nop, wE_lc_cmp, wE_lc_chain, wE_lc_and, wE_lc_or, wE_lc_not, wE_lc_call, wE_lc_bi, wE_lc_ite, wE_lc_ix, wE_lc_v, List.replicate_succ, List.replicate_zero, Nat.reduceAdd, Nat.reduceSub, oT_s, oT_n, eq_io, eq_oi, is_i, is_n, Bool.xor_true, Bool.xor_false, Bool.false_xor, Bool.true_xor, Bool.not_true, Bool.not_false, mk_t, bodyC_n, bodyC_n1, bodyD_n, true_and, ix_at (nx_some (stt_lt hs))]
      refine lc_filter (α := Nat) (enc := nT) (f := fun t => encB (.way s t)) (p := fun t => !wayOkB u sn rk s t) trivial (fun t ht G g => ?_) (sz (by omega)) ?_
      · have ht' := stt_step c.okl hs ht
        obtain ⟨_, p1, hp1⟩ := sd t ht'
        simp only [wSs_cons, wSs_nil, wS_set, wS_unp, wS_setix, wS_aug, wS_expr, wS_ret, wS_retN, wS_ife, wS_for, wS_while, wS_pass, wS_brk, wS_cont, wE_v, wE_non, wE_bl, wE_int, wE_str, wE_neg, wE_op, wE_cmp, wE_chain, wE_and, wE_or, wE_not, wE_ite, wE_ix, wE_sl, wE_tup, wE_lst, wE_dnew, wE_call, wE_bi, wE_isi, wE_me, wE_lc0, wE_dc, wE_sset, wE_frz, wEs_nil, wEs_cons, wI_over, wI_rng1, wI_rng2, List.map_cons, List.map_nil, List.length_cons, List.length_nil, List.cons_append, List.nil_append, lk_0, lk_s, st_0, st_s, ix_0, ix_1, ix_2, Op2.o, Cm.o, BI.o, ME.o, ME.rv, is_o, eq_int, cmp_int, overT, nop_cmp, nop_chain, nop_and, nop_or, nop_not, nop_call, nop_bi, nop_ite, nop_ix, nop_v, nop_int, nop_op, nop_neg, nop_nop, wE_lc_cmp, wE_lc_chain, wE_lc_and, wE_lc_or, wE_lc_not, wE_lc_call, wE_lc_bi, wE_lc_ite, wE_lc_ix, wE_lc_v, List.replicate_succ, List.replicate_zero, Nat.reduceAdd, Nat.reduceSub, oT_s, oT_n, eq_io, eq_oi, is_i, is_n, Bool.xor_true, Bool.xor_false, Bool.false_xor, Bool.true_xor, Bool.not_true, Bool.not_false, mk_t, bodyC_n, bodyC_n1, bodyD_n, h7]
        refine ⟨u, sn, rk, s, t, a, nx u a, _, _, rfl, c.s1 hs, c.s1 ht', ha, nx_some hau, rk_some (c.s2 hs) hp0, rk_some (c.s2 ht') hp1, ?_⟩
        have e : waySeen a (nx u a) (sAt sn t) (rkI rk s) (rkI rk t) = wayOkB u sn rk s t := by
          unfold wayOkB
          rw [seenN_eq ha]
        rw [e]
        cases z : wayOkB u sn rk s t with
        | true => simpa [z] using g
        | false =>
          simp only [Bool.not_false]
          exact ⟨sz (by decide), by simpa [z, encB] using g⟩
      · have hf : ((nx lo s).filter fun t => !wayOkB u sn rk s t).length ≤ (nx lo s).length := List.length_filter_le ..
        simp only [mk_t, wSs_cons, wSs_nil, wS_set, wS_unp, wS_setix, wS_aug, wS_expr, wS_ret, wS_retN, wS_ife, wS_for, wS_while, wS_pass, wS_brk, wS_cont, wE_v, wE_non, wE_bl, wE_int, wE_str, wE_neg, wE_op, wE_cmp, wE_chain, wE_and, wE_or, wE_not, wE_ite, wE_ix, wE_sl, wE_tup, wE_lst, wE_dnew, wE_call, wE_bi, wE_isi, wE_me, wE_lc0, wE_dc, wE_sset, wE_frz, wEs_nil, wEs_cons, wI_over, wI_rng1, wI_rng2, List.map_cons, List.map_nil, List.length_cons, List.length_nil, List.cons_append, List.nil_append, lk_0, lk_s, st_0, st_s, ix_0, ix_1, ix_2, Op2.o, Cm.o, BI.o, ME.o, ME.rv, is_o, eq_int, cmp_int, overT, nop_cmp, nop_chain, nop_and, nop_or, nop_not, nop_call, nop_bi, nop_ite, nop_ix, nop_v, nop_int, nop_op, nop_neg, nop_nop, wE_lc_cmp, wE_lc_chain, wE_lc_and, wE_lc_or, wE_lc_not, wE_lc_call, wE_lc_bi, wE_lc_ite, wE_lc_ix, wE_lc_v, List.replicate_succ, List.replicate_zero, Nat.reduceAdd, Nat.reduceSub, oT_s, oT_n, eq_io, eq_oi, is_i, is_n, Bool.xor_true, Bool.xor_false, Bool.false_xor, Bool.true_xor, Bool.not_true, Bool.not_false, mk_t, bodyC_n, bodyC_n1, bodyD_n, aug_l up_same, up_up, List.length_map]
        refine ⟨sz (by omega), ?_⟩
        have e2 : (wayB lo u sn rk S0).map encB ++ ((nx lo s).filter fun t => !wayOkB u sn rk s t).map (fun t => encB (.way s t)) = (wayB lo u sn rk (S0 ++ [s])).map encB := by
          rw [wayB_snoc, List.map_append, List.map_map]
          rfl
        rw [e2]
        refine ih (S0 ++ [s]) _ _ (by rw [← e]; simp) ?_
        rw [wayB_snoc, List.length_append, List.length_append, List.length_map, List.length_singleton]
        omega
  exact loop (stt lo) [] none none rfl (Nat.zero_le _)
def sp_wrong_next : TSp := fun ts H Q => ∃ (lo u : Wd) (sn rk : List (Option Int)), ts = [encW lo, encW u, nTs (stt lo), oTs sn] ∧ Ctx lo u sn rk ∧ Seen lo u sn rk ∧ Q (.lst ((nxtB lo u sn (stt lo)).map encB)) H
theorem w_wrong_next {C : Nat → TSp} (h9 : C 9 = sp_states_by_seen) (h10 : C 10 = sp_does_next_come) (ts : List T) (H : TH) (Q : TL.KT) (h : sp_wrong_next ts H Q) : wSs C b_wrong_next (bodyEnds Q) (start0 n_wrong_next ts) H := by
  obtain ⟨lo, u, sn, rk, rfl, c, sd, q⟩ := h
  have hS : (stt lo).length ≤ 60 := Nat.le_trans (stt_len lo) c.okl.small
  simp only [b_wrong_next, start0, n_wrong_next, wSs_cons, wSs_nil, wS_set, wS_unp, wS_setix, wS_aug, wS_expr, wS_ret, wS_retN, wS_ife, wS_for, wS_while, wS_pass, wS_brk, wS_cont, wE_v, wE_non, wE_bl, wE_int, wE_str, wE_neg, wE_op, wE_cmp, wE_chain, wE_and, wE_or, wE_not, wE_ite, wE_ix, wE_sl, wE_tup, wE_lst, wE_dnew, wE_call, wE_bi, wE_isi, wE_me, wE_lc0, wE_dc, wE_sset, wE_frz, wEs_nil, wEs_cons, wI_over, wI_rng1, wI_rng2, List.map_cons, List.map_nil, List.length_cons, List.length_nil, List.cons_append, List.nil_append, lk_0, lk_s, st_0, st_s, ix_0, ix_1, ix_2, Op2.o, Cm.o, BI.o, ME.o, ME.rv, is_o, eq_int, cmp_int, overT, nop_cmp, nop_chain, nop_and, nop_or, nop_not, nop_call, nop_bi, nop_ite, nop_ix, nop_v, nop_int, nop_op, nop_neg, nop_nop, wE_lc_cmp, wE_lc_chain, wE_lc_and, wE_lc_or, wE_lc_not, wE_lc_call, wE_lc_bi, wE_lc_ite, wE_lc_ix, wE_lc_v, List.replicate_succ, List.replicate_zero, Nat.reduceAdd, Nat.reduceSub, oT_s, oT_n, eq_io, eq_oi, is_i, is_n, Bool.xor_true, Bool.xor_false, Bool.false_xor, Bool.true_xor, Bool.not_true, Bool.not_false, mk_t, bodyC_n, bodyC_n1, bodyD_n, mk_f, h9]
  refine ⟨stt lo, sn, rfl, fun s hs => ⟨c.s1 hs, ?_⟩, by omega, fun g kvs hg G => ⟨sz (by decide), fun p hp => ?_⟩⟩
  · obtain ⟨⟨a, ha, _⟩, _⟩ := sd s hs
    exact ⟨_, ha⟩
  have loop : ∀ (r S0 : List Nat) (x y : Option T) (L : List Brc) (Hx : TH), S0 ++ r = stt lo → L = S0.flatMap (fun s => ((nx u (seenN sn s)).filter fun x : Nat => !comesB lo sn (stt lo) s (x : Int)).map (Brc.nxt s)) → L.length ≤ 60 * S0.length → Two H g p (.dk kvs) (.lst (L.map encB)) Hx →
      forGo (fun _ => True) (loopB C (.n 6) b_wrong_next_L1) (r.map nT) { nx := wSs C (.cons (.ret (.frz (.v 5))) .nil) (bodyEnds Q), rt := (bodyEnds Q).rt, bk := (bodyEnds Q).bk, ct := (bodyEnds Q).ct }
        [some (encW lo), some (encW u), some (nTs (stt lo)), some (oTs sn), some (.ref g), some (.ref p), x, y] Hx := by
    intro r
    induction r with
    | nil =>
      intro S0 x y L Hx e eL _ h2
      rw [List.append_nil] at e
      subst e
      simp only [List.map_nil, forGo_nil, wSs_cons, wSs_nil, wS_set, wS_unp, wS_setix, wS_aug, wS_expr, wS_ret, wS_retN, wS_ife, wS_for, wS_while, wS_pass, wS_brk, wS_cont, wE_v, wE_non, wE_bl, wE_int, wE_str, wE_neg, wE_op, wE_cmp, wE_chain, wE_and, wE_or, wE_not, wE_ite, wE_ix, wE_sl, wE_tup, wE_lst, wE_dnew, wE_call, wE_bi, wE_isi, wE_me, wE_lc0, wE_dc, wE_sset, wE_frz, wEs_nil, wEs_cons, wI_over, wI_rng1, wI_rng2, List.map_cons, List.map_nil, List.length_cons, List.length_nil, List.cons_append, List.nil_append, lk_0, lk_s, st_0, st_s, ix_0, ix_1, ix_2, Op2.o, Cm.o, BI.o, ME.o, ME.rv, is_o, eq_int, cmp_int, overT, nop_cmp, nop_chain, nop_and, nop_or, nop_not, nop_call, nop_bi, nop_ite, nop_ix, nop_v, nop_int, nop_op, nop_neg, nop_nop, wE_lc_cmp, wE_lc_chain, wE_lc_and, wE_lc_or, wE_lc_not, wE_lc_call, wE_lc_bi, wE_lc_ite, wE_lc_ix, wE_lc_v, List.replicate_succ, List.replicate_zero, Nat.reduceAdd, Nat.reduceSub, oT_s, oT_n, eq_io, eq_oi, is_i, is_n, Bool.xor_true, Bool.xor_false, Bool.false_xor, Bool.true_xor, Bool.not_true, Bool.not_false, mk_t, bodyC_n, bodyC_n1, bodyD_n, true_and, frz_l h2.q]
      rw [eL]
      refine rts (H := H) (fun a o e => ?_) q
      have : a ≠ p := fun z => by
        subst z
        rw [h2.nq] at e
        cases e
      show (if a = p then none else Hx a) = some o
      rw [if_neg this]
      exact h2.sub a o e
    | cons s r ih =>
      intro S0 x y L Hx e eL hk h2
      have hs : s ∈ stt lo := by
        rw [← e]
        simp
      obtain ⟨⟨a, ha, hau⟩, p0, hp0⟩ := sd s hs
      have hnx := nx_len c.oku a
      have hlen : S0.length ≤ 60 := by
        have := congrArg List.length e
        rw [List.length_append] at this
        omega
      have e1 := sAt_some (c.s1 hs)
      rw [ha] at e1
      have e3 : oIx (.tup (u.ws.map nTs)) (oT (some (a : Int))) Hx = fun Q => Q (nTs (nx u a)) Hx := by
        funext Q
        exact ix_at (nx_some hau)
      simp only [List.map_cons, forGo_cons, loopB_n, b_wrong_next_L1, wSs_cons, wSs_nil, wS_set, wS_unp, wS_setix, wS_aug, wS_expr, wS_ret, wS_retN, wS_ife, wS_for, wS_while, wS_pass, wS_brk, wS_cont, wE_v, wE_non, wE_bl, wE_int, wE_str, wE_neg, wE_op, wE_cmp, wE_chain, wE_and, wE_or, wE_not, wE_ite, wE_ix, wE_sl, wE_tup, wE_lst, wE_dnew, wE_call, wE_bi, wE_isi, wE_me, wE_lc0, wE_dc, wE_sset, wE_frz, wEs_nil, wEs_cons, wI_over, wI_rng1, wI_rng2, List.map_cons, List.map_nil, List.length_cons, List.length_nil, List.cons_append, List.nil_append, lk_0, lk_s, st_0, st_s, ix_0, ix_1, ix_2, Op2.o, Cm.o, BI.o, ME.o, ME.rv, is_o, eq_int, cmp_int, overT, nop_cmp, nop_chain, nop_and, nop_or, nop_not, nop_call, nop_bi, nop_ite, nop_ix, nop_v, nop_int, nop_op, nop_neg, nop_nop, wE_lc_cmp, wE_lc_chain, wE_lc_and, wE_lc_or, wE_lc_not, wE_lc_call, wE_lc_bi, wE_lc_ite, wE_lc_ix, wE_lc_v, List.replicate_succ, List.replicate_zero, Nat.reduceAdd, Nat.reduceSub, oT_s, oT_n, eq_io, eq_oi, is_i, is_n, Bool.xor_true, Bool.xor_false, Bool.false_xor, Bool.true_xor, Bool.not_true, Bool.not_false, mk_t, bodyC_n, bodyC_n1, bodyD_n, true_and, ix_at e1, ix_at (nx_some hau)]
      refine lc_filter (α := Nat) (enc := nT) (f := fun t => encB (.nxt s t)) (p := fun x : Nat => !comesB lo sn (stt lo) s (x : Int)) trivial (fun t ht G' g' => ?_) (sz (by omega)) ?_
      · simp only [wSs_cons, wSs_nil, wS_set, wS_unp, wS_setix, wS_aug, wS_expr, wS_ret, wS_retN, wS_ife, wS_for, wS_while, wS_pass, wS_brk, wS_cont, wE_v, wE_non, wE_bl, wE_int, wE_str, wE_neg, wE_op, wE_cmp, wE_chain, wE_and, wE_or, wE_not, wE_ite, wE_ix, wE_sl, wE_tup, wE_lst, wE_dnew, wE_call, wE_bi, wE_isi, wE_me, wE_lc0, wE_dc, wE_sset, wE_frz, wEs_nil, wEs_cons, wI_over, wI_rng1, wI_rng2, List.map_cons, List.map_nil, List.length_cons, List.length_nil, List.cons_append, List.nil_append, lk_0, lk_s, st_0, st_s, ix_0, ix_1, ix_2, Op2.o, Cm.o, BI.o, ME.o, ME.rv, is_o, eq_int, cmp_int, overT, nop_cmp, nop_chain, nop_and, nop_or, nop_not, nop_call, nop_bi, nop_ite, nop_ix, nop_v, nop_int, nop_op, nop_neg, nop_nop, wE_lc_cmp, wE_lc_chain, wE_lc_and, wE_lc_or, wE_lc_not, wE_lc_call, wE_lc_bi, wE_lc_ite, wE_lc_ix, wE_lc_v, List.replicate_succ, List.replicate_zero, Nat.reduceAdd, Nat.reduceSub, oT_s, oT_n, eq_io, eq_oi, is_i, is_n, Bool.xor_true, Bool.xor_false, Bool.false_xor, Bool.true_xor, Bool.not_true, Bool.not_false, mk_t, bodyC_n, bodyC_n1, bodyD_n, h10]
        refine ⟨lo, sn, s, t, a, kvs, g, rfl, h2.p, G, c.okl, hs, c.s1 hs, ha, ?_⟩
        cases z : comesB lo sn (stt lo) s (t : Int) with
        | true => simpa [z] using g'
        | false =>
          simp only [Bool.not_false]
          exact ⟨sz (by decide), by simpa [z, encB] using g'⟩
      · have hf : ((nx u a).filter fun x : Nat => !comesB lo sn (stt lo) s (x : Int)).length ≤ (nx u a).length := List.length_filter_le ..
        simp only [mk_t, wSs_cons, wSs_nil, wS_set, wS_unp, wS_setix, wS_aug, wS_expr, wS_ret, wS_retN, wS_ife, wS_for, wS_while, wS_pass, wS_brk, wS_cont, wE_v, wE_non, wE_bl, wE_int, wE_str, wE_neg, wE_op, wE_cmp, wE_chain, wE_and, wE_or, wE_not, wE_ite, wE_ix, wE_sl, wE_tup, wE_lst, wE_dnew, wE_call, wE_bi, wE_isi, wE_me, wE_lc0, wE_dc, wE_sset, wE_frz, wEs_nil, wEs_cons, wI_over, wI_rng1, wI_rng2, List.map_cons, List.map_nil, List.length_cons, List.length_nil, List.cons_append, List.nil_append, lk_0, lk_s, st_0, st_s, ix_0, ix_1, ix_2, Op2.o, Cm.o, BI.o, ME.o, ME.rv, is_o, eq_int, cmp_int, overT, nop_cmp, nop_chain, nop_and, nop_or, nop_not, nop_call, nop_bi, nop_ite, nop_ix, nop_v, nop_int, nop_op, nop_neg, nop_nop, wE_lc_cmp, wE_lc_chain, wE_lc_and, wE_lc_or, wE_lc_not, wE_lc_call, wE_lc_bi, wE_lc_ite, wE_lc_ix, wE_lc_v, List.replicate_succ, List.replicate_zero, Nat.reduceAdd, Nat.reduceSub, oT_s, oT_n, eq_io, eq_oi, is_i, is_n, Bool.xor_true, Bool.xor_false, Bool.false_xor, Bool.true_xor, Bool.not_true, Bool.not_false, mk_t, bodyC_n, bodyC_n1, bodyD_n, aug_l h2.q, List.length_map]
        refine ⟨sz (by omega), ?_⟩
        refine ih (S0 ++ [s]) _ _ (L ++ ((nx u a).filter fun x : Nat => !comesB lo sn (stt lo) s (x : Int)).map (Brc.nxt s)) _ (by rw [← e]; simp) ?_ ?_ ?_
        · rw [nxtB_snoc, ← eL, seenN_eq ha]
        · rw [List.length_append, List.length_append, List.length_map, List.length_singleton]
          omega
        · rw [List.map_append, List.map_map]
          exact h2.setq
  exact loop (stt lo) [] none none [] _ rfl rfl (Nat.zero_le _) (Two.mk0 hg hp)
end K80
set_option maxRecDepth 100000
set_option maxHeartbeats 1000000
namespace K80
open PySem PySem.Spec L2 TL
theorem ls_some {w : Wd} (ok : w.Ok) {s : Nat} (h : s < w.ws.length) : w.ls[s]? = some (w.ls.getD s []) := by
  rw [List.getD_eq_getElem?_getD, List.getElem?_eq_getElem (by rw [ok.lw]; exact h)]
  rfl
theorem stt60 {w : Wd} (ok : w.Ok) : (stt w).length ≤ 60 := Nat.le_trans (stt_len w) ok.small
theorem map_nil_iff {l : List Brc} : decide (((l.map encB).length : Int) = 0) = decide (l = []) := by rw [List.length_map, len0]
def sp_breaches_within : TSp := fun ts H Q => ∃ (lo u : Wd) (sn rk : List (Option Int)), ts = [encW lo, encW u, oTs sn, oTs rk] ∧ Ctx lo u sn rk ∧ Q (.lst ((within lo u sn rk).map encB)) H
theorem w_breaches_within {C : Nat → TSp} (h0 : C 0 = sp_states_come_to) (h6 : C 6 = sp_are_lights_seen) (h11 : C 11 = sp_wrong_begins) (h12 : C 12 = sp_wrong_ways) (ts : List T) (H : TH) (Q : TL.KT) (h : sp_breaches_within ts H Q) : wSs C b_breaches_within (bodyEnds Q) (start0 n_breaches_within ts) H := by
  obtain ⟨lo, u, sn, rk, rfl, c, q⟩ := h
  have hS := stt60 c.okl
  simp only [b_breaches_within, start0, n_breaches_within, wSs_cons, wSs_nil, wS_set, wS_unp, wS_setix, wS_aug, wS_expr, wS_ret, wS_retN, wS_ife, wS_for, wS_while, wS_pass, wS_brk, wS_cont, wE_v, wE_non, wE_bl, wE_int, wE_str, wE_neg, wE_op, wE_cmp, wE_chain, wE_and, wE_or, wE_not, wE_ite, wE_ix, wE_sl, wE_tup, wE_lst, wE_dnew, wE_call, wE_bi, wE_isi, wE_me, wE_lc0, wE_dc, wE_sset, wE_frz, wEs_nil, wEs_cons, wI_over, wI_rng1, wI_rng2, List.map_cons, List.map_nil, List.length_cons, List.length_nil, List.cons_append, List.nil_append, lk_0, lk_s, st_0, st_s, ix_0, ix_1, ix_2, Op2.o, Cm.o, BI.o, ME.o, ME.rv, is_o, eq_int, cmp_int, overT, nop_cmp, nop_chain, nop_and, nop_or, nop_not, nop_call, nop_bi, nop_ite, nop_ix, nop_v, nop_int, nop_op, nop_neg, nop_nop, wE_lc_cmp, wE_lc_chain, wE_lc_and, wE_lc_or, wE_lc_not, wE_lc_call, wE_lc_bi, wE_lc_ite, wE_lc_ix, wE_lc_v, List.replicate_succ, List.replicate_zero, Nat.reduceAdd, Nat.reduceSub, oT_s, oT_n, eq_io, eq_oi, is_i, is_n, Bool.xor_true, Bool.xor_false, Bool.false_xor, Bool.true_xor, Bool.not_true, Bool.not_false, mk_t, bodyC_n, bodyC_n1, bodyD_n, h0, h11, h12]
  refine ⟨lo, u, sn, rk, rfl, c, ?_⟩
  simp only [len_lmap, wSs_cons, wSs_nil, wS_set, wS_unp, wS_setix, wS_aug, wS_expr, wS_ret, wS_retN, wS_ife, wS_for, wS_while, wS_pass, wS_brk, wS_cont, wE_v, wE_non, wE_bl, wE_int, wE_str, wE_neg, wE_op, wE_cmp, wE_chain, wE_and, wE_or, wE_not, wE_ite, wE_ix, wE_sl, wE_tup, wE_lst, wE_dnew, wE_call, wE_bi, wE_isi, wE_me, wE_lc0, wE_dc, wE_sset, wE_frz, wEs_nil, wEs_cons, wI_over, wI_rng1, wI_rng2, List.map_cons, List.map_nil, List.length_cons, List.length_nil, List.cons_append, List.nil_append, lk_0, lk_s, st_0, st_s, ix_0, ix_1, ix_2, Op2.o, Cm.o, BI.o, ME.o, ME.rv, is_o, eq_int, cmp_int, overT, nop_cmp, nop_chain, nop_and, nop_or, nop_not, nop_call, nop_bi, nop_ite, nop_ix, nop_v, nop_int, nop_op, nop_neg, nop_nop, wE_lc_cmp, wE_lc_chain, wE_lc_and, wE_lc_or, wE_lc_not, wE_lc_call, wE_lc_bi, wE_lc_ite, wE_lc_ix, wE_lc_v, List.replicate_succ, List.replicate_zero, Nat.reduceAdd, Nat.reduceSub, oT_s, oT_n, eq_io, eq_oi, is_i, is_n, Bool.xor_true, Bool.xor_false, Bool.false_xor, Bool.true_xor, Bool.not_true, Bool.not_false, mk_t, bodyC_n, bodyC_n1, bodyD_n, len0]
  unfold within at q
  by_cases e : begB lo u sn = []
  · rw [if_pos e] at q
    simp only [e, decide_true]
    refine ⟨lo, rfl, c.okl, ?_⟩
    simp only [wSs_cons, wSs_nil, wS_set, wS_unp, wS_setix, wS_aug, wS_expr, wS_ret, wS_retN, wS_ife, wS_for, wS_while, wS_pass, wS_brk, wS_cont, wE_v, wE_non, wE_bl, wE_int, wE_str, wE_neg, wE_op, wE_cmp, wE_chain, wE_and, wE_or, wE_not, wE_ite, wE_ix, wE_sl, wE_tup, wE_lst, wE_dnew, wE_call, wE_bi, wE_isi, wE_me, wE_lc0, wE_dc, wE_sset, wE_frz, wEs_nil, wEs_cons, wI_over, wI_rng1, wI_rng2, List.map_cons, List.map_nil, List.length_cons, List.length_nil, List.cons_append, List.nil_append, lk_0, lk_s, st_0, st_s, ix_0, ix_1, ix_2, Op2.o, Cm.o, BI.o, ME.o, ME.rv, is_o, eq_int, cmp_int, overT, nop_cmp, nop_chain, nop_and, nop_or, nop_not, nop_call, nop_bi, nop_ite, nop_ix, nop_v, nop_int, nop_op, nop_neg, nop_nop, wE_lc_cmp, wE_lc_chain, wE_lc_and, wE_lc_or, wE_lc_not, wE_lc_call, wE_lc_bi, wE_lc_ite, wE_lc_ix, wE_lc_v, List.replicate_succ, List.replicate_zero, Nat.reduceAdd, Nat.reduceSub, oT_s, oT_n, eq_io, eq_oi, is_i, is_n, Bool.xor_true, Bool.xor_false, Bool.false_xor, Bool.true_xor, Bool.not_true, Bool.not_false, mk_t, bodyC_n, bodyC_n1, bodyD_n]
    refine lc_filter (α := Nat) (enc := nT) (f := fun s => encB (.lit s)) (p := fun s => !litOk u (sAt sn s) (sAt rk s) (lo.ls.getD s [])) trivial (fun s hs G g => ?_) (sz (by omega)) ?_
    · simp only [wSs_cons, wSs_nil, wS_set, wS_unp, wS_setix, wS_aug, wS_expr, wS_ret, wS_retN, wS_ife, wS_for, wS_while, wS_pass, wS_brk, wS_cont, wE_v, wE_non, wE_bl, wE_int, wE_str, wE_neg, wE_op, wE_cmp, wE_chain, wE_and, wE_or, wE_not, wE_ite, wE_ix, wE_sl, wE_tup, wE_lst, wE_dnew, wE_call, wE_bi, wE_isi, wE_me, wE_lc0, wE_dc, wE_sset, wE_frz, wEs_nil, wEs_cons, wI_over, wI_rng1, wI_rng2, List.map_cons, List.map_nil, List.length_cons, List.length_nil, List.cons_append, List.nil_append, lk_0, lk_s, st_0, st_s, ix_0, ix_1, ix_2, Op2.o, Cm.o, BI.o, ME.o, ME.rv, is_o, eq_int, cmp_int, overT, nop_cmp, nop_chain, nop_and, nop_or, nop_not, nop_call, nop_bi, nop_ite, nop_ix, nop_v, nop_int, nop_op, nop_neg, nop_nop, wE_lc_cmp, wE_lc_chain, wE_lc_and, wE_lc_or, wE_lc_not, wE_lc_call, wE_lc_bi, wE_lc_ite, wE_lc_ix, wE_lc_v, List.replicate_succ, List.replicate_zero, Nat.reduceAdd, Nat.reduceSub, oT_s, oT_n, eq_io, eq_oi, is_i, is_n, Bool.xor_true, Bool.xor_false, Bool.false_xor, Bool.true_xor, Bool.not_true, Bool.not_false, mk_t, bodyC_n, bodyC_n1, bodyD_n, h6]
      refine ⟨lo, u, sn, rk, s, _, rfl, c.s1 hs, c.s2 hs, ls_some c.okl (stt_lt hs), c.oku.lw, ?_⟩
      cases z : litOk u (sAt sn s) (sAt rk s) (lo.ls.getD s []) with
      | true => simpa only [z, Bool.not_true, Bool.false_eq_true, if_false] using g
      | false =>
        simp only [Bool.not_false]
        exact ⟨sz (by decide), by simpa only [z, Bool.not_false, if_true, encB] using g⟩
    · have e2 : ((stt lo).filter fun s => !litOk u (sAt sn s) (sAt rk s) (lo.ls.getD s [])).map (fun s => encB (.lit s)) = (litB lo u sn rk (stt lo)).map encB := by
        unfold litB
        rw [List.map_map]
        rfl
      rw [e2]
      simp only [mk_t, wSs_cons, wSs_nil, wS_set, wS_unp, wS_setix, wS_aug, wS_expr, wS_ret, wS_retN, wS_ife, wS_for, wS_while, wS_pass, wS_brk, wS_cont, wE_v, wE_non, wE_bl, wE_int, wE_str, wE_neg, wE_op, wE_cmp, wE_chain, wE_and, wE_or, wE_not, wE_ite, wE_ix, wE_sl, wE_tup, wE_lst, wE_dnew, wE_call, wE_bi, wE_isi, wE_me, wE_lc0, wE_dc, wE_sset, wE_frz, wEs_nil, wEs_cons, wI_over, wI_rng1, wI_rng2, List.map_cons, List.map_nil, List.length_cons, List.length_nil, List.cons_append, List.nil_append, lk_0, lk_s, st_0, st_s, ix_0, ix_1, ix_2, Op2.o, Cm.o, BI.o, ME.o, ME.rv, is_o, eq_int, cmp_int, overT, nop_cmp, nop_chain, nop_and, nop_or, nop_not, nop_call, nop_bi, nop_ite, nop_ix, nop_v, nop_int, nop_op, nop_neg, nop_nop, wE_lc_cmp, wE_lc_chain, wE_lc_and, wE_lc_or, wE_lc_not, wE_lc_call, wE_lc_bi, wE_lc_ite, wE_lc_ix, wE_lc_v, List.replicate_succ, List.replicate_zero, Nat.reduceAdd, Nat.reduceSub, oT_s, oT_n, eq_io, eq_oi, is_i, is_n, Bool.xor_true, Bool.xor_false, Bool.false_xor, Bool.true_xor, Bool.not_true, Bool.not_false, mk_t, bodyC_n, bodyC_n1, bodyD_n, len_lmap, len0]
      by_cases e3 : litB lo u sn rk (stt lo) = []
      · rw [if_pos e3] at q
        simp only [e3, decide_true]
        refine ⟨lo, rfl, c.okl, ?_⟩
        exact ⟨lo, u, sn, rk, rfl, c, litB_nil e3, rtn q⟩
      · rw [if_neg e3] at q
        simp only [e3, decide_false]
        exact rtn q
  · rw [if_neg e] at q
    simp only [e, decide_false, wSs_cons, wSs_nil, wS_set, wS_unp, wS_setix, wS_aug, wS_expr, wS_ret, wS_retN, wS_ife, wS_for, wS_while, wS_pass, wS_brk, wS_cont, wE_v, wE_non, wE_bl, wE_int, wE_str, wE_neg, wE_op, wE_cmp, wE_chain, wE_and, wE_or, wE_not, wE_ite, wE_ix, wE_sl, wE_tup, wE_lst, wE_dnew, wE_call, wE_bi, wE_isi, wE_me, wE_lc0, wE_dc, wE_sset, wE_frz, wEs_nil, wEs_cons, wI_over, wI_rng1, wI_rng2, List.map_cons, List.map_nil, List.length_cons, List.length_nil, List.cons_append, List.nil_append, lk_0, lk_s, st_0, st_s, ix_0, ix_1, ix_2, Op2.o, Cm.o, BI.o, ME.o, ME.rv, is_o, eq_int, cmp_int, overT, nop_cmp, nop_chain, nop_and, nop_or, nop_not, nop_call, nop_bi, nop_ite, nop_ix, nop_v, nop_int, nop_op, nop_neg, nop_nop, wE_lc_cmp, wE_lc_chain, wE_lc_and, wE_lc_or, wE_lc_not, wE_lc_call, wE_lc_bi, wE_lc_ite, wE_lc_ix, wE_lc_v, List.replicate_succ, List.replicate_zero, Nat.reduceAdd, Nat.reduceSub, oT_s, oT_n, eq_io, eq_oi, is_i, is_n, Bool.xor_true, Bool.xor_false, Bool.false_xor, Bool.true_xor, Bool.not_true, Bool.not_false, mk_t, bodyC_n, bodyC_n1, bodyD_n, len_lmap, len0]
    exact rtn q
theorem within_nil {lo u : Wd} {sn rk : List (Option Int)} (h : within lo u sn rk = []) : Seen lo u sn rk := by
  unfold within at h
  by_cases e : begB lo u sn = []
  · rw [if_pos e] at h
    by_cases e3 : litB lo u sn rk (stt lo) = []
    · exact litB_nil e3
    · rw [if_neg e3] at h
      exact absurd h e3
  · rw [if_neg e] at h
    exact absurd h e
def headB : List Brc → T
  | [] => .non
  | b :: _ => encB b
def sp_first_breach : TSp := fun ts H Q => ∃ (lo u : Wd) (sn rk : List (Option Int)), ts = [encW lo, encW u, oTs sn, oTs rk] ∧ Ctx lo u sn rk ∧ Q (headB (breaches lo u sn rk)) H
theorem w_first_breach {C : Nat → TSp} (h0 : C 0 = sp_states_come_to) (h13 : C 13 = sp_wrong_next) (h14 : C 14 = sp_breaches_within) (ts : List T) (H : TH) (Q : TL.KT) (h : sp_first_breach ts H Q) : wSs C b_first_breach (bodyEnds Q) (start0 n_first_breach ts) H := by
  obtain ⟨lo, u, sn, rk, rfl, c, q⟩ := h
  have fin : ∀ (l : List Brc), l = breaches lo u sn rk → wSs C (.cons (.ret (.ite (.cmp .gt (.bi .len (.cons (.v 4) .nil)) (.int 0)) (.ix (.v 4) (.int 0)) .non)) .nil) (bodyEnds Q) [some (encW lo), some (encW u), some (oTs sn), some (oTs rk), some (.lst (l.map encB))] H := by
    intro l e
    rw [← e] at q
    simp only [wSs_cons, wSs_nil, wS_set, wS_unp, wS_setix, wS_aug, wS_expr, wS_ret, wS_retN, wS_ife, wS_for, wS_while, wS_pass, wS_brk, wS_cont, wE_v, wE_non, wE_bl, wE_int, wE_str, wE_neg, wE_op, wE_cmp, wE_chain, wE_and, wE_or, wE_not, wE_ite, wE_ix, wE_sl, wE_tup, wE_lst, wE_dnew, wE_call, wE_bi, wE_isi, wE_me, wE_lc0, wE_dc, wE_sset, wE_frz, wEs_nil, wEs_cons, wI_over, wI_rng1, wI_rng2, List.map_cons, List.map_nil, List.length_cons, List.length_nil, List.cons_append, List.nil_append, lk_0, lk_s, st_0, st_s, ix_0, ix_1, ix_2, Op2.o, Cm.o, BI.o, ME.o, ME.rv, is_o, eq_int, cmp_int, overT, nop_cmp, nop_chain, nop_and, nop_or, nop_not, nop_call, nop_bi, nop_ite, nop_ix, nop_v, nop_int, nop_op, nop_neg, nop_nop, wE_lc_cmp, wE_lc_chain, wE_lc_and, wE_lc_or, wE_lc_not, wE_lc_call, wE_lc_bi, wE_lc_ite, wE_lc_ix, wE_lc_v, List.replicate_succ, List.replicate_zero, Nat.reduceAdd, Nat.reduceSub, oT_s, oT_n, eq_io, eq_oi, is_i, is_n, Bool.xor_true, Bool.xor_false, Bool.false_xor, Bool.true_xor, Bool.not_true, Bool.not_false, mk_t, bodyC_n, bodyC_n1, bodyD_n, len_lmap]
    cases l with
    | nil =>
      simp only [List.length_nil, Int.natCast_zero, Int.lt_irrefl, decide_false]
      exact rtn q
    | cons b r =>
      have hpos : ((0 : Int) < ((r.length + 1 : Nat) : Int)) := by omega
      have e0 : atI (encB b :: r.map encB) 0 = some (encB b) := atI_nat (j := 0) rfl
      simp only [List.length_cons, hpos, decide_true, List.map_cons, oIx, seqOf, e0]
      exact rtn q
  simp only [b_first_breach, start0, n_first_breach, wSs_cons, wS_set, wE_call, wEs_cons, wEs_nil, wE_v, List.map_cons, List.length_cons, List.length_nil, Nat.reduceAdd, Nat.reduceSub, List.replicate_succ, List.replicate_zero, List.cons_append, List.nil_append, lk_0, lk_s, st_0, st_s, h14]
  refine ⟨lo, u, sn, rk, rfl, c, ?_⟩
  simp only [wS_ife, wE_cmp, Cm.o, wE_bi, BI.o, wEs_cons, wEs_nil, wE_v, lk_0, lk_s, wE_int, len_lmap, eq_int, Bool.false_xor, len0, List.map_nil, List.nil_append, st_0, st_s]
  by_cases e : within lo u sn rk = []
  · simp only [e, decide_true, wSs_cons, wSs_nil, wS_set, wE_call, wEs_cons, wEs_nil, wE_v, lk_0, lk_s, st_0, st_s, h0]
    refine ⟨lo, rfl, c.okl, ?_⟩
    rw [h13]
    refine ⟨lo, u, sn, rk, rfl, c, within_nil e, fin _ ?_⟩
    unfold breaches
    rw [if_pos e]
  · simp only [e, decide_false, wSs_nil]
    refine fin _ ?_
    unfold breaches
    rw [if_neg e]
def sp_judge_in_step : TSp := fun ts H Q => ∃ (lo u : Wd) (sn rk : List (Option Int)), ts = [encW lo, encW u, oTs sn, oTs rk] ∧ Ctx lo u sn rk ∧ Q (.bl (decide (breaches lo u sn rk = []))) H
theorem isNon_head (l : List Brc) : TL.isNon (headB l) = decide (l = []) := by
  cases l with
  | nil => rfl
  | cons b r => cases b <;> rfl
theorem w_judge_in_step {C : Nat → TSp} (h15 : C 15 = sp_first_breach) (ts : List T) (H : TH) (Q : TL.KT) (h : sp_judge_in_step ts H Q) : wSs C b_judge_in_step (bodyEnds Q) (start0 n_judge_in_step ts) H := by
  obtain ⟨lo, u, sn, rk, rfl, c, q⟩ := h
  simp only [b_judge_in_step, start0, n_judge_in_step, wSs_cons, wSs_nil, wS_set, wS_unp, wS_setix, wS_aug, wS_expr, wS_ret, wS_retN, wS_ife, wS_for, wS_while, wS_pass, wS_brk, wS_cont, wE_v, wE_non, wE_bl, wE_int, wE_str, wE_neg, wE_op, wE_cmp, wE_chain, wE_and, wE_or, wE_not, wE_ite, wE_ix, wE_sl, wE_tup, wE_lst, wE_dnew, wE_call, wE_bi, wE_isi, wE_me, wE_lc0, wE_dc, wE_sset, wE_frz, wEs_nil, wEs_cons, wI_over, wI_rng1, wI_rng2, List.map_cons, List.map_nil, List.length_cons, List.length_nil, List.cons_append, List.nil_append, lk_0, lk_s, st_0, st_s, ix_0, ix_1, ix_2, Op2.o, Cm.o, BI.o, ME.o, ME.rv, is_o, eq_int, cmp_int, overT, nop_cmp, nop_chain, nop_and, nop_or, nop_not, nop_call, nop_bi, nop_ite, nop_ix, nop_v, nop_int, nop_op, nop_neg, nop_nop, wE_lc_cmp, wE_lc_chain, wE_lc_and, wE_lc_or, wE_lc_not, wE_lc_call, wE_lc_bi, wE_lc_ite, wE_lc_ix, wE_lc_v, List.replicate_succ, List.replicate_zero, Nat.reduceAdd, Nat.reduceSub, oT_s, oT_n, eq_io, eq_oi, is_i, is_n, Bool.xor_true, Bool.xor_false, Bool.false_xor, Bool.true_xor, Bool.not_true, Bool.not_false, mk_t, bodyC_n, bodyC_n1, bodyD_n, h15]
  refine ⟨lo, u, sn, rk, rfl, c, ?_⟩
  simp only [oIs, isNon_head, Bool.false_xor]
  exact ⟨trivial, rtn q⟩
def sp_lower_begins_see : TSp := fun ts H Q => ∃ (lo u : Wd) (sn rk : List (Option Int)), ts = [encW lo, encW u, oTs sn] ∧ Ctx lo u sn rk ∧ Q (.bl (lo.bs.all fun s => bSee u.bs (sAt sn s))) H
theorem w_lower_begins_see {C : Nat → TSp} (h5 : C 5 = sp_does_begin_see) (ts : List T) (H : TH) (Q : TL.KT) (h : sp_lower_begins_see ts H Q) : wSs C b_lower_begins_see (bodyEnds Q) (start0 n_lower_begins_see ts) H := by
  obtain ⟨lo, u, sn, rk, rfl, c, q⟩ := h
  have hb := bs_len c.okl
  simp only [b_lower_begins_see, start0, n_lower_begins_see, wSs_cons, wSs_nil, wS_set, wS_unp, wS_setix, wS_aug, wS_expr, wS_ret, wS_retN, wS_ife, wS_for, wS_while, wS_pass, wS_brk, wS_cont, wE_v, wE_non, wE_bl, wE_int, wE_str, wE_neg, wE_op, wE_cmp, wE_chain, wE_and, wE_or, wE_not, wE_ite, wE_ix, wE_sl, wE_tup, wE_lst, wE_dnew, wE_call, wE_bi, wE_isi, wE_me, wE_lc0, wE_dc, wE_sset, wE_frz, wEs_nil, wEs_cons, wI_over, wI_rng1, wI_rng2, List.map_cons, List.map_nil, List.length_cons, List.length_nil, List.cons_append, List.nil_append, lk_0, lk_s, st_0, st_s, ix_0, ix_1, ix_2, Op2.o, Cm.o, BI.o, ME.o, ME.rv, is_o, eq_int, cmp_int, overT, nop_cmp, nop_chain, nop_and, nop_or, nop_not, nop_call, nop_bi, nop_ite, nop_ix, nop_v, nop_int, nop_op, nop_neg, nop_nop, wE_lc_cmp, wE_lc_chain, wE_lc_and, wE_lc_or, wE_lc_not, wE_lc_call, wE_lc_bi, wE_lc_ite, wE_lc_ix, wE_lc_v, List.replicate_succ, List.replicate_zero, Nat.reduceAdd, Nat.reduceSub, oT_s, oT_n, eq_io, eq_oi, is_i, is_n, Bool.xor_true, Bool.xor_false, Bool.false_xor, Bool.true_xor, Bool.not_true, Bool.not_false, mk_t, bodyC_n, bodyC_n1, bodyD_n]
  refine lc_map (α := Nat) (enc := nT) (f := fun s => .bl (bSee u.bs (sAt sn s))) trivial (fun s hs G g => ?_) (sz (by omega)) ?_
  · simp only [wSs_cons, wSs_nil, wS_set, wS_unp, wS_setix, wS_aug, wS_expr, wS_ret, wS_retN, wS_ife, wS_for, wS_while, wS_pass, wS_brk, wS_cont, wE_v, wE_non, wE_bl, wE_int, wE_str, wE_neg, wE_op, wE_cmp, wE_chain, wE_and, wE_or, wE_not, wE_ite, wE_ix, wE_sl, wE_tup, wE_lst, wE_dnew, wE_call, wE_bi, wE_isi, wE_me, wE_lc0, wE_dc, wE_sset, wE_frz, wEs_nil, wEs_cons, wI_over, wI_rng1, wI_rng2, List.map_cons, List.map_nil, List.length_cons, List.length_nil, List.cons_append, List.nil_append, lk_0, lk_s, st_0, st_s, ix_0, ix_1, ix_2, Op2.o, Cm.o, BI.o, ME.o, ME.rv, is_o, eq_int, cmp_int, overT, nop_cmp, nop_chain, nop_and, nop_or, nop_not, nop_call, nop_bi, nop_ite, nop_ix, nop_v, nop_int, nop_op, nop_neg, nop_nop, wE_lc_cmp, wE_lc_chain, wE_lc_and, wE_lc_or, wE_lc_not, wE_lc_call, wE_lc_bi, wE_lc_ite, wE_lc_ix, wE_lc_v, List.replicate_succ, List.replicate_zero, Nat.reduceAdd, Nat.reduceSub, oT_s, oT_n, eq_io, eq_oi, is_i, is_n, Bool.xor_true, Bool.xor_false, Bool.false_xor, Bool.true_xor, Bool.not_true, Bool.not_false, mk_t, bodyC_n, bodyC_n1, bodyD_n, h5]
    exact ⟨u, sn, s, _, rfl, sAt_some (c.s3 hs), g⟩
  · simp only [wSs_cons, wSs_nil, wS_set, wS_unp, wS_setix, wS_aug, wS_expr, wS_ret, wS_retN, wS_ife, wS_for, wS_while, wS_pass, wS_brk, wS_cont, wE_v, wE_non, wE_bl, wE_int, wE_str, wE_neg, wE_op, wE_cmp, wE_chain, wE_and, wE_or, wE_not, wE_ite, wE_ix, wE_sl, wE_tup, wE_lst, wE_dnew, wE_call, wE_bi, wE_isi, wE_me, wE_lc0, wE_dc, wE_sset, wE_frz, wEs_nil, wEs_cons, wI_over, wI_rng1, wI_rng2, List.map_cons, List.map_nil, List.length_cons, List.length_nil, List.cons_append, List.nil_append, lk_0, lk_s, st_0, st_s, ix_0, ix_1, ix_2, Op2.o, Cm.o, BI.o, ME.o, ME.rv, is_o, eq_int, cmp_int, overT, nop_cmp, nop_chain, nop_and, nop_or, nop_not, nop_call, nop_bi, nop_ite, nop_ix, nop_v, nop_int, nop_op, nop_neg, nop_nop, wE_lc_cmp, wE_lc_chain, wE_lc_and, wE_lc_or, wE_lc_not, wE_lc_call, wE_lc_bi, wE_lc_ite, wE_lc_ix, wE_lc_v, List.replicate_succ, List.replicate_zero, Nat.reduceAdd, Nat.reduceSub, oT_s, oT_n, eq_io, eq_oi, is_i, is_n, Bool.xor_true, Bool.xor_false, Bool.false_xor, Bool.true_xor, Bool.not_true, Bool.not_false, mk_t, bodyC_n, bodyC_n1, bodyD_n, all_bl]
    exact rtn q
def isWithin (lo u : Wd) (sn rk : List (Option Int)) : Bool := (lo.bs.all fun s => bSee u.bs (sAt sn s)) && (decide (litB lo u sn rk (stt lo) = []) && decide (wayB lo u sn rk (stt lo) = []))
theorem lit_all {lo u : Wd} {sn rk : List (Option Int)} {S : List Nat} : decide (litB lo u sn rk S = []) = S.all fun s => litOk u (sAt sn s) (sAt rk s) (lo.ls.getD s []) := by
  unfold litB
  rw [Bool.eq_iff_iff, decide_eq_true_eq, List.map_eq_nil_iff, List.filter_eq_nil_iff, List.all_eq_true]
  exact ⟨fun h s hs => by simpa using h s hs, fun h s hs => by simpa using h s hs⟩
def sp_judge_within_step : TSp := fun ts H Q => ∃ (lo u : Wd) (sn rk : List (Option Int)), ts = [encW lo, encW u, oTs sn, oTs rk] ∧ Ctx lo u sn rk ∧ Q (.bl (isWithin lo u sn rk)) H
theorem w_judge_within_step {C : Nat → TSp} (h0 : C 0 = sp_states_come_to) (h6 : C 6 = sp_are_lights_seen) (h17 : C 17 = sp_lower_begins_see) (h12 : C 12 = sp_wrong_ways) (ts : List T) (H : TH) (Q : TL.KT) (h : sp_judge_within_step ts H Q) : wSs C b_judge_within_step (bodyEnds Q) (start0 n_judge_within_step ts) H := by
  obtain ⟨lo, u, sn, rk, rfl, c, q⟩ := h
  have hS := stt60 c.okl
  unfold isWithin at q
  simp only [b_judge_within_step, start0, n_judge_within_step, wSs_cons, wSs_nil, wS_set, wS_unp, wS_setix, wS_aug, wS_expr, wS_ret, wS_retN, wS_ife, wS_for, wS_while, wS_pass, wS_brk, wS_cont, wE_v, wE_non, wE_bl, wE_int, wE_str, wE_neg, wE_op, wE_cmp, wE_chain, wE_and, wE_or, wE_not, wE_ite, wE_ix, wE_sl, wE_tup, wE_lst, wE_dnew, wE_call, wE_bi, wE_isi, wE_me, wE_lc0, wE_dc, wE_sset, wE_frz, wEs_nil, wEs_cons, wI_over, wI_rng1, wI_rng2, List.map_cons, List.map_nil, List.length_cons, List.length_nil, List.cons_append, List.nil_append, lk_0, lk_s, st_0, st_s, ix_0, ix_1, ix_2, Op2.o, Cm.o, BI.o, ME.o, ME.rv, is_o, eq_int, cmp_int, overT, nop_cmp, nop_chain, nop_and, nop_or, nop_not, nop_call, nop_bi, nop_ite, nop_ix, nop_v, nop_int, nop_op, nop_neg, nop_nop, wE_lc_cmp, wE_lc_chain, wE_lc_and, wE_lc_or, wE_lc_not, wE_lc_call, wE_lc_bi, wE_lc_ite, wE_lc_ix, wE_lc_v, List.replicate_succ, List.replicate_zero, Nat.reduceAdd, Nat.reduceSub, oT_s, oT_n, eq_io, eq_oi, is_i, is_n, Bool.xor_true, Bool.xor_false, Bool.false_xor, Bool.true_xor, Bool.not_true, Bool.not_false, mk_t, bodyC_n, bodyC_n1, bodyD_n, h0, h17, h12]
  refine ⟨lo, rfl, c.okl, ?_⟩
  refine ⟨lo, u, sn, rk, rfl, c, ?_⟩
  cases e : lo.bs.all fun s => bSee u.bs (sAt sn s) with
  | false =>
    simp only [Bool.not_false]
    rw [e] at q
    exact rtn q
  | true =>
    rw [e, Bool.true_and] at q
    simp only [Bool.not_true, wSs_cons, wSs_nil, wS_set, wS_unp, wS_setix, wS_aug, wS_expr, wS_ret, wS_retN, wS_ife, wS_for, wS_while, wS_pass, wS_brk, wS_cont, wE_v, wE_non, wE_bl, wE_int, wE_str, wE_neg, wE_op, wE_cmp, wE_chain, wE_and, wE_or, wE_not, wE_ite, wE_ix, wE_sl, wE_tup, wE_lst, wE_dnew, wE_call, wE_bi, wE_isi, wE_me, wE_lc0, wE_dc, wE_sset, wE_frz, wEs_nil, wEs_cons, wI_over, wI_rng1, wI_rng2, List.map_cons, List.map_nil, List.length_cons, List.length_nil, List.cons_append, List.nil_append, lk_0, lk_s, st_0, st_s, ix_0, ix_1, ix_2, Op2.o, Cm.o, BI.o, ME.o, ME.rv, is_o, eq_int, cmp_int, overT, nop_cmp, nop_chain, nop_and, nop_or, nop_not, nop_call, nop_bi, nop_ite, nop_ix, nop_v, nop_int, nop_op, nop_neg, nop_nop, wE_lc_cmp, wE_lc_chain, wE_lc_and, wE_lc_or, wE_lc_not, wE_lc_call, wE_lc_bi, wE_lc_ite, wE_lc_ix, wE_lc_v, List.replicate_succ, List.replicate_zero, Nat.reduceAdd, Nat.reduceSub, oT_s, oT_n, eq_io, eq_oi, is_i, is_n, Bool.xor_true, Bool.xor_false, Bool.false_xor, Bool.true_xor, Bool.not_true, Bool.not_false, mk_t, bodyC_n, bodyC_n1, bodyD_n]
    refine lc_map (α := Nat) (enc := nT) (f := fun s => .bl (litOk u (sAt sn s) (sAt rk s) (lo.ls.getD s []))) trivial (fun s hs G g => ?_) (sz (by omega)) ?_
    · simp only [wSs_cons, wSs_nil, wS_set, wS_unp, wS_setix, wS_aug, wS_expr, wS_ret, wS_retN, wS_ife, wS_for, wS_while, wS_pass, wS_brk, wS_cont, wE_v, wE_non, wE_bl, wE_int, wE_str, wE_neg, wE_op, wE_cmp, wE_chain, wE_and, wE_or, wE_not, wE_ite, wE_ix, wE_sl, wE_tup, wE_lst, wE_dnew, wE_call, wE_bi, wE_isi, wE_me, wE_lc0, wE_dc, wE_sset, wE_frz, wEs_nil, wEs_cons, wI_over, wI_rng1, wI_rng2, List.map_cons, List.map_nil, List.length_cons, List.length_nil, List.cons_append, List.nil_append, lk_0, lk_s, st_0, st_s, ix_0, ix_1, ix_2, Op2.o, Cm.o, BI.o, ME.o, ME.rv, is_o, eq_int, cmp_int, overT, nop_cmp, nop_chain, nop_and, nop_or, nop_not, nop_call, nop_bi, nop_ite, nop_ix, nop_v, nop_int, nop_op, nop_neg, nop_nop, wE_lc_cmp, wE_lc_chain, wE_lc_and, wE_lc_or, wE_lc_not, wE_lc_call, wE_lc_bi, wE_lc_ite, wE_lc_ix, wE_lc_v, List.replicate_succ, List.replicate_zero, Nat.reduceAdd, Nat.reduceSub, oT_s, oT_n, eq_io, eq_oi, is_i, is_n, Bool.xor_true, Bool.xor_false, Bool.false_xor, Bool.true_xor, Bool.not_true, Bool.not_false, mk_t, bodyC_n, bodyC_n1, bodyD_n, h6]
      exact ⟨lo, u, sn, rk, s, _, rfl, c.s1 hs, c.s2 hs, ls_some c.okl (stt_lt hs), c.oku.lw, g⟩
    · simp only [wSs_cons, wSs_nil, wS_set, wS_unp, wS_setix, wS_aug, wS_expr, wS_ret, wS_retN, wS_ife, wS_for, wS_while, wS_pass, wS_brk, wS_cont, wE_v, wE_non, wE_bl, wE_int, wE_str, wE_neg, wE_op, wE_cmp, wE_chain, wE_and, wE_or, wE_not, wE_ite, wE_ix, wE_sl, wE_tup, wE_lst, wE_dnew, wE_call, wE_bi, wE_isi, wE_me, wE_lc0, wE_dc, wE_sset, wE_frz, wEs_nil, wEs_cons, wI_over, wI_rng1, wI_rng2, List.map_cons, List.map_nil, List.length_cons, List.length_nil, List.cons_append, List.nil_append, lk_0, lk_s, st_0, st_s, ix_0, ix_1, ix_2, Op2.o, Cm.o, BI.o, ME.o, ME.rv, is_o, eq_int, cmp_int, overT, nop_cmp, nop_chain, nop_and, nop_or, nop_not, nop_call, nop_bi, nop_ite, nop_ix, nop_v, nop_int, nop_op, nop_neg, nop_nop, wE_lc_cmp, wE_lc_chain, wE_lc_and, wE_lc_or, wE_lc_not, wE_lc_call, wE_lc_bi, wE_lc_ite, wE_lc_ix, wE_lc_v, List.replicate_succ, List.replicate_zero, Nat.reduceAdd, Nat.reduceSub, oT_s, oT_n, eq_io, eq_oi, is_i, is_n, Bool.xor_true, Bool.xor_false, Bool.false_xor, Bool.true_xor, Bool.not_true, Bool.not_false, mk_t, bodyC_n, bodyC_n1, bodyD_n, all_bl, ← lit_all]
      by_cases e2 : litB lo u sn rk (stt lo) = []
      · simp only [e2, decide_true, Bool.true_and] at q
        simp only [e2, decide_true, Bool.not_true]
        refine ⟨lo, u, sn, rk, rfl, c, litB_nil e2, ?_⟩
        simp only [len_lmap, wSs_cons, wSs_nil, wS_set, wS_unp, wS_setix, wS_aug, wS_expr, wS_ret, wS_retN, wS_ife, wS_for, wS_while, wS_pass, wS_brk, wS_cont, wE_v, wE_non, wE_bl, wE_int, wE_str, wE_neg, wE_op, wE_cmp, wE_chain, wE_and, wE_or, wE_not, wE_ite, wE_ix, wE_sl, wE_tup, wE_lst, wE_dnew, wE_call, wE_bi, wE_isi, wE_me, wE_lc0, wE_dc, wE_sset, wE_frz, wEs_nil, wEs_cons, wI_over, wI_rng1, wI_rng2, List.map_cons, List.map_nil, List.length_cons, List.length_nil, List.cons_append, List.nil_append, lk_0, lk_s, st_0, st_s, ix_0, ix_1, ix_2, Op2.o, Cm.o, BI.o, ME.o, ME.rv, is_o, eq_int, cmp_int, overT, nop_cmp, nop_chain, nop_and, nop_or, nop_not, nop_call, nop_bi, nop_ite, nop_ix, nop_v, nop_int, nop_op, nop_neg, nop_nop, wE_lc_cmp, wE_lc_chain, wE_lc_and, wE_lc_or, wE_lc_not, wE_lc_call, wE_lc_bi, wE_lc_ite, wE_lc_ix, wE_lc_v, List.replicate_succ, List.replicate_zero, Nat.reduceAdd, Nat.reduceSub, oT_s, oT_n, eq_io, eq_oi, is_i, is_n, Bool.xor_true, Bool.xor_false, Bool.false_xor, Bool.true_xor, Bool.not_true, Bool.not_false, mk_t, bodyC_n, bodyC_n1, bodyD_n, len0]
        exact rtn q
      · simp only [e2, decide_false, Bool.false_and] at q
        simp only [e2, decide_false, Bool.not_false]
        exact rtn q
end K80
set_option maxRecDepth 100000
set_option maxHeartbeats 1000000
namespace K80
open PySem PySem.Spec L2 TL
/-! ### ranks -/
def silN (lo u : Wd) (sn : List (Option Int)) (s : Nat) : List Nat := (nx lo s).filter fun t => silent (seenN sn s) (nx u (seenN sn s)) (sAt sn t)
def rankOf (rk : List (Option Int)) (sil : List Nat) : Option Int := if (sil.all fun t => (sAt rk t).isSome) = true then some (maxI (-1 :: sil.map (rkI rk)) + 1) else none
def rkStep (lo u : Wd) (sn : List (Option Int)) (rk : List (Option Int)) (s : Nat) : List (Option Int) := match rankOf rk (silN lo u sn s) with
  | some k => rk.set s (some k)
  | none => rk
def rkRound (lo u : Wd) (sn : List (Option Int)) (rk : List (Option Int)) : List (Option Int) := (stt lo).foldl (rkStep lo u sn) rk
def ranksN (lo u : Wd) (sn : List (Option Int)) : List (Option Int) := (stt lo).foldl (fun rk _ => rkRound lo u sn rk) (List.replicate lo.ws.length none)
theorem rkStep_len {lo u : Wd} {sn rk : List (Option Int)} {s : Nat} : (rkStep lo u sn rk s).length = rk.length := by
  unfold rkStep
  split
  · rw [List.length_set]
  · rfl
theorem rkFold_len {lo u : Wd} {sn : List (Option Int)} : ∀ (l : List Nat) (rk : List (Option Int)), (l.foldl (rkStep lo u sn) rk).length = rk.length
  | [], _ => rfl
  | s :: l, rk => by
    rw [List.foldl_cons, rkFold_len l, rkStep_len]
theorem rkRounds_len {lo u : Wd} {sn : List (Option Int)} : ∀ (l : List Nat) (rk : List (Option Int)), (l.foldl (fun rk _ => rkRound lo u sn rk) rk).length = rk.length
  | [], _ => rfl
  | s :: l, rk => by
    rw [List.foldl_cons, rkRounds_len l]
    exact rkFold_len _ _
theorem ranksN_len {lo u : Wd} {sn : List (Option Int)} : (ranksN lo u sn).length = lo.ws.length := by
  unfold ranksN
  rw [rkRounds_len, List.length_replicate]
/-- the dict that the program keeps -/
structure Told (lo : Wd) (rk : List (Option Int)) (o : List Nat) : Prop where
  nd : o.Nodup
  ins : ∀ s ∈ o, s ∈ stt lo
  mem : ∀ s, s ∈ o ↔ (sAt rk s).isSome = true
theorem sAt_set {rk : List (Option Int)} {s x : Nat} {k : Int} (h : s < rk.length) : sAt (rk.set s (some k)) x = if x = s then some k else sAt rk x := by
  unfold sAt
  rw [List.getD_eq_getElem?_getD, List.getD_eq_getElem?_getD]
  by_cases e : x = s
  · subst e
    rw [if_pos rfl, List.getElem?_set_self h]
    rfl
  · rw [if_neg e, List.getElem?_set_ne (fun z => e z.symm)]
theorem rkI_set {rk : List (Option Int)} {s x : Nat} {k : Int} (h : s < rk.length) : rkI (rk.set s (some k)) x = if x = s then k else rkI rk x := by
  unfold rkI
  rw [sAt_set h]
  split <;> rfl
theorem Told.set {lo : Wd} {rk : List (Option Int)} {o : List Nat} {s : Nat} {k : Int} (h : Told lo rk o) (hs : s ∈ stt lo) (hl : s < rk.length) : Told lo (rk.set s (some k)) (if s ∈ o then o else o ++ [s]) := by
  by_cases m : s ∈ o
  · rw [if_pos m]
    refine ⟨h.nd, h.ins, fun x => ?_⟩
    rw [sAt_set hl]
    by_cases e : x = s
    · subst e
      simp [m]
    · rw [if_neg e]
      exact h.mem x
  · rw [if_neg m]
    refine ⟨?_, fun x hx => ?_, fun x => ?_⟩
    · refine List.nodup_append.mpr ⟨h.nd, nd1 s, fun a ha b hb e => ?_⟩
      rw [List.mem_singleton.mp hb] at e
      exact m (e ▸ ha)
    · rcases List.mem_append.mp hx with z | z
      · exact h.ins x z
      · rw [List.mem_singleton.mp z]
        exact hs
    · rw [sAt_set hl, List.mem_append, List.mem_singleton]
      by_cases e : x = s
      · subst e
        simp
      · rw [if_neg e]
        simp only [e, or_false]
        exact h.mem x
theorem Told.tds_set {rk : List (Option Int)} {o : List Nat} {s : Nat} {k : Int} (hl : s < rk.length) : setK (tds (rkI rk) o) (.inl (s : Int)) (.int k) = tds (rkI (rk.set s (some k))) (if s ∈ o then o else o ++ [s]) := by
  rw [setK_tds]
  refine tds_congr fun x _ => ?_
  rw [rkI_set hl]
theorem Told.len {lo : Wd} {rk : List (Option Int)} {o : List Nat} (h : Told lo rk o) (ok : lo.Ok) : o.length ≤ 60 := Nat.le_trans (nd_sub_len h.nd h.ins) (stt60 ok)
theorem Told.lt {lo : Wd} {rk : List (Option Int)} {o : List Nat} (h : Told lo rk o) : decide ((o.length : Int) < ((stt lo).length : Int)) = (stt lo).any fun s => (sAt rk s).isNone := by
  rw [Bool.eq_iff_iff, decide_eq_true_eq, List.any_eq_true]
  constructor
  · intro z
    apply Classical.byContradiction
    intro n
    have : (stt lo).length ≤ o.length := nd_sub_len (stt_nd lo) fun x hx => by
      rw [h.mem]
      cases e : sAt rk x with
      | some _ => rfl
      | none => exact absurd ⟨x, hx, by rw [e]; rfl⟩ n
    omega
  · rintro ⟨s, hs, e⟩
    have hn : s ∉ o := fun m => by
      have := (h.mem s).mp m
      cases z : sAt rk s with
      | none =>
        rw [z] at this
        cases this
      | some _ =>
        rw [z] at e
        cases e
    have : (s :: o).length ≤ (stt lo).length := nd_sub_len (List.nodup_cons.mpr ⟨hn, h.nd⟩) fun x hx => by
      rcases List.mem_cons.mp hx with z | z
      · exact z ▸ hs
      · exact h.ins x z
    rw [List.length_cons] at this
    omega
def sp_at_states_come_to : TSp := fun ts H Q => ∃ (lo : Wd) (rk : List (Option Int)) (o : List Nat) (g : Addr), ts = [encW lo, .ref g] ∧ lo.Ok ∧ rk.length = lo.ws.length ∧ H g = some (.dk (tds (rkI rk) o)) ∧ Told lo rk o ∧ Q (oTs rk) H
theorem w_at_states_come_to {C : Nat → TSp} (ts : List T) (H : TH) (Q : TL.KT) (h : sp_at_states_come_to ts H Q) : wSs C b_at_states_come_to (bodyEnds Q) (start0 n_at_states_come_to ts) H := by
  obtain ⟨lo, rk, o, g, rfl, ok, hl, hg, t, q⟩ := h
  have hs := ok.small
  simp only [b_at_states_come_to, start0, n_at_states_come_to, wSs_cons, wSs_nil, wS_set, wS_unp, wS_setix, wS_aug, wS_expr, wS_ret, wS_retN, wS_ife, wS_for, wS_while, wS_pass, wS_brk, wS_cont, wE_v, wE_non, wE_bl, wE_int, wE_str, wE_neg, wE_op, wE_cmp, wE_chain, wE_and, wE_or, wE_not, wE_ite, wE_ix, wE_sl, wE_tup, wE_lst, wE_dnew, wE_call, wE_bi, wE_isi, wE_me, wE_lc0, wE_dc, wE_sset, wE_frz, wEs_nil, wEs_cons, wI_over, wI_rng1, wI_rng2, List.map_cons, List.map_nil, List.length_cons, List.length_nil, List.cons_append, List.nil_append, lk_0, lk_s, st_0, st_s, ix_0, ix_1, ix_2, Op2.o, Cm.o, BI.o, ME.o, ME.rv, is_o, eq_int, cmp_int, overT, nop_cmp, nop_chain, nop_and, nop_or, nop_not, nop_call, nop_bi, nop_ite, nop_ix, nop_v, nop_int, nop_op, nop_neg, nop_nop, wE_lc_cmp, wE_lc_chain, wE_lc_and, wE_lc_or, wE_lc_not, wE_lc_call, wE_lc_bi, wE_lc_ite, wE_lc_ix, wE_lc_v, List.replicate_succ, List.replicate_zero, Nat.reduceAdd, Nat.reduceSub, oT_s, oT_n, eq_io, eq_oi, is_i, is_n, Bool.xor_true, Bool.xor_false, Bool.false_xor, Bool.true_xor, Bool.not_true, Bool.not_false, mk_t, bodyC_n, bodyC_n1, bodyD_n, len_map, rng_n (show lo.ws.length ≤ 16777216 by omega)]
  refine lc_map (α := Nat) (enc := nT) (f := fun s => oT (sAt rk s)) trivial (fun s hs G g' => ?_) (sz (by rw [List.length_range]; omega)) ?_
  · simp only [wSs_cons, wSs_nil, wS_set, wS_unp, wS_setix, wS_aug, wS_expr, wS_ret, wS_retN, wS_ife, wS_for, wS_while, wS_pass, wS_brk, wS_cont, wE_v, wE_non, wE_bl, wE_int, wE_str, wE_neg, wE_op, wE_cmp, wE_chain, wE_and, wE_or, wE_not, wE_ite, wE_ix, wE_sl, wE_tup, wE_lst, wE_dnew, wE_call, wE_bi, wE_isi, wE_me, wE_lc0, wE_dc, wE_sset, wE_frz, wEs_nil, wEs_cons, wI_over, wI_rng1, wI_rng2, List.map_cons, List.map_nil, List.length_cons, List.length_nil, List.cons_append, List.nil_append, lk_0, lk_s, st_0, st_s, ix_0, ix_1, ix_2, Op2.o, Cm.o, BI.o, ME.o, ME.rv, is_o, eq_int, cmp_int, overT, nop_cmp, nop_chain, nop_and, nop_or, nop_not, nop_call, nop_bi, nop_ite, nop_ix, nop_v, nop_int, nop_op, nop_neg, nop_nop, wE_lc_cmp, wE_lc_chain, wE_lc_and, wE_lc_or, wE_lc_not, wE_lc_call, wE_lc_bi, wE_lc_ite, wE_lc_ix, wE_lc_v, List.replicate_succ, List.replicate_zero, Nat.reduceAdd, Nat.reduceSub, oT_s, oT_n, eq_io, eq_oi, is_i, is_n, Bool.xor_true, Bool.xor_false, Bool.false_xor, Bool.true_xor, Bool.not_true, Bool.not_false, mk_t, bodyC_n, bodyC_n1, bodyD_n, get1_d hg key_i, getK_tds]
    refine ⟨recv_d hg, ?_⟩
    have e : (if s ∈ o then some (T.int (rkI rk s)) else none).getD .non = oT (sAt rk s) := by
      by_cases m : s ∈ o
      · rw [if_pos m]
        have := (t.mem s).mp m
        unfold rkI
        cases z : sAt rk s with
        | none =>
          rw [z] at this
          cases this
        | some i => rfl
      · rw [if_neg m]
        cases z : sAt rk s with
        | none => rfl
        | some i => exact absurd ((t.mem s).mpr (by rw [z]; rfl)) m
    rw [e]
    exact g'
  · simp only [wSs_cons, wSs_nil, wS_set, wS_unp, wS_setix, wS_aug, wS_expr, wS_ret, wS_retN, wS_ife, wS_for, wS_while, wS_pass, wS_brk, wS_cont, wE_v, wE_non, wE_bl, wE_int, wE_str, wE_neg, wE_op, wE_cmp, wE_chain, wE_and, wE_or, wE_not, wE_ite, wE_ix, wE_sl, wE_tup, wE_lst, wE_dnew, wE_call, wE_bi, wE_isi, wE_me, wE_lc0, wE_dc, wE_sset, wE_frz, wEs_nil, wEs_cons, wI_over, wI_rng1, wI_rng2, List.map_cons, List.map_nil, List.length_cons, List.length_nil, List.cons_append, List.nil_append, lk_0, lk_s, st_0, st_s, ix_0, ix_1, ix_2, Op2.o, Cm.o, BI.o, ME.o, ME.rv, is_o, eq_int, cmp_int, overT, nop_cmp, nop_chain, nop_and, nop_or, nop_not, nop_call, nop_bi, nop_ite, nop_ix, nop_v, nop_int, nop_op, nop_neg, nop_nop, wE_lc_cmp, wE_lc_chain, wE_lc_and, wE_lc_or, wE_lc_not, wE_lc_call, wE_lc_bi, wE_lc_ite, wE_lc_ix, wE_lc_v, List.replicate_succ, List.replicate_zero, Nat.reduceAdd, Nat.reduceSub, oT_s, oT_n, eq_io, eq_oi, is_i, is_n, Bool.xor_true, Bool.xor_false, Bool.false_xor, Bool.true_xor, Bool.not_true, Bool.not_false, mk_t, bodyC_n, bodyC_n1, bodyD_n, cTuple, seqOf]
    have e : (List.range lo.ws.length).map (fun s => oT (sAt rk s)) = rk.map oT := by
      refine List.ext_getElem (by simp [hl]) fun i h1 h2 => ?_
      rw [List.getElem_map, List.getElem_range, List.getElem_map]
      congr 1
      rw [List.length_map] at h2
      unfold sAt
      rw [List.getD_eq_getElem?_getD, List.getElem?_eq_getElem h2]
      rfl
    rw [e]
    exact rtn q
def sp_silent_ways_from : TSp := fun ts H Q => ∃ (lo u : Wd) (sn : List (Option Int)) (s a : Nat), ts = [encW lo, encW u, oTs sn, nT s] ∧ lo.Ok ∧ sn.length = lo.ws.length ∧ s < lo.ws.length ∧ sAt sn s = some (a : Int) ∧ a < u.ws.length ∧ Q (.lst ((silN lo u sn s).map nT)) H
theorem w_silent_ways_from {C : Nat → TSp} (h4 : C 4 = sp_is_silent_way) (ts : List T) (H : TH) (Q : TL.KT) (h : sp_silent_ways_from ts H Q) : wSs C b_silent_ways_from (bodyEnds Q) (start0 n_silent_ways_from ts) H := by
  obtain ⟨lo, u, sn, s, a, rfl, ok, hl, hs, ha, hu, q⟩ := h
  have hnx := nx_len ok s
  have e1 := sAt_some (hl.symm ▸ hs)
  rw [ha] at e1
  simp only [b_silent_ways_from, start0, n_silent_ways_from, wSs_cons, wSs_nil, wS_set, wS_unp, wS_setix, wS_aug, wS_expr, wS_ret, wS_retN, wS_ife, wS_for, wS_while, wS_pass, wS_brk, wS_cont, wE_v, wE_non, wE_bl, wE_int, wE_str, wE_neg, wE_op, wE_cmp, wE_chain, wE_and, wE_or, wE_not, wE_ite, wE_ix, wE_sl, wE_tup, wE_lst, wE_dnew, wE_call, wE_bi, wE_isi, wE_me, wE_lc0, wE_dc, wE_sset, wE_frz, wEs_nil, wEs_cons, wI_over, wI_rng1, wI_rng2, List.map_cons, List.map_nil, List.length_cons, List.length_nil, List.cons_append, List.nil_append, lk_0, lk_s, st_0, st_s, ix_0, ix_1, ix_2, Op2.o, Cm.o, BI.o, ME.o, ME.rv, is_o, eq_int, cmp_int, overT, nop_cmp, nop_chain, nop_and, nop_or, nop_not, nop_call, nop_bi, nop_ite, nop_ix, nop_v, nop_int, nop_op, nop_neg, nop_nop, wE_lc_cmp, wE_lc_chain, wE_lc_and, wE_lc_or, wE_lc_not, wE_lc_call, wE_lc_bi, wE_lc_ite, wE_lc_ix, wE_lc_v, List.replicate_succ, List.replicate_zero, Nat.reduceAdd, Nat.reduceSub, oT_s, oT_n, eq_io, eq_oi, is_i, is_n, Bool.xor_true, Bool.xor_false, Bool.false_xor, Bool.true_xor, Bool.not_true, Bool.not_false, mk_t, bodyC_n, bodyC_n1, bodyD_n, ix_at (nx_some hs)]
  refine lc_filter (α := Nat) (enc := nT) (f := nT) (p := fun t => silent (seenN sn s) (nx u (seenN sn s)) (sAt sn t)) trivial (fun t ht G g => ?_) (sz (by omega)) (rtn q)
  simp only [wSs_cons, wSs_nil, wS_set, wS_unp, wS_setix, wS_aug, wS_expr, wS_ret, wS_retN, wS_ife, wS_for, wS_while, wS_pass, wS_brk, wS_cont, wE_v, wE_non, wE_bl, wE_int, wE_str, wE_neg, wE_op, wE_cmp, wE_chain, wE_and, wE_or, wE_not, wE_ite, wE_ix, wE_sl, wE_tup, wE_lst, wE_dnew, wE_call, wE_bi, wE_isi, wE_me, wE_lc0, wE_dc, wE_sset, wE_frz, wEs_nil, wEs_cons, wI_over, wI_rng1, wI_rng2, List.map_cons, List.map_nil, List.length_cons, List.length_nil, List.cons_append, List.nil_append, lk_0, lk_s, st_0, st_s, ix_0, ix_1, ix_2, Op2.o, Cm.o, BI.o, ME.o, ME.rv, is_o, eq_int, cmp_int, overT, nop_cmp, nop_chain, nop_and, nop_or, nop_not, nop_call, nop_bi, nop_ite, nop_ix, nop_v, nop_int, nop_op, nop_neg, nop_nop, wE_lc_cmp, wE_lc_chain, wE_lc_and, wE_lc_or, wE_lc_not, wE_lc_call, wE_lc_bi, wE_lc_ite, wE_lc_ix, wE_lc_v, List.replicate_succ, List.replicate_zero, Nat.reduceAdd, Nat.reduceSub, oT_s, oT_n, eq_io, eq_oi, is_i, is_n, Bool.xor_true, Bool.xor_false, Bool.false_xor, Bool.true_xor, Bool.not_true, Bool.not_false, mk_t, bodyC_n, bodyC_n1, bodyD_n, h4]
  refine ⟨u, sn, s, t, a, nx u a, _, rfl, e1, nx_some hu, sAt_some (hl.symm ▸ nx_lt ok ht), ?_⟩
  rw [seenN_eq ha] at g
  cases z : silent a (nx u a) (sAt sn t) with
  | true => simpa only [z, if_true] using g
  | false => simpa only [z, if_false, Bool.false_eq_true] using g
def sp_rank_by_silent : TSp := fun ts H Q => ∃ (lo : Wd) (rk : List (Option Int)) (o sil : List Nat) (g : Addr), ts = [.ref g, .lst (sil.map nT)] ∧ H g = some (.dk (tds (rkI rk) o)) ∧ Told lo rk o ∧ sil.length ≤ 60 ∧ Q (oT (rankOf rk sil)) H
theorem w_rank_by_silent {C : Nat → TSp} (ts : List T) (H : TH) (Q : TL.KT) (h : sp_rank_by_silent ts H Q) : wSs C b_rank_by_silent (bodyEnds Q) (start0 n_rank_by_silent ts) H := by
  obtain ⟨lo, rk, o, sil, g, rfl, hg, t, hl, q⟩ := h
  simp only [b_rank_by_silent, start0, n_rank_by_silent, wSs_cons, wSs_nil, wS_set, wS_unp, wS_setix, wS_aug, wS_expr, wS_ret, wS_retN, wS_ife, wS_for, wS_while, wS_pass, wS_brk, wS_cont, wE_v, wE_non, wE_bl, wE_int, wE_str, wE_neg, wE_op, wE_cmp, wE_chain, wE_and, wE_or, wE_not, wE_ite, wE_ix, wE_sl, wE_tup, wE_lst, wE_dnew, wE_call, wE_bi, wE_isi, wE_me, wE_lc0, wE_dc, wE_sset, wE_frz, wEs_nil, wEs_cons, wI_over, wI_rng1, wI_rng2, List.map_cons, List.map_nil, List.length_cons, List.length_nil, List.cons_append, List.nil_append, lk_0, lk_s, st_0, st_s, ix_0, ix_1, ix_2, Op2.o, Cm.o, BI.o, ME.o, ME.rv, is_o, eq_int, cmp_int, overT, nop_cmp, nop_chain, nop_and, nop_or, nop_not, nop_call, nop_bi, nop_ite, nop_ix, nop_v, nop_int, nop_op, nop_neg, nop_nop, wE_lc_cmp, wE_lc_chain, wE_lc_and, wE_lc_or, wE_lc_not, wE_lc_call, wE_lc_bi, wE_lc_ite, wE_lc_ix, wE_lc_v, List.replicate_succ, List.replicate_zero, Nat.reduceAdd, Nat.reduceSub, oT_s, oT_n, eq_io, eq_oi, is_i, is_n, Bool.xor_true, Bool.xor_false, Bool.false_xor, Bool.true_xor, Bool.not_true, Bool.not_false, mk_t, bodyC_n, bodyC_n1, bodyD_n]
  refine lc_map (α := Nat) (enc := nT) (f := fun t => .bl (decide (t ∈ o))) trivial (fun s hs G g' => ?_) (sz (by omega)) ?_
  · simp only [wSs_cons, wSs_nil, wS_set, wS_unp, wS_setix, wS_aug, wS_expr, wS_ret, wS_retN, wS_ife, wS_for, wS_while, wS_pass, wS_brk, wS_cont, wE_v, wE_non, wE_bl, wE_int, wE_str, wE_neg, wE_op, wE_cmp, wE_chain, wE_and, wE_or, wE_not, wE_ite, wE_ix, wE_sl, wE_tup, wE_lst, wE_dnew, wE_call, wE_bi, wE_isi, wE_me, wE_lc0, wE_dc, wE_sset, wE_frz, wEs_nil, wEs_cons, wI_over, wI_rng1, wI_rng2, List.map_cons, List.map_nil, List.length_cons, List.length_nil, List.cons_append, List.nil_append, lk_0, lk_s, st_0, st_s, ix_0, ix_1, ix_2, Op2.o, Cm.o, BI.o, ME.o, ME.rv, is_o, eq_int, cmp_int, overT, nop_cmp, nop_chain, nop_and, nop_or, nop_not, nop_call, nop_bi, nop_ite, nop_ix, nop_v, nop_int, nop_op, nop_neg, nop_nop, wE_lc_cmp, wE_lc_chain, wE_lc_and, wE_lc_or, wE_lc_not, wE_lc_call, wE_lc_bi, wE_lc_ite, wE_lc_ix, wE_lc_v, List.replicate_succ, List.replicate_zero, Nat.reduceAdd, Nat.reduceSub, oT_s, oT_n, eq_io, eq_oi, is_i, is_n, Bool.xor_true, Bool.xor_false, Bool.false_xor, Bool.true_xor, Bool.not_true, Bool.not_false, mk_t, bodyC_n, bodyC_n1, bodyD_n, in_tds hg]
    exact g'
  have e : (sil.all fun t => decide (t ∈ o)) = sil.all fun t => (sAt rk t).isSome := by
    rw [Bool.eq_iff_iff, List.all_eq_true, List.all_eq_true]
    exact ⟨fun h x hx => (t.mem x).mp (of_decide_eq_true (h x hx)), fun h x hx => decide_eq_true ((t.mem x).mpr (h x hx))⟩
  simp only [wSs_cons, wSs_nil, wS_set, wS_unp, wS_setix, wS_aug, wS_expr, wS_ret, wS_retN, wS_ife, wS_for, wS_while, wS_pass, wS_brk, wS_cont, wE_v, wE_non, wE_bl, wE_int, wE_str, wE_neg, wE_op, wE_cmp, wE_chain, wE_and, wE_or, wE_not, wE_ite, wE_ix, wE_sl, wE_tup, wE_lst, wE_dnew, wE_call, wE_bi, wE_isi, wE_me, wE_lc0, wE_dc, wE_sset, wE_frz, wEs_nil, wEs_cons, wI_over, wI_rng1, wI_rng2, List.map_cons, List.map_nil, List.length_cons, List.length_nil, List.cons_append, List.nil_append, lk_0, lk_s, st_0, st_s, ix_0, ix_1, ix_2, Op2.o, Cm.o, BI.o, ME.o, ME.rv, is_o, eq_int, cmp_int, overT, nop_cmp, nop_chain, nop_and, nop_or, nop_not, nop_call, nop_bi, nop_ite, nop_ix, nop_v, nop_int, nop_op, nop_neg, nop_nop, wE_lc_cmp, wE_lc_chain, wE_lc_and, wE_lc_or, wE_lc_not, wE_lc_call, wE_lc_bi, wE_lc_ite, wE_lc_ix, wE_lc_v, List.replicate_succ, List.replicate_zero, Nat.reduceAdd, Nat.reduceSub, oT_s, oT_n, eq_io, eq_oi, is_i, is_n, Bool.xor_true, Bool.xor_false, Bool.false_xor, Bool.true_xor, Bool.not_true, Bool.not_false, mk_t, bodyC_n, bodyC_n1, bodyD_n, all_bl, e]
  unfold rankOf at q
  cases z : sil.all fun t => (sAt rk t).isSome with
  | false =>
    rw [if_neg (by rw [z]; exact Bool.false_ne_true)] at q
    simp only [Bool.not_false]
    exact rtn q
  | true =>
    rw [if_pos z] at q
    simp only [Bool.not_true, wSs_cons, wSs_nil, wS_set, wS_unp, wS_setix, wS_aug, wS_expr, wS_ret, wS_retN, wS_ife, wS_for, wS_while, wS_pass, wS_brk, wS_cont, wE_v, wE_non, wE_bl, wE_int, wE_str, wE_neg, wE_op, wE_cmp, wE_chain, wE_and, wE_or, wE_not, wE_ite, wE_ix, wE_sl, wE_tup, wE_lst, wE_dnew, wE_call, wE_bi, wE_isi, wE_me, wE_lc0, wE_dc, wE_sset, wE_frz, wEs_nil, wEs_cons, wI_over, wI_rng1, wI_rng2, List.map_cons, List.map_nil, List.length_cons, List.length_nil, List.cons_append, List.nil_append, lk_0, lk_s, st_0, st_s, ix_0, ix_1, ix_2, Op2.o, Cm.o, BI.o, ME.o, ME.rv, is_o, eq_int, cmp_int, overT, nop_cmp, nop_chain, nop_and, nop_or, nop_not, nop_call, nop_bi, nop_ite, nop_ix, nop_v, nop_int, nop_op, nop_neg, nop_nop, wE_lc_cmp, wE_lc_chain, wE_lc_and, wE_lc_or, wE_lc_not, wE_lc_call, wE_lc_bi, wE_lc_ite, wE_lc_ix, wE_lc_v, List.replicate_succ, List.replicate_zero, Nat.reduceAdd, Nat.reduceSub, oT_s, oT_n, eq_io, eq_oi, is_i, is_n, Bool.xor_true, Bool.xor_false, Bool.false_xor, Bool.true_xor, Bool.not_true, Bool.not_false, mk_t, bodyC_n, bodyC_n1, bodyD_n]
    refine ⟨sz (by decide), ?_⟩
    refine lc_map (α := Nat) (enc := nT) (f := fun t => .int (rkI rk t)) trivial (fun s hs G g' => ?_) (sz (by omega)) ?_
    · have := List.all_eq_true.mp z s hs
      simp only [wSs_cons, wSs_nil, wS_set, wS_unp, wS_setix, wS_aug, wS_expr, wS_ret, wS_retN, wS_ife, wS_for, wS_while, wS_pass, wS_brk, wS_cont, wE_v, wE_non, wE_bl, wE_int, wE_str, wE_neg, wE_op, wE_cmp, wE_chain, wE_and, wE_or, wE_not, wE_ite, wE_ix, wE_sl, wE_tup, wE_lst, wE_dnew, wE_call, wE_bi, wE_isi, wE_me, wE_lc0, wE_dc, wE_sset, wE_frz, wEs_nil, wEs_cons, wI_over, wI_rng1, wI_rng2, List.map_cons, List.map_nil, List.length_cons, List.length_nil, List.cons_append, List.nil_append, lk_0, lk_s, st_0, st_s, ix_0, ix_1, ix_2, Op2.o, Cm.o, BI.o, ME.o, ME.rv, is_o, eq_int, cmp_int, overT, nop_cmp, nop_chain, nop_and, nop_or, nop_not, nop_call, nop_bi, nop_ite, nop_ix, nop_v, nop_int, nop_op, nop_neg, nop_nop, wE_lc_cmp, wE_lc_chain, wE_lc_and, wE_lc_or, wE_lc_not, wE_lc_call, wE_lc_bi, wE_lc_ite, wE_lc_ix, wE_lc_v, List.replicate_succ, List.replicate_zero, Nat.reduceAdd, Nat.reduceSub, oT_s, oT_n, eq_io, eq_oi, is_i, is_n, Bool.xor_true, Bool.xor_false, Bool.false_xor, Bool.true_xor, Bool.not_true, Bool.not_false, mk_t, bodyC_n, bodyC_n1, bodyD_n, ix_tds hg ((t.mem s).mpr this)]
      exact g'
    · simp only [wSs_cons, wSs_nil, wS_set, wS_unp, wS_setix, wS_aug, wS_expr, wS_ret, wS_retN, wS_ife, wS_for, wS_while, wS_pass, wS_brk, wS_cont, wE_v, wE_non, wE_bl, wE_int, wE_str, wE_neg, wE_op, wE_cmp, wE_chain, wE_and, wE_or, wE_not, wE_ite, wE_ix, wE_sl, wE_tup, wE_lst, wE_dnew, wE_call, wE_bi, wE_isi, wE_me, wE_lc0, wE_dc, wE_sset, wE_frz, wEs_nil, wEs_cons, wI_over, wI_rng1, wI_rng2, List.map_cons, List.map_nil, List.length_cons, List.length_nil, List.cons_append, List.nil_append, lk_0, lk_s, st_0, st_s, ix_0, ix_1, ix_2, Op2.o, Cm.o, BI.o, ME.o, ME.rv, is_o, eq_int, cmp_int, overT, nop_cmp, nop_chain, nop_and, nop_or, nop_not, nop_call, nop_bi, nop_ite, nop_ix, nop_v, nop_int, nop_op, nop_neg, nop_nop, wE_lc_cmp, wE_lc_chain, wE_lc_and, wE_lc_or, wE_lc_not, wE_lc_call, wE_lc_bi, wE_lc_ite, wE_lc_ix, wE_lc_v, List.replicate_succ, List.replicate_zero, Nat.reduceAdd, Nat.reduceSub, oT_s, oT_n, eq_io, eq_oi, is_i, is_n, Bool.xor_true, Bool.xor_false, Bool.false_xor, Bool.true_xor, Bool.not_true, Bool.not_false, mk_t, bodyC_n, bodyC_n1, bodyD_n, add_ll]
      refine ⟨sz (by simp; omega), ?_⟩
      have e2 : (T.int (-1) :: sil.map fun t => T.int (rkI rk t)) = (-1 :: sil.map (rkI rk)).map T.int := by
        rw [List.map_cons, List.map_map]
        rfl
      rw [e2]
      simp only [max_ints]
      refine ⟨List.cons_ne_nil _ _, ?_⟩
      simp only [add_ii]
      exact rtn q
def sp_longest_silent_rows : TSp := fun ts H Q => ∃ (lo u : Wd) (sn rk : List (Option Int)), ts = [encW lo, encW u, nTs (stt lo), oTs sn] ∧ Ctx lo u sn rk ∧ (∀ s ∈ stt lo, ∃ a : Nat, sAt sn s = some (a : Int) ∧ a < u.ws.length) ∧
  ∀ g o, H g = none → Told lo (ranksN lo u sn) o → Q (.ref g) (up H g (.dk (tds (rkI (ranksN lo u sn)) o)))
theorem w_longest_silent_rows {C : Nat → TSp} (h20 : C 20 = sp_silent_ways_from) (h21 : C 21 = sp_rank_by_silent) (ts : List T) (H : TH) (Q : TL.KT) (h : sp_longest_silent_rows ts H Q) : wSs C b_longest_silent_rows (bodyEnds Q) (start0 n_longest_silent_rows ts) H := by
  obtain ⟨lo, u, sn, rk0, rfl, c, sd, q⟩ := h
  simp only [b_longest_silent_rows, start0, n_longest_silent_rows, wSs_cons, wSs_nil, wS_set, wS_unp, wS_setix, wS_aug, wS_expr, wS_ret, wS_retN, wS_ife, wS_for, wS_while, wS_pass, wS_brk, wS_cont, wE_v, wE_non, wE_bl, wE_int, wE_str, wE_neg, wE_op, wE_cmp, wE_chain, wE_and, wE_or, wE_not, wE_ite, wE_ix, wE_sl, wE_tup, wE_lst, wE_dnew, wE_call, wE_bi, wE_isi, wE_me, wE_lc0, wE_dc, wE_sset, wE_frz, wEs_nil, wEs_cons, wI_over, wI_rng1, wI_rng2, List.map_cons, List.map_nil, List.length_cons, List.length_nil, List.cons_append, List.nil_append, lk_0, lk_s, st_0, st_s, ix_0, ix_1, ix_2, Op2.o, Cm.o, BI.o, ME.o, ME.rv, is_o, eq_int, cmp_int, overT, nop_cmp, nop_chain, nop_and, nop_or, nop_not, nop_call, nop_bi, nop_ite, nop_ix, nop_v, nop_int, nop_op, nop_neg, nop_nop, wE_lc_cmp, wE_lc_chain, wE_lc_and, wE_lc_or, wE_lc_not, wE_lc_call, wE_lc_bi, wE_lc_ite, wE_lc_ix, wE_lc_v, List.replicate_succ, List.replicate_zero, Nat.reduceAdd, Nat.reduceSub, oT_s, oT_n, eq_io, eq_oi, is_i, is_n, Bool.xor_true, Bool.xor_false, Bool.false_xor, Bool.true_xor, Bool.not_true, Bool.not_false, mk_t, bodyC_n, bodyC_n1, bodyD_n]
  intro g hg
  have inner : ∀ (r : List Nat) (rk : List (Option Int)) (o : List Nat) (x y z : Option T) (D : TEnds), (∀ s ∈ r, s ∈ stt lo) → rk.length = lo.ws.length → Told lo rk o →
      (∀ o' x z, Told lo (r.foldl (rkStep lo u sn) rk) o' → D.nx [some (encW lo), some (encW u), some (nTs (stt lo)), some (oTs sn), some (.ref g), y, x, z] (up H g (.dk (tds (rkI (r.foldl (rkStep lo u sn) rk)) o')))) →
      forGo (fun _ => True) (loopB C (.n 6) b_longest_silent_rows_L1) (r.map nT) D [some (encW lo), some (encW u), some (nTs (stt lo)), some (oTs sn), some (.ref g), y, x, z] (up H g (.dk (tds (rkI rk) o))) := by
    intro r
    induction r with
    | nil =>
      intro rk o x y z D _ _ t hn
      simp only [List.map_nil, forGo_nil, true_and]
      exact hn o x z t
    | cons s r ih =>
      intro rk o x y z D hr hl t hn
      have hs := hr s List.mem_cons_self
      have hr' := fun a ha => hr a (List.mem_cons_of_mem _ ha)
      obtain ⟨a, ha, hau⟩ := sd s hs
      simp only [List.map_cons, forGo_cons, loopB_n, b_longest_silent_rows_L1, wSs_cons, wSs_nil, wS_set, wS_unp, wS_setix, wS_aug, wS_expr, wS_ret, wS_retN, wS_ife, wS_for, wS_while, wS_pass, wS_brk, wS_cont, wE_v, wE_non, wE_bl, wE_int, wE_str, wE_neg, wE_op, wE_cmp, wE_chain, wE_and, wE_or, wE_not, wE_ite, wE_ix, wE_sl, wE_tup, wE_lst, wE_dnew, wE_call, wE_bi, wE_isi, wE_me, wE_lc0, wE_dc, wE_sset, wE_frz, wEs_nil, wEs_cons, wI_over, wI_rng1, wI_rng2, List.map_cons, List.map_nil, List.length_cons, List.length_nil, List.cons_append, List.nil_append, lk_0, lk_s, st_0, st_s, ix_0, ix_1, ix_2, Op2.o, Cm.o, BI.o, ME.o, ME.rv, is_o, eq_int, cmp_int, overT, nop_cmp, nop_chain, nop_and, nop_or, nop_not, nop_call, nop_bi, nop_ite, nop_ix, nop_v, nop_int, nop_op, nop_neg, nop_nop, wE_lc_cmp, wE_lc_chain, wE_lc_and, wE_lc_or, wE_lc_not, wE_lc_call, wE_lc_bi, wE_lc_ite, wE_lc_ix, wE_lc_v, List.replicate_succ, List.replicate_zero, Nat.reduceAdd, Nat.reduceSub, oT_s, oT_n, eq_io, eq_oi, is_i, is_n, Bool.xor_true, Bool.xor_false, Bool.false_xor, Bool.true_xor, Bool.not_true, Bool.not_false, mk_t, bodyC_n, bodyC_n1, bodyD_n, true_and, h20, h21]
      refine ⟨lo, u, sn, s, a, rfl, c.okl, c.sn, stt_lt hs, ha, hau, ?_⟩
      have hsl : (silN lo u sn s).length ≤ 60 := Nat.le_trans (List.length_filter_le ..) (nx_len c.okl s)
      refine ⟨lo, rk, o, silN lo u sn s, g, rfl, up_same, t, hsl, ?_⟩
      rw [List.foldl_cons] at hn
      cases e : rankOf rk (silN lo u sn s) with
      | none =>
        simp only [wSs_cons, wSs_nil, wS_set, wS_unp, wS_setix, wS_aug, wS_expr, wS_ret, wS_retN, wS_ife, wS_for, wS_while, wS_pass, wS_brk, wS_cont, wE_v, wE_non, wE_bl, wE_int, wE_str, wE_neg, wE_op, wE_cmp, wE_chain, wE_and, wE_or, wE_not, wE_ite, wE_ix, wE_sl, wE_tup, wE_lst, wE_dnew, wE_call, wE_bi, wE_isi, wE_me, wE_lc0, wE_dc, wE_sset, wE_frz, wEs_nil, wEs_cons, wI_over, wI_rng1, wI_rng2, List.map_cons, List.map_nil, List.length_cons, List.length_nil, List.cons_append, List.nil_append, lk_0, lk_s, st_0, st_s, ix_0, ix_1, ix_2, Op2.o, Cm.o, BI.o, ME.o, ME.rv, is_o, eq_int, cmp_int, overT, nop_cmp, nop_chain, nop_and, nop_or, nop_not, nop_call, nop_bi, nop_ite, nop_ix, nop_v, nop_int, nop_op, nop_neg, nop_nop, wE_lc_cmp, wE_lc_chain, wE_lc_and, wE_lc_or, wE_lc_not, wE_lc_call, wE_lc_bi, wE_lc_ite, wE_lc_ix, wE_lc_v, List.replicate_succ, List.replicate_zero, Nat.reduceAdd, Nat.reduceSub, oT_s, oT_n, eq_io, eq_oi, is_i, is_n, Bool.xor_true, Bool.xor_false, Bool.false_xor, Bool.true_xor, Bool.not_true, Bool.not_false, mk_t, bodyC_n, bodyC_n1, bodyD_n]
        rw [show rkStep lo u sn rk s = rk by unfold rkStep; rw [e]] at hn
        exact ih rk o _ _ _ D hr' hl t hn
      | some k =>
        have hk : s < rk.length := hl.symm ▸ stt_lt hs
        simp only [oT_s, wSs_cons, wSs_nil, wS_set, wS_unp, wS_setix, wS_aug, wS_expr, wS_ret, wS_retN, wS_ife, wS_for, wS_while, wS_pass, wS_brk, wS_cont, wE_v, wE_non, wE_bl, wE_int, wE_str, wE_neg, wE_op, wE_cmp, wE_chain, wE_and, wE_or, wE_not, wE_ite, wE_ix, wE_sl, wE_tup, wE_lst, wE_dnew, wE_call, wE_bi, wE_isi, wE_me, wE_lc0, wE_dc, wE_sset, wE_frz, wEs_nil, wEs_cons, wI_over, wI_rng1, wI_rng2, List.map_cons, List.map_nil, List.length_cons, List.length_nil, List.cons_append, List.nil_append, lk_0, lk_s, st_0, st_s, ix_0, ix_1, ix_2, Op2.o, Cm.o, BI.o, ME.o, ME.rv, is_o, eq_int, cmp_int, overT, nop_cmp, nop_chain, nop_and, nop_or, nop_not, nop_call, nop_bi, nop_ite, nop_ix, nop_v, nop_int, nop_op, nop_neg, nop_nop, wE_lc_cmp, wE_lc_chain, wE_lc_and, wE_lc_or, wE_lc_not, wE_lc_call, wE_lc_bi, wE_lc_ite, wE_lc_ix, wE_lc_v, List.replicate_succ, List.replicate_zero, Nat.reduceAdd, Nat.reduceSub, oT_s, oT_n, eq_io, eq_oi, is_i, is_n, Bool.xor_true, Bool.xor_false, Bool.false_xor, Bool.true_xor, Bool.not_true, Bool.not_false, mk_t, bodyC_n, bodyC_n1, bodyD_n, set_d up_same key_i, Told.tds_set hk, up_up, len_tds]
        rw [show rkStep lo u sn rk s = rk.set s (some k) by unfold rkStep; rw [e]] at hn
        have hlen := t.len c.okl
        refine ⟨sz' (by omega), ?_⟩
        exact ih (rk.set s (some k)) _ _ _ _ D hr' (by rw [List.length_set]; exact hl) (t.set hs hk) hn
  have outer : ∀ (r : List Nat) (rk : List (Option Int)) (o : List Nat) (x y z : Option T), rk.length = lo.ws.length → Told lo rk o → r.foldl (fun rk _ => rkRound lo u sn rk) rk = ranksN lo u sn →
      forGo (fun _ => True) (loopB C (.n 5) b_longest_silent_rows_L2) (r.map nT) { nx := wSs C (.cons (.ret (.v 4)) .nil) (bodyEnds Q), rt := (bodyEnds Q).rt, bk := (bodyEnds Q).bk, ct := (bodyEnds Q).ct }
        [some (encW lo), some (encW u), some (nTs (stt lo)), some (oTs sn), some (.ref g), y, x, z] (up H g (.dk (tds (rkI rk) o))) := by
    intro r
    induction r with
    | nil =>
      intro rk o x y z hl t e
      rw [List.foldl_nil] at e
      subst e
      simp only [List.map_nil, forGo_nil, wSs_cons, wSs_nil, wS_set, wS_unp, wS_setix, wS_aug, wS_expr, wS_ret, wS_retN, wS_ife, wS_for, wS_while, wS_pass, wS_brk, wS_cont, wE_v, wE_non, wE_bl, wE_int, wE_str, wE_neg, wE_op, wE_cmp, wE_chain, wE_and, wE_or, wE_not, wE_ite, wE_ix, wE_sl, wE_tup, wE_lst, wE_dnew, wE_call, wE_bi, wE_isi, wE_me, wE_lc0, wE_dc, wE_sset, wE_frz, wEs_nil, wEs_cons, wI_over, wI_rng1, wI_rng2, List.map_cons, List.map_nil, List.length_cons, List.length_nil, List.cons_append, List.nil_append, lk_0, lk_s, st_0, st_s, ix_0, ix_1, ix_2, Op2.o, Cm.o, BI.o, ME.o, ME.rv, is_o, eq_int, cmp_int, overT, nop_cmp, nop_chain, nop_and, nop_or, nop_not, nop_call, nop_bi, nop_ite, nop_ix, nop_v, nop_int, nop_op, nop_neg, nop_nop, wE_lc_cmp, wE_lc_chain, wE_lc_and, wE_lc_or, wE_lc_not, wE_lc_call, wE_lc_bi, wE_lc_ite, wE_lc_ix, wE_lc_v, List.replicate_succ, List.replicate_zero, Nat.reduceAdd, Nat.reduceSub, oT_s, oT_n, eq_io, eq_oi, is_i, is_n, Bool.xor_true, Bool.xor_false, Bool.false_xor, Bool.true_xor, Bool.not_true, Bool.not_false, mk_t, bodyC_n, bodyC_n1, bodyD_n, true_and]
      exact rtn (q g o hg t)
    | cons s r ih =>
      intro rk o x y z hl t e
      rw [List.foldl_cons] at e
      simp only [List.map_cons, forGo_cons, loopB_n, b_longest_silent_rows_L2, wSs_cons, wSs_nil, wS_set, wS_unp, wS_setix, wS_aug, wS_expr, wS_ret, wS_retN, wS_ife, wS_for, wS_while, wS_pass, wS_brk, wS_cont, wE_v, wE_non, wE_bl, wE_int, wE_str, wE_neg, wE_op, wE_cmp, wE_chain, wE_and, wE_or, wE_not, wE_ite, wE_ix, wE_sl, wE_tup, wE_lst, wE_dnew, wE_call, wE_bi, wE_isi, wE_me, wE_lc0, wE_dc, wE_sset, wE_frz, wEs_nil, wEs_cons, wI_over, wI_rng1, wI_rng2, List.map_cons, List.map_nil, List.length_cons, List.length_nil, List.cons_append, List.nil_append, lk_0, lk_s, st_0, st_s, ix_0, ix_1, ix_2, Op2.o, Cm.o, BI.o, ME.o, ME.rv, is_o, eq_int, cmp_int, overT, nop_cmp, nop_chain, nop_and, nop_or, nop_not, nop_call, nop_bi, nop_ite, nop_ix, nop_v, nop_int, nop_op, nop_neg, nop_nop, wE_lc_cmp, wE_lc_chain, wE_lc_and, wE_lc_or, wE_lc_not, wE_lc_call, wE_lc_bi, wE_lc_ite, wE_lc_ix, wE_lc_v, List.replicate_succ, List.replicate_zero, Nat.reduceAdd, Nat.reduceSub, oT_s, oT_n, eq_io, eq_oi, is_i, is_n, Bool.xor_true, Bool.xor_false, Bool.false_xor, Bool.true_xor, Bool.not_true, Bool.not_false, mk_t, bodyC_n, bodyC_n1, bodyD_n, true_and]
      refine inner (stt lo) rk o _ _ _ _ (fun s hs => hs) hl t fun o' x' z' t' => ?_
      simp only [wSs_cons, wSs_nil, wS_set, wS_unp, wS_setix, wS_aug, wS_expr, wS_ret, wS_retN, wS_ife, wS_for, wS_while, wS_pass, wS_brk, wS_cont, wE_v, wE_non, wE_bl, wE_int, wE_str, wE_neg, wE_op, wE_cmp, wE_chain, wE_and, wE_or, wE_not, wE_ite, wE_ix, wE_sl, wE_tup, wE_lst, wE_dnew, wE_call, wE_bi, wE_isi, wE_me, wE_lc0, wE_dc, wE_sset, wE_frz, wEs_nil, wEs_cons, wI_over, wI_rng1, wI_rng2, List.map_cons, List.map_nil, List.length_cons, List.length_nil, List.cons_append, List.nil_append, lk_0, lk_s, st_0, st_s, ix_0, ix_1, ix_2, Op2.o, Cm.o, BI.o, ME.o, ME.rv, is_o, eq_int, cmp_int, overT, nop_cmp, nop_chain, nop_and, nop_or, nop_not, nop_call, nop_bi, nop_ite, nop_ix, nop_v, nop_int, nop_op, nop_neg, nop_nop, wE_lc_cmp, wE_lc_chain, wE_lc_and, wE_lc_or, wE_lc_not, wE_lc_call, wE_lc_bi, wE_lc_ite, wE_lc_ix, wE_lc_v, List.replicate_succ, List.replicate_zero, Nat.reduceAdd, Nat.reduceSub, oT_s, oT_n, eq_io, eq_oi, is_i, is_n, Bool.xor_true, Bool.xor_false, Bool.false_xor, Bool.true_xor, Bool.not_true, Bool.not_false, mk_t, bodyC_n, bodyC_n1, bodyD_n]
      exact ih (rkRound lo u sn rk) o' _ _ _ (by unfold rkRound; rw [rkFold_len]; exact hl) t' e
  refine outer (stt lo) (List.replicate lo.ws.length none) [] _ _ _ (by rw [List.length_replicate]) ⟨.nil, fun s hs => (nomatch hs), fun s => ?_⟩ rfl
  have : sAt (List.replicate lo.ws.length (none : Option Int)) s = none := by
    unfold sAt
    rw [List.getD_eq_getElem?_getD, List.getElem?_replicate]
    split <;> rfl
  rw [this]
  simp
def lsr (lo u : Wd) (sn : List (Option Int)) : Option (List (Option Int)) :=
  if ((stt lo).all fun s => seenThere u (sAt sn s)) = true then (if ((stt lo).any fun s => (sAt (ranksN lo u sn) s).isNone) = true then none else if breaches lo u sn (ranksN lo u sn) = [] then some (ranksN lo u sn) else none) else none
def oTsO : Option (List (Option Int)) → T
  | none => .non
  | some l => oTs l
def sp_least_step_ranks : TSp := fun ts H Q => ∃ (lo u : Wd) (sn rk : List (Option Int)), ts = [encW lo, encW u, oTs sn] ∧ Ctx lo u sn rk ∧ Q (oTsO (lsr lo u sn)) H
theorem w_least_step_ranks {C : Nat → TSp} (h0 : C 0 = sp_states_come_to) (h3 : C 3 = sp_is_seen_there) (h16 : C 16 = sp_judge_in_step) (h19 : C 19 = sp_at_states_come_to) (h22 : C 22 = sp_longest_silent_rows) (ts : List T) (H : TH) (Q : TL.KT) (h : sp_least_step_ranks ts H Q) : wSs C b_least_step_ranks (bodyEnds Q) (start0 n_least_step_ranks ts) H := by
  obtain ⟨lo, u, sn, rk0, rfl, c, q⟩ := h
  have hS := stt60 c.okl
  simp only [b_least_step_ranks, start0, n_least_step_ranks, wSs_cons, wSs_nil, wS_set, wS_unp, wS_setix, wS_aug, wS_expr, wS_ret, wS_retN, wS_ife, wS_for, wS_while, wS_pass, wS_brk, wS_cont, wE_v, wE_non, wE_bl, wE_int, wE_str, wE_neg, wE_op, wE_cmp, wE_chain, wE_and, wE_or, wE_not, wE_ite, wE_ix, wE_sl, wE_tup, wE_lst, wE_dnew, wE_call, wE_bi, wE_isi, wE_me, wE_lc0, wE_dc, wE_sset, wE_frz, wEs_nil, wEs_cons, wI_over, wI_rng1, wI_rng2, List.map_cons, List.map_nil, List.length_cons, List.length_nil, List.cons_append, List.nil_append, lk_0, lk_s, st_0, st_s, ix_0, ix_1, ix_2, Op2.o, Cm.o, BI.o, ME.o, ME.rv, is_o, eq_int, cmp_int, overT, nop_cmp, nop_chain, nop_and, nop_or, nop_not, nop_call, nop_bi, nop_ite, nop_ix, nop_v, nop_int, nop_op, nop_neg, nop_nop, wE_lc_cmp, wE_lc_chain, wE_lc_and, wE_lc_or, wE_lc_not, wE_lc_call, wE_lc_bi, wE_lc_ite, wE_lc_ix, wE_lc_v, List.replicate_succ, List.replicate_zero, Nat.reduceAdd, Nat.reduceSub, oT_s, oT_n, eq_io, eq_oi, is_i, is_n, Bool.xor_true, Bool.xor_false, Bool.false_xor, Bool.true_xor, Bool.not_true, Bool.not_false, mk_t, bodyC_n, bodyC_n1, bodyD_n, h0, h22]
  refine ⟨lo, rfl, c.okl, ?_⟩
  simp only [wSs_cons, wSs_nil, wS_set, wS_unp, wS_setix, wS_aug, wS_expr, wS_ret, wS_retN, wS_ife, wS_for, wS_while, wS_pass, wS_brk, wS_cont, wE_v, wE_non, wE_bl, wE_int, wE_str, wE_neg, wE_op, wE_cmp, wE_chain, wE_and, wE_or, wE_not, wE_ite, wE_ix, wE_sl, wE_tup, wE_lst, wE_dnew, wE_call, wE_bi, wE_isi, wE_me, wE_lc0, wE_dc, wE_sset, wE_frz, wEs_nil, wEs_cons, wI_over, wI_rng1, wI_rng2, List.map_cons, List.map_nil, List.length_cons, List.length_nil, List.cons_append, List.nil_append, lk_0, lk_s, st_0, st_s, ix_0, ix_1, ix_2, Op2.o, Cm.o, BI.o, ME.o, ME.rv, is_o, eq_int, cmp_int, overT, nop_cmp, nop_chain, nop_and, nop_or, nop_not, nop_call, nop_bi, nop_ite, nop_ix, nop_v, nop_int, nop_op, nop_neg, nop_nop, wE_lc_cmp, wE_lc_chain, wE_lc_and, wE_lc_or, wE_lc_not, wE_lc_call, wE_lc_bi, wE_lc_ite, wE_lc_ix, wE_lc_v, List.replicate_succ, List.replicate_zero, Nat.reduceAdd, Nat.reduceSub, oT_s, oT_n, eq_io, eq_oi, is_i, is_n, Bool.xor_true, Bool.xor_false, Bool.false_xor, Bool.true_xor, Bool.not_true, Bool.not_false, mk_t, bodyC_n, bodyC_n1, bodyD_n]
  refine lc_map (α := Nat) (enc := nT) (f := fun s => .bl (seenThere u (sAt sn s))) trivial (fun s hs G g => ?_) (sz (by omega)) ?_
  · simp only [wSs_cons, wSs_nil, wS_set, wS_unp, wS_setix, wS_aug, wS_expr, wS_ret, wS_retN, wS_ife, wS_for, wS_while, wS_pass, wS_brk, wS_cont, wE_v, wE_non, wE_bl, wE_int, wE_str, wE_neg, wE_op, wE_cmp, wE_chain, wE_and, wE_or, wE_not, wE_ite, wE_ix, wE_sl, wE_tup, wE_lst, wE_dnew, wE_call, wE_bi, wE_isi, wE_me, wE_lc0, wE_dc, wE_sset, wE_frz, wEs_nil, wEs_cons, wI_over, wI_rng1, wI_rng2, List.map_cons, List.map_nil, List.length_cons, List.length_nil, List.cons_append, List.nil_append, lk_0, lk_s, st_0, st_s, ix_0, ix_1, ix_2, Op2.o, Cm.o, BI.o, ME.o, ME.rv, is_o, eq_int, cmp_int, overT, nop_cmp, nop_chain, nop_and, nop_or, nop_not, nop_call, nop_bi, nop_ite, nop_ix, nop_v, nop_int, nop_op, nop_neg, nop_nop, wE_lc_cmp, wE_lc_chain, wE_lc_and, wE_lc_or, wE_lc_not, wE_lc_call, wE_lc_bi, wE_lc_ite, wE_lc_ix, wE_lc_v, List.replicate_succ, List.replicate_zero, Nat.reduceAdd, Nat.reduceSub, oT_s, oT_n, eq_io, eq_oi, is_i, is_n, Bool.xor_true, Bool.xor_false, Bool.false_xor, Bool.true_xor, Bool.not_true, Bool.not_false, mk_t, bodyC_n, bodyC_n1, bodyD_n, ix_at (sAt_some (c.s1 hs)), h3]
    exact ⟨u, _, rfl, g⟩
  simp only [wSs_cons, wSs_nil, wS_set, wS_unp, wS_setix, wS_aug, wS_expr, wS_ret, wS_retN, wS_ife, wS_for, wS_while, wS_pass, wS_brk, wS_cont, wE_v, wE_non, wE_bl, wE_int, wE_str, wE_neg, wE_op, wE_cmp, wE_chain, wE_and, wE_or, wE_not, wE_ite, wE_ix, wE_sl, wE_tup, wE_lst, wE_dnew, wE_call, wE_bi, wE_isi, wE_me, wE_lc0, wE_dc, wE_sset, wE_frz, wEs_nil, wEs_cons, wI_over, wI_rng1, wI_rng2, List.map_cons, List.map_nil, List.length_cons, List.length_nil, List.cons_append, List.nil_append, lk_0, lk_s, st_0, st_s, ix_0, ix_1, ix_2, Op2.o, Cm.o, BI.o, ME.o, ME.rv, is_o, eq_int, cmp_int, overT, nop_cmp, nop_chain, nop_and, nop_or, nop_not, nop_call, nop_bi, nop_ite, nop_ix, nop_v, nop_int, nop_op, nop_neg, nop_nop, wE_lc_cmp, wE_lc_chain, wE_lc_and, wE_lc_or, wE_lc_not, wE_lc_call, wE_lc_bi, wE_lc_ite, wE_lc_ix, wE_lc_v, List.replicate_succ, List.replicate_zero, Nat.reduceAdd, Nat.reduceSub, oT_s, oT_n, eq_io, eq_oi, is_i, is_n, Bool.xor_true, Bool.xor_false, Bool.false_xor, Bool.true_xor, Bool.not_true, Bool.not_false, mk_t, bodyC_n, bodyC_n1, bodyD_n, all_bl]
  unfold lsr at q
  cases e : (stt lo).all fun s => seenThere u (sAt sn s) with
  | false =>
    rw [if_neg (by rw [e]; exact Bool.false_ne_true)] at q
    simp only [Bool.not_false]
    exact rtn q
  | true =>
    rw [if_pos e] at q
    simp only [Bool.not_true, wSs_cons, wSs_nil, wS_set, wS_unp, wS_setix, wS_aug, wS_expr, wS_ret, wS_retN, wS_ife, wS_for, wS_while, wS_pass, wS_brk, wS_cont, wE_v, wE_non, wE_bl, wE_int, wE_str, wE_neg, wE_op, wE_cmp, wE_chain, wE_and, wE_or, wE_not, wE_ite, wE_ix, wE_sl, wE_tup, wE_lst, wE_dnew, wE_call, wE_bi, wE_isi, wE_me, wE_lc0, wE_dc, wE_sset, wE_frz, wEs_nil, wEs_cons, wI_over, wI_rng1, wI_rng2, List.map_cons, List.map_nil, List.length_cons, List.length_nil, List.cons_append, List.nil_append, lk_0, lk_s, st_0, st_s, ix_0, ix_1, ix_2, Op2.o, Cm.o, BI.o, ME.o, ME.rv, is_o, eq_int, cmp_int, overT, nop_cmp, nop_chain, nop_and, nop_or, nop_not, nop_call, nop_bi, nop_ite, nop_ix, nop_v, nop_int, nop_op, nop_neg, nop_nop, wE_lc_cmp, wE_lc_chain, wE_lc_and, wE_lc_or, wE_lc_not, wE_lc_call, wE_lc_bi, wE_lc_ite, wE_lc_ix, wE_lc_v, List.replicate_succ, List.replicate_zero, Nat.reduceAdd, Nat.reduceSub, oT_s, oT_n, eq_io, eq_oi, is_i, is_n, Bool.xor_true, Bool.xor_false, Bool.false_xor, Bool.true_xor, Bool.not_true, Bool.not_false, mk_t, bodyC_n, bodyC_n1, bodyD_n]
    refine ⟨lo, u, sn, rk0, rfl, c, fun s hs => seenThere_some (List.all_eq_true.mp e s hs), fun g o hg t => ?_⟩
    simp only [len_d up_same, len_map, len_tds, wSs_cons, wSs_nil, wS_set, wS_unp, wS_setix, wS_aug, wS_expr, wS_ret, wS_retN, wS_ife, wS_for, wS_while, wS_pass, wS_brk, wS_cont, wE_v, wE_non, wE_bl, wE_int, wE_str, wE_neg, wE_op, wE_cmp, wE_chain, wE_and, wE_or, wE_not, wE_ite, wE_ix, wE_sl, wE_tup, wE_lst, wE_dnew, wE_call, wE_bi, wE_isi, wE_me, wE_lc0, wE_dc, wE_sset, wE_frz, wEs_nil, wEs_cons, wI_over, wI_rng1, wI_rng2, List.map_cons, List.map_nil, List.length_cons, List.length_nil, List.cons_append, List.nil_append, lk_0, lk_s, st_0, st_s, ix_0, ix_1, ix_2, Op2.o, Cm.o, BI.o, ME.o, ME.rv, is_o, eq_int, cmp_int, overT, nop_cmp, nop_chain, nop_and, nop_or, nop_not, nop_call, nop_bi, nop_ite, nop_ix, nop_v, nop_int, nop_op, nop_neg, nop_nop, wE_lc_cmp, wE_lc_chain, wE_lc_and, wE_lc_or, wE_lc_not, wE_lc_call, wE_lc_bi, wE_lc_ite, wE_lc_ix, wE_lc_v, List.replicate_succ, List.replicate_zero, Nat.reduceAdd, Nat.reduceSub, oT_s, oT_n, eq_io, eq_oi, is_i, is_n, Bool.xor_true, Bool.xor_false, Bool.false_xor, Bool.true_xor, Bool.not_true, Bool.not_false, mk_t, bodyC_n, bodyC_n1, bodyD_n, t.lt]
    cases e2 : (stt lo).any fun s => (sAt (ranksN lo u sn) s).isNone with
    | true =>
      rw [if_pos e2] at q
      exact rts (sub_up hg) q
    | false =>
      rw [if_neg (by rw [e2]; exact Bool.false_ne_true)] at q
      simp only [wSs_cons, wSs_nil, wS_set, wS_unp, wS_setix, wS_aug, wS_expr, wS_ret, wS_retN, wS_ife, wS_for, wS_while, wS_pass, wS_brk, wS_cont, wE_v, wE_non, wE_bl, wE_int, wE_str, wE_neg, wE_op, wE_cmp, wE_chain, wE_and, wE_or, wE_not, wE_ite, wE_ix, wE_sl, wE_tup, wE_lst, wE_dnew, wE_call, wE_bi, wE_isi, wE_me, wE_lc0, wE_dc, wE_sset, wE_frz, wEs_nil, wEs_cons, wI_over, wI_rng1, wI_rng2, List.map_cons, List.map_nil, List.length_cons, List.length_nil, List.cons_append, List.nil_append, lk_0, lk_s, st_0, st_s, ix_0, ix_1, ix_2, Op2.o, Cm.o, BI.o, ME.o, ME.rv, is_o, eq_int, cmp_int, overT, nop_cmp, nop_chain, nop_and, nop_or, nop_not, nop_call, nop_bi, nop_ite, nop_ix, nop_v, nop_int, nop_op, nop_neg, nop_nop, wE_lc_cmp, wE_lc_chain, wE_lc_and, wE_lc_or, wE_lc_not, wE_lc_call, wE_lc_bi, wE_lc_ite, wE_lc_ix, wE_lc_v, List.replicate_succ, List.replicate_zero, Nat.reduceAdd, Nat.reduceSub, oT_s, oT_n, eq_io, eq_oi, is_i, is_n, Bool.xor_true, Bool.xor_false, Bool.false_xor, Bool.true_xor, Bool.not_true, Bool.not_false, mk_t, bodyC_n, bodyC_n1, bodyD_n, h19]
      refine ⟨lo, ranksN lo u sn, o, g, rfl, c.okl, ranksN_len, up_same, t, ?_⟩
      simp only [wSs_cons, wSs_nil, wS_set, wS_unp, wS_setix, wS_aug, wS_expr, wS_ret, wS_retN, wS_ife, wS_for, wS_while, wS_pass, wS_brk, wS_cont, wE_v, wE_non, wE_bl, wE_int, wE_str, wE_neg, wE_op, wE_cmp, wE_chain, wE_and, wE_or, wE_not, wE_ite, wE_ix, wE_sl, wE_tup, wE_lst, wE_dnew, wE_call, wE_bi, wE_isi, wE_me, wE_lc0, wE_dc, wE_sset, wE_frz, wEs_nil, wEs_cons, wI_over, wI_rng1, wI_rng2, List.map_cons, List.map_nil, List.length_cons, List.length_nil, List.cons_append, List.nil_append, lk_0, lk_s, st_0, st_s, ix_0, ix_1, ix_2, Op2.o, Cm.o, BI.o, ME.o, ME.rv, is_o, eq_int, cmp_int, overT, nop_cmp, nop_chain, nop_and, nop_or, nop_not, nop_call, nop_bi, nop_ite, nop_ix, nop_v, nop_int, nop_op, nop_neg, nop_nop, wE_lc_cmp, wE_lc_chain, wE_lc_and, wE_lc_or, wE_lc_not, wE_lc_call, wE_lc_bi, wE_lc_ite, wE_lc_ix, wE_lc_v, List.replicate_succ, List.replicate_zero, Nat.reduceAdd, Nat.reduceSub, oT_s, oT_n, eq_io, eq_oi, is_i, is_n, Bool.xor_true, Bool.xor_false, Bool.false_xor, Bool.true_xor, Bool.not_true, Bool.not_false, mk_t, bodyC_n, bodyC_n1, bodyD_n, h16]
      refine ⟨lo, u, sn, ranksN lo u sn, rfl, ⟨c.okl, c.oku, c.sn, ranksN_len⟩, ?_⟩
      by_cases e3 : breaches lo u sn (ranksN lo u sn) = []
      · rw [if_pos e3] at q
        simp only [e3, decide_true]
        exact rts (sub_up hg) q
      · rw [if_neg e3] at q
        simp only [e3, decide_false]
        exact rts (sub_up hg) q
end K80
set_option maxRecDepth 100000
set_option maxHeartbeats 1000000
namespace K80
open PySem PySem.Spec L2 TL
theorem ix_latn {α : Type} {f : α → T} {l : List α} {n : Nat} {a : α} {H : TH} {Q : TL.KT} (h : l[n]? = some a) : oIx (.lst (l.map f)) (.int (n : Int)) H Q = Q (f a) H := by
  have e : atI (l.map f) (n : Int) = some (f a) := atI_nat (by rw [List.getElem?_map, h]; rfl)
  simp only [oIx, seqOf, e]
theorem in_rnats {H : TH} {p : Addr} {n : Nat} {l : List Nat} {Q : TL.KT} {neg : Bool} (e : H p = some (.lst (l.map nT))) : oIn neg (.int (n : Int)) (.ref p) H Q = Q (.bl (neg ^^ decide (n ∈ l))) H := by
  simp only [oIn, seqOf, e, flat_nats, flatT, inT_nat, and_self, true_and]
/-- one object of a def's own -/
structure One (H : TH) (q : Addr) (A : TL.TO) (Hx : TH) : Prop where
  n : H q = none
  q : Hx q = some A
  sub : Sub H Hx
theorem One.mk0 {H : TH} {q : Addr} {A : TL.TO} (h : H q = none) : One H q A (up H q A) := ⟨h, up_same, sub_up h⟩
theorem One.set {H : TH} {q : Addr} {A B : TL.TO} {Hx : TH} (h : One H q A Hx) : One H q B (up Hx q B) := ⟨h.n, up_same, fun a o e => by rw [up_ne (ne_up e h.n)]; exact h.sub a o e⟩
theorem One.new {H : TH} {q r : Addr} {A B : TL.TO} {Hx : TH} (h : One H q A Hx) (n : Hx r = none) : One H r B (up Hx r B) := by
  have n0 : H r = none := by
    cases w : H r with
    | none => rfl
    | some o =>
      have := h.sub r o w
      rw [n] at this
      cases this
  exact ⟨n0, up_same, fun a o e => by rw [up_ne (ne_up e n0)]; exact h.sub a o e⟩
theorem One.del {H : TH} {q : Addr} {A : TL.TO} {Hx : TH} (h : One H q A Hx) : Sub H (del Hx q) := fun a o e => by
  show (if a = q then none else Hx a) = some o
  rw [if_neg (ne_up e h.n)]
  exact h.sub a o e
/-! ### _law_come_to -/
def sp_law_come_to : TSp := fun ts H Q => ∃ w : Wd, ts = [encW w, nTs w.bs] ∧ w.Ok ∧ Q (nTs (stt w)) H
theorem w_law_come_to {C : Nat → TSp} (ts : List T) (H : TH) (Q : TL.KT) (h : sp_law_come_to ts H Q) : wSs C b__law_come_to (bodyEnds Q) (start0 n__law_come_to ts) H := by
  obtain ⟨w, rfl, ok, q⟩ := h
  have hsm := ok.small
  simp only [b__law_come_to, start0, n__law_come_to, wSs_cons, wSs_nil, wS_set, wS_unp, wS_setix, wS_aug, wS_expr, wS_ret, wS_retN, wS_ife, wS_for, wS_while, wS_pass, wS_brk, wS_cont, wE_v, wE_non, wE_bl, wE_int, wE_str, wE_neg, wE_op, wE_cmp, wE_chain, wE_and, wE_or, wE_not, wE_ite, wE_ix, wE_sl, wE_tup, wE_lst, wE_dnew, wE_call, wE_bi, wE_isi, wE_me, wE_lc0, wE_dc, wE_sset, wE_frz, wEs_nil, wEs_cons, wI_over, wI_rng1, wI_rng2, List.map_cons, List.map_nil, List.length_cons, List.length_nil, List.cons_append, List.nil_append, lk_0, lk_s, st_0, st_s, ix_0, ix_1, ix_2, Op2.o, Cm.o, BI.o, ME.o, ME.rv, is_o, eq_int, cmp_int, overT, nop_cmp, nop_chain, nop_and, nop_or, nop_not, nop_call, nop_bi, nop_ite, nop_ix, nop_v, nop_int, nop_op, nop_neg, nop_nop, wE_lc_cmp, wE_lc_chain, wE_lc_and, wE_lc_or, wE_lc_not, wE_lc_call, wE_lc_bi, wE_lc_ite, wE_lc_ix, wE_lc_v, List.replicate_succ, List.replicate_zero, Nat.reduceAdd, Nat.reduceSub, oT_s, oT_n, eq_io, eq_oi, is_i, is_n, Bool.xor_true, Bool.xor_false, Bool.false_xor, Bool.true_xor, Bool.not_true, Bool.not_false, mk_t, bodyC_n, bodyC_n1, bodyD_n, cList, seqOf, mk_t, len_map, rng_n (show w.ws.length ≤ 16777216 by omega)]
  have loop : ∀ (r : List Nat) (k : Nat) (x y : Option T), r = List.range' k (w.ws.length - k) → k ≤ w.ws.length →
      forGo (fun _ => True) (loopB C (.n 3) b__law_come_to_L1) (r.map nT) { nx := wSs C (.cons (.ret (.bi .tuple (.cons (.bi (.sorted true) (.cons (.v 2) .nil)) .nil))) .nil) (bodyEnds Q), rt := (bodyEnds Q).rt, bk := (bodyEnds Q).bk, ct := (bodyEnds Q).ct }
        [some (encW w), some (nTs w.bs), some (.lst (((List.range k).foldl (lawF w) w.bs).map nT)), x, y] H := by
    intro r
    induction r with
    | nil =>
      intro k x y e hk
      have e0 : w.ws.length - k = 0 := by
        have := congrArg List.length e
        rw [List.length_range'] at this
        exact this.symm
      have ek : k = w.ws.length := by omega
      subst ek
      have hb : (List.range w.ws.length).foldl (lawF w) w.bs = bfs w w.bs := rfl
      rw [hb]
      have hi : asInts ((bfs w w.bs).map nT) = some (ofN (bfs w w.bs)) := by
        rw [← ints_ofN]
        exact asInts_map _
      have hso := sort_stt ok (bfs_inv ok ok.bnd w.ws.length).nd fun t => bfs_iff ok ok.bnd ok.bin
      rw [hb] at hso
      simp only [List.map_nil, forGo_nil, wSs_cons, wSs_nil, wS_set, wS_unp, wS_setix, wS_aug, wS_expr, wS_ret, wS_retN, wS_ife, wS_for, wS_while, wS_pass, wS_brk, wS_cont, wE_v, wE_non, wE_bl, wE_int, wE_str, wE_neg, wE_op, wE_cmp, wE_chain, wE_and, wE_or, wE_not, wE_ite, wE_ix, wE_sl, wE_tup, wE_lst, wE_dnew, wE_call, wE_bi, wE_isi, wE_me, wE_lc0, wE_dc, wE_sset, wE_frz, wEs_nil, wEs_cons, wI_over, wI_rng1, wI_rng2, List.map_cons, List.map_nil, List.length_cons, List.length_nil, List.cons_append, List.nil_append, lk_0, lk_s, st_0, st_s, ix_0, ix_1, ix_2, Op2.o, Cm.o, BI.o, ME.o, ME.rv, is_o, eq_int, cmp_int, overT, nop_cmp, nop_chain, nop_and, nop_or, nop_not, nop_call, nop_bi, nop_ite, nop_ix, nop_v, nop_int, nop_op, nop_neg, nop_nop, wE_lc_cmp, wE_lc_chain, wE_lc_and, wE_lc_or, wE_lc_not, wE_lc_call, wE_lc_bi, wE_lc_ite, wE_lc_ix, wE_lc_v, List.replicate_succ, List.replicate_zero, Nat.reduceAdd, Nat.reduceSub, oT_s, oT_n, eq_io, eq_oi, is_i, is_n, Bool.xor_true, Bool.xor_false, Bool.false_xor, Bool.true_xor, Bool.not_true, Bool.not_false, mk_t, bodyC_n, bodyC_n1, bodyD_n, true_and, cSorted, seqOf, hi, hso, mk_t, cTuple, ints_ofN]
      exact rtn q
    | cons i r ih =>
      intro k x y e hk
      have hlt : k < w.ws.length := by
        have := congrArg List.length e
        rw [List.length_range', List.length_cons] at this
        omega
      have e2 : w.ws.length - k = (w.ws.length - (k + 1)) + 1 := by omega
      rw [e2, List.range'_succ] at e
      injection e with e3 e4
      subst e3
      have inv := bfs_inv ok ok.bnd i
      have hlen : ((List.range i).foldl (lawF w) w.bs).length ≤ 60 := Nat.le_trans (nd_len inv.nd fun x hx => rch_lt ok ok.bin (inv.rch x hx)) ok.small
      have nxt : (List.range (i + 1)).foldl (lawF w) w.bs = lawF w ((List.range i).foldl (lawF w) w.bs) i := by
        rw [List.range_succ, List.foldl_append]
        rfl
      have ih2 := ih (i + 1)
      rw [nxt] at ih2
      simp only [List.map_cons, forGo_cons, loopB_n, b__law_come_to_L1, wSs_cons, wSs_nil, wS_set, wS_unp, wS_setix, wS_aug, wS_expr, wS_ret, wS_retN, wS_ife, wS_for, wS_while, wS_pass, wS_brk, wS_cont, wE_v, wE_non, wE_bl, wE_int, wE_str, wE_neg, wE_op, wE_cmp, wE_chain, wE_and, wE_or, wE_not, wE_ite, wE_ix, wE_sl, wE_tup, wE_lst, wE_dnew, wE_call, wE_bi, wE_isi, wE_me, wE_lc0, wE_dc, wE_sset, wE_frz, wEs_nil, wEs_cons, wI_over, wI_rng1, wI_rng2, List.map_cons, List.map_nil, List.length_cons, List.length_nil, List.cons_append, List.nil_append, lk_0, lk_s, st_0, st_s, ix_0, ix_1, ix_2, Op2.o, Cm.o, BI.o, ME.o, ME.rv, is_o, eq_int, cmp_int, overT, nop_cmp, nop_chain, nop_and, nop_or, nop_not, nop_call, nop_bi, nop_ite, nop_ix, nop_v, nop_int, nop_op, nop_neg, nop_nop, wE_lc_cmp, wE_lc_chain, wE_lc_and, wE_lc_or, wE_lc_not, wE_lc_call, wE_lc_bi, wE_lc_ite, wE_lc_ix, wE_lc_v, List.replicate_succ, List.replicate_zero, Nat.reduceAdd, Nat.reduceSub, oT_s, oT_n, eq_io, eq_oi, is_i, is_n, Bool.xor_true, Bool.xor_false, Bool.false_xor, Bool.true_xor, Bool.not_true, Bool.not_false, mk_t, bodyC_n, bodyC_n1, bodyD_n, true_and, len_lmap]
      generalize (List.range i).foldl (lawF w) w.bs = f at *
      by_cases c : i < f.length
      · have c' : (i : Int) < (f.length : Int) := by omega
        have hf : f[i]? = some f[i] := List.getElem?_eq_getElem c
        have hs : f[i] < w.ws.length := rch_lt ok ok.bin (inv.rch _ (List.getElem_mem c))
        simp only [c', decide_true, wSs_cons, wSs_nil, wS_set, wS_unp, wS_setix, wS_aug, wS_expr, wS_ret, wS_retN, wS_ife, wS_for, wS_while, wS_pass, wS_brk, wS_cont, wE_v, wE_non, wE_bl, wE_int, wE_str, wE_neg, wE_op, wE_cmp, wE_chain, wE_and, wE_or, wE_not, wE_ite, wE_ix, wE_sl, wE_tup, wE_lst, wE_dnew, wE_call, wE_bi, wE_isi, wE_me, wE_lc0, wE_dc, wE_sset, wE_frz, wEs_nil, wEs_cons, wI_over, wI_rng1, wI_rng2, List.map_cons, List.map_nil, List.length_cons, List.length_nil, List.cons_append, List.nil_append, lk_0, lk_s, st_0, st_s, ix_0, ix_1, ix_2, Op2.o, Cm.o, BI.o, ME.o, ME.rv, is_o, eq_int, cmp_int, overT, nop_cmp, nop_chain, nop_and, nop_or, nop_not, nop_call, nop_bi, nop_ite, nop_ix, nop_v, nop_int, nop_op, nop_neg, nop_nop, wE_lc_cmp, wE_lc_chain, wE_lc_and, wE_lc_or, wE_lc_not, wE_lc_call, wE_lc_bi, wE_lc_ite, wE_lc_ix, wE_lc_v, List.replicate_succ, List.replicate_zero, Nat.reduceAdd, Nat.reduceSub, oT_s, oT_n, eq_io, eq_oi, is_i, is_n, Bool.xor_true, Bool.xor_false, Bool.false_xor, Bool.true_xor, Bool.not_true, Bool.not_false, mk_t, bodyC_n, bodyC_n1, bodyD_n, ix_latn hf, ix_at (nx_some hs)]
        have hr := nx_len ok f[i]
        refine lc_filter (α := Nat) (enc := nT) (f := nT) (p := fun t => decide (t ∉ f)) trivial (fun t ht G g => ?_) (sz (by omega)) ?_
        · simp only [wSs_cons, wSs_nil, wS_set, wS_unp, wS_setix, wS_aug, wS_expr, wS_ret, wS_retN, wS_ife, wS_for, wS_while, wS_pass, wS_brk, wS_cont, wE_v, wE_non, wE_bl, wE_int, wE_str, wE_neg, wE_op, wE_cmp, wE_chain, wE_and, wE_or, wE_not, wE_ite, wE_ix, wE_sl, wE_tup, wE_lst, wE_dnew, wE_call, wE_bi, wE_isi, wE_me, wE_lc0, wE_dc, wE_sset, wE_frz, wEs_nil, wEs_cons, wI_over, wI_rng1, wI_rng2, List.map_cons, List.map_nil, List.length_cons, List.length_nil, List.cons_append, List.nil_append, lk_0, lk_s, st_0, st_s, ix_0, ix_1, ix_2, Op2.o, Cm.o, BI.o, ME.o, ME.rv, is_o, eq_int, cmp_int, overT, nop_cmp, nop_chain, nop_and, nop_or, nop_not, nop_call, nop_bi, nop_ite, nop_ix, nop_v, nop_int, nop_op, nop_neg, nop_nop, wE_lc_cmp, wE_lc_chain, wE_lc_and, wE_lc_or, wE_lc_not, wE_lc_call, wE_lc_bi, wE_lc_ite, wE_lc_ix, wE_lc_v, List.replicate_succ, List.replicate_zero, Nat.reduceAdd, Nat.reduceSub, oT_s, oT_n, eq_io, eq_oi, is_i, is_n, Bool.xor_true, Bool.xor_false, Bool.false_xor, Bool.true_xor, Bool.not_true, Bool.not_false, mk_t, bodyC_n, bodyC_n1, bodyD_n, in_lnats]
          by_cases m : t ∈ f
          · simp only [m, decide_true, Bool.not_true]
            simpa [m] using g
          · simp only [m, decide_false, Bool.not_false]
            simpa [m] using g
        · simp only [mk_t, add_ll, wSs_cons, wSs_nil, wS_set, wS_unp, wS_setix, wS_aug, wS_expr, wS_ret, wS_retN, wS_ife, wS_for, wS_while, wS_pass, wS_brk, wS_cont, wE_v, wE_non, wE_bl, wE_int, wE_str, wE_neg, wE_op, wE_cmp, wE_chain, wE_and, wE_or, wE_not, wE_ite, wE_ix, wE_sl, wE_tup, wE_lst, wE_dnew, wE_call, wE_bi, wE_isi, wE_me, wE_lc0, wE_dc, wE_sset, wE_frz, wEs_nil, wEs_cons, wI_over, wI_rng1, wI_rng2, List.map_cons, List.map_nil, List.length_cons, List.length_nil, List.cons_append, List.nil_append, lk_0, lk_s, st_0, st_s, ix_0, ix_1, ix_2, Op2.o, Cm.o, BI.o, ME.o, ME.rv, is_o, eq_int, cmp_int, overT, nop_cmp, nop_chain, nop_and, nop_or, nop_not, nop_call, nop_bi, nop_ite, nop_ix, nop_v, nop_int, nop_op, nop_neg, nop_nop, wE_lc_cmp, wE_lc_chain, wE_lc_and, wE_lc_or, wE_lc_not, wE_lc_call, wE_lc_bi, wE_lc_ite, wE_lc_ix, wE_lc_v, List.replicate_succ, List.replicate_zero, Nat.reduceAdd, Nat.reduceSub, oT_s, oT_n, eq_io, eq_oi, is_i, is_n, Bool.xor_true, Bool.xor_false, Bool.false_xor, Bool.true_xor, Bool.not_true, Bool.not_false, mk_t, bodyC_n, bodyC_n1, bodyD_n]
          have hfr : ((nx w f[i]).filter fun t => decide (t ∉ f)).length ≤ (nx w f[i]).length := List.length_filter_le ..
          refine ⟨sz (by rw [List.length_map, List.length_map]; omega), ?_⟩
          have e5 : f.map nT ++ ((nx w f[i]).filter fun t => decide (t ∉ f)).map nT = (lawF w f i).map nT := by
            unfold lawF
            rw [hf, List.map_append]
          rw [e5]
          exact ih2 _ _ e4 (by omega)
      · have c' : ¬ (i : Int) < (f.length : Int) := by omega
        simp only [c', decide_false]
        have e5 : lawF w f i = f := by
          unfold lawF
          rw [List.getElem?_eq_none (by omega)]
        rw [e5] at ih2
        exact ih2 _ _ e4 (by omega)
  exact loop (List.range w.ws.length) 0 none none (by rw [List.range_eq_range', Nat.sub_zero]) (Nat.zero_le _)
/-! ### _law_sees -/
theorem w_law_sees {C : Nat → TSp} (ts : List T) (H : TH) (Q : TL.KT) (h : sp_states_seeing ts H Q) : wSs C b__law_sees (bodyEnds Q) (start0 n__law_sees ts) H := by
  obtain ⟨S, sn, o, rfl, hS, hl, q⟩ := h
  simp only [b__law_sees, start0, n__law_sees, wSs_cons, wSs_nil, wS_set, wS_unp, wS_setix, wS_aug, wS_expr, wS_ret, wS_retN, wS_ife, wS_for, wS_while, wS_pass, wS_brk, wS_cont, wE_v, wE_non, wE_bl, wE_int, wE_str, wE_neg, wE_op, wE_cmp, wE_chain, wE_and, wE_or, wE_not, wE_ite, wE_ix, wE_sl, wE_tup, wE_lst, wE_dnew, wE_call, wE_bi, wE_isi, wE_me, wE_lc0, wE_dc, wE_sset, wE_frz, wEs_nil, wEs_cons, wI_over, wI_rng1, wI_rng2, List.map_cons, List.map_nil, List.length_cons, List.length_nil, List.cons_append, List.nil_append, lk_0, lk_s, st_0, st_s, ix_0, ix_1, ix_2, Op2.o, Cm.o, BI.o, ME.o, ME.rv, is_o, eq_int, cmp_int, overT, nop_cmp, nop_chain, nop_and, nop_or, nop_not, nop_call, nop_bi, nop_ite, nop_ix, nop_v, nop_int, nop_op, nop_neg, nop_nop, wE_lc_cmp, wE_lc_chain, wE_lc_and, wE_lc_or, wE_lc_not, wE_lc_call, wE_lc_bi, wE_lc_ite, wE_lc_ix, wE_lc_v, List.replicate_succ, List.replicate_zero, Nat.reduceAdd, Nat.reduceSub, oT_s, oT_n, eq_io, eq_oi, is_i, is_n, Bool.xor_true, Bool.xor_false, Bool.false_xor, Bool.true_xor, Bool.not_true, Bool.not_false, mk_t, bodyC_n, bodyC_n1, bodyD_n]
  refine lc_filter (p := fun s => decide (sAt sn s = o)) (f := nT) trivial (fun s hs G g => ?_) (sz (by omega)) (rtn q)
  simp only [wSs_cons, wSs_nil, wS_set, wS_unp, wS_setix, wS_aug, wS_expr, wS_ret, wS_retN, wS_ife, wS_for, wS_while, wS_pass, wS_brk, wS_cont, wE_v, wE_non, wE_bl, wE_int, wE_str, wE_neg, wE_op, wE_cmp, wE_chain, wE_and, wE_or, wE_not, wE_ite, wE_ix, wE_sl, wE_tup, wE_lst, wE_dnew, wE_call, wE_bi, wE_isi, wE_me, wE_lc0, wE_dc, wE_sset, wE_frz, wEs_nil, wEs_cons, wI_over, wI_rng1, wI_rng2, List.map_cons, List.map_nil, List.length_cons, List.length_nil, List.cons_append, List.nil_append, lk_0, lk_s, st_0, st_s, ix_0, ix_1, ix_2, Op2.o, Cm.o, BI.o, ME.o, ME.rv, is_o, eq_int, cmp_int, overT, nop_cmp, nop_chain, nop_and, nop_or, nop_not, nop_call, nop_bi, nop_ite, nop_ix, nop_v, nop_int, nop_op, nop_neg, nop_nop, wE_lc_cmp, wE_lc_chain, wE_lc_and, wE_lc_or, wE_lc_not, wE_lc_call, wE_lc_bi, wE_lc_ite, wE_lc_ix, wE_lc_v, List.replicate_succ, List.replicate_zero, Nat.reduceAdd, Nat.reduceSub, oT_s, oT_n, eq_io, eq_oi, is_i, is_n, Bool.xor_true, Bool.xor_false, Bool.false_xor, Bool.true_xor, Bool.not_true, Bool.not_false, mk_t, bodyC_n, bodyC_n1, bodyD_n, ix_at (sAt_some (hS s hs)), eq_o]
  by_cases h : sAt sn s = o
  · simpa only [h, decide_true, if_true] using g
  · simpa only [h, decide_false, Bool.false_eq_true, if_false] using g
/-! ### _law_comes -/
def sp_law_comes : TSp := fun ts H Q => ∃ (lo : Wd) (sn : List (Option Int)) (s u : Nat), ts = [encW lo, nTs (stt lo), oTs sn, nT s, nT u] ∧ lo.Ok ∧ sn.length = lo.ws.length ∧ s ∈ stt lo ∧ Q (.bl (comesB lo sn (stt lo) s (u : Int))) H
theorem w_law_comes {C : Nat → TSp} (h30 : C 30 = sp_states_seeing) (ts : List T) (H : TH) (Q : TL.KT) (h : sp_law_comes ts H Q) : wSs C b__law_comes (bodyEnds Q) (start0 n__law_comes ts) H := by
  obtain ⟨lo, sn, s, u, rfl, ok, hsn, hs, q⟩ := h
  have hsm := ok.small
  have hS := stt60 ok
  have hin : ∀ t ∈ stt lo, t < sn.length := fun t ht => hsn.symm ▸ stt_lt ht
  simp only [b__law_comes, start0, n__law_comes, wSs_cons, wSs_nil, wS_set, wS_unp, wS_setix, wS_aug, wS_expr, wS_ret, wS_retN, wS_ife, wS_for, wS_while, wS_pass, wS_brk, wS_cont, wE_v, wE_non, wE_bl, wE_int, wE_str, wE_neg, wE_op, wE_cmp, wE_chain, wE_and, wE_or, wE_not, wE_ite, wE_ix, wE_sl, wE_tup, wE_lst, wE_dnew, wE_call, wE_bi, wE_isi, wE_me, wE_lc0, wE_dc, wE_sset, wE_frz, wEs_nil, wEs_cons, wI_over, wI_rng1, wI_rng2, List.map_cons, List.map_nil, List.length_cons, List.length_nil, List.cons_append, List.nil_append, lk_0, lk_s, st_0, st_s, ix_0, ix_1, ix_2, Op2.o, Cm.o, BI.o, ME.o, ME.rv, is_o, eq_int, cmp_int, overT, nop_cmp, nop_chain, nop_and, nop_or, nop_not, nop_call, nop_bi, nop_ite, nop_ix, nop_v, nop_int, nop_op, nop_neg, nop_nop, wE_lc_cmp, wE_lc_chain, wE_lc_and, wE_lc_or, wE_lc_not, wE_lc_call, wE_lc_bi, wE_lc_ite, wE_lc_ix, wE_lc_v, List.replicate_succ, List.replicate_zero, Nat.reduceAdd, Nat.reduceSub, oT_s, oT_n, eq_io, eq_oi, is_i, is_n, Bool.xor_true, Bool.xor_false, Bool.false_xor, Bool.true_xor, Bool.not_true, Bool.not_false, mk_t, bodyC_n, bodyC_n1, bodyD_n, ix_at (sAt_some (hin s hs)), h30]
  refine ⟨stt lo, sn, _, rfl, hin, by omega, sz (by decide), ?_⟩
  simp only [mk_f, wSs_cons, wSs_nil, wS_set, wS_unp, wS_setix, wS_aug, wS_expr, wS_ret, wS_retN, wS_ife, wS_for, wS_while, wS_pass, wS_brk, wS_cont, wE_v, wE_non, wE_bl, wE_int, wE_str, wE_neg, wE_op, wE_cmp, wE_chain, wE_and, wE_or, wE_not, wE_ite, wE_ix, wE_sl, wE_tup, wE_lst, wE_dnew, wE_call, wE_bi, wE_isi, wE_me, wE_lc0, wE_dc, wE_sset, wE_frz, wEs_nil, wEs_cons, wI_over, wI_rng1, wI_rng2, List.map_cons, List.map_nil, List.length_cons, List.length_nil, List.cons_append, List.nil_append, lk_0, lk_s, st_0, st_s, ix_0, ix_1, ix_2, Op2.o, Cm.o, BI.o, ME.o, ME.rv, is_o, eq_int, cmp_int, overT, nop_cmp, nop_chain, nop_and, nop_or, nop_not, nop_call, nop_bi, nop_ite, nop_ix, nop_v, nop_int, nop_op, nop_neg, nop_nop, wE_lc_cmp, wE_lc_chain, wE_lc_and, wE_lc_or, wE_lc_not, wE_lc_call, wE_lc_bi, wE_lc_ite, wE_lc_ix, wE_lc_v, List.replicate_succ, List.replicate_zero, Nat.reduceAdd, Nat.reduceSub, oT_s, oT_n, eq_io, eq_oi, is_i, is_n, Bool.xor_true, Bool.xor_false, Bool.false_xor, Bool.true_xor, Bool.not_true, Bool.not_false, mk_t, bodyC_n, bodyC_n1, bodyD_n, len_map, add_ii]
  intro p hp
  rw [show ((lo.ws.length : Int) + 1) = ((lo.ws.length + 1 : Nat) : Int) by omega, rng_n (by omega)]
  have row : ∀ (r f : List Nat) (x y : Option T) (D : TEnds) (Hx : TH), (∀ t ∈ r, t < sn.length) → f.length + r.length ≤ 10000 → One H p (.lst (f.map nT)) Hx →
      (lcRow sn u (seenBy (stt lo) sn (sAt sn s)) f r = none → ∀ Hy, Sub H Hy → D.rt (.bl true) Hy) → (∀ g y Hy, lcRow sn u (seenBy (stt lo) sn (sAt sn s)) f r = some g → One H p (.lst (g.map nT)) Hy →
        D.nx [some (encW lo), some (nTs (stt lo)), some (oTs sn), some (nT s), some (nT u), some (.lst ((seenBy (stt lo) sn (sAt sn s)).map nT)), some (.ref p), x, y] Hy) →
      forGo (fun _ => True) (loopB C (.n 8) b__law_comes_L1) (r.map nT) D [some (encW lo), some (nTs (stt lo)), some (oTs sn), some (nT s), some (nT u), some (.lst ((seenBy (stt lo) sn (sAt sn s)).map nT)), some (.ref p), x, y] Hx := by
    intro r
    induction r with
    | nil =>
      intro f x y D Hx _ _ o _ hn
      simp only [List.map_nil, forGo_nil, true_and]
      exact hn f y Hx rfl o
    | cons t r ih =>
      intro f x y D Hx hr hl o hy hn
      rw [List.length_cons] at hl
      have ht := hr t List.mem_cons_self
      have hr' := fun a ha => hr a (List.mem_cons_of_mem _ ha)
      unfold lcRow at hy hn
      simp only [List.map_cons, forGo_cons, loopB_n, b__law_comes_L1, wSs_cons, wSs_nil, wS_set, wS_unp, wS_setix, wS_aug, wS_expr, wS_ret, wS_retN, wS_ife, wS_for, wS_while, wS_pass, wS_brk, wS_cont, wE_v, wE_non, wE_bl, wE_int, wE_str, wE_neg, wE_op, wE_cmp, wE_chain, wE_and, wE_or, wE_not, wE_ite, wE_ix, wE_sl, wE_tup, wE_lst, wE_dnew, wE_call, wE_bi, wE_isi, wE_me, wE_lc0, wE_dc, wE_sset, wE_frz, wEs_nil, wEs_cons, wI_over, wI_rng1, wI_rng2, List.map_cons, List.map_nil, List.length_cons, List.length_nil, List.cons_append, List.nil_append, lk_0, lk_s, st_0, st_s, ix_0, ix_1, ix_2, Op2.o, Cm.o, BI.o, ME.o, ME.rv, is_o, eq_int, cmp_int, overT, nop_cmp, nop_chain, nop_and, nop_or, nop_not, nop_call, nop_bi, nop_ite, nop_ix, nop_v, nop_int, nop_op, nop_neg, nop_nop, wE_lc_cmp, wE_lc_chain, wE_lc_and, wE_lc_or, wE_lc_not, wE_lc_call, wE_lc_bi, wE_lc_ite, wE_lc_ix, wE_lc_v, List.replicate_succ, List.replicate_zero, Nat.reduceAdd, Nat.reduceSub, oT_s, oT_n, eq_io, eq_oi, is_i, is_n, Bool.xor_true, Bool.xor_false, Bool.false_xor, Bool.true_xor, Bool.not_true, Bool.not_false, mk_t, bodyC_n, bodyC_n1, bodyD_n, true_and, ix_at (sAt_some ht), in_lnats, in_rnats o.q]
      by_cases e : sAt sn t = some (u : Int)
      · rw [if_pos e] at hy
        simp only [e, decide_true]
        exact hy rfl Hx o.sub
      · rw [if_neg e] at hy hn
        simp only [e, decide_false]
        by_cases m : t ∈ seenBy (stt lo) sn (sAt sn s)
        · by_cases m2 : t ∈ f
          · rw [if_neg (fun z => z.2 m2)] at hy hn
            simp only [m, m2, decide_true, Bool.not_true]
            exact ih f x _ D Hx hr' (by omega) o hy hn
          · rw [if_pos ⟨m, m2⟩] at hy hn
            simp only [m, m2, decide_true, decide_false, Bool.not_false, wSs_cons, wSs_nil, wS_set, wS_unp, wS_setix, wS_aug, wS_expr, wS_ret, wS_retN, wS_ife, wS_for, wS_while, wS_pass, wS_brk, wS_cont, wE_v, wE_non, wE_bl, wE_int, wE_str, wE_neg, wE_op, wE_cmp, wE_chain, wE_and, wE_or, wE_not, wE_ite, wE_ix, wE_sl, wE_tup, wE_lst, wE_dnew, wE_call, wE_bi, wE_isi, wE_me, wE_lc0, wE_dc, wE_sset, wE_frz, wEs_nil, wEs_cons, wI_over, wI_rng1, wI_rng2, List.map_cons, List.map_nil, List.length_cons, List.length_nil, List.cons_append, List.nil_append, lk_0, lk_s, st_0, st_s, ix_0, ix_1, ix_2, Op2.o, Cm.o, BI.o, ME.o, ME.rv, is_o, eq_int, cmp_int, overT, nop_cmp, nop_chain, nop_and, nop_or, nop_not, nop_call, nop_bi, nop_ite, nop_ix, nop_v, nop_int, nop_op, nop_neg, nop_nop, wE_lc_cmp, wE_lc_chain, wE_lc_and, wE_lc_or, wE_lc_not, wE_lc_call, wE_lc_bi, wE_lc_ite, wE_lc_ix, wE_lc_v, List.replicate_succ, List.replicate_zero, Nat.reduceAdd, Nat.reduceSub, oT_s, oT_n, eq_io, eq_oi, is_i, is_n, Bool.xor_true, Bool.xor_false, Bool.false_xor, Bool.true_xor, Bool.not_true, Bool.not_false, mk_t, bodyC_n, bodyC_n1, bodyD_n]
            refine ⟨recv_l o.q, ?_⟩
            rw [append_l o.q]
            refine ⟨sz' (by rw [List.length_map]; omega), ?_⟩
            have o2 := o.set (B := .lst ((f ++ [t]).map nT))
            rw [List.map_append] at o2
            exact ih (f ++ [t]) x _ D _ hr' (by rw [List.length_append, List.length_singleton]; omega) (by rw [List.map_append]; exact o2) hy hn
        · rw [if_neg (fun z => m z.1)] at hy hn
          simp only [m, decide_false]
          exact ih f x _ D Hx hr' (by omega) o hy hn
  have loop : ∀ (r : List Nat) (k : Nat) (f : List Nat) (x y : Option T) (Hx : TH), r = List.range' k r.length → CInv lo sn u (seenBy (stt lo) sn (sAt sn s)) s k f → lcTry lo sn u (seenBy (stt lo) sn (sAt sn s)) r.length k f = comesB lo sn (stt lo) s (u : Int) → One H p (.lst (f.map nT)) Hx →
      forGo (fun _ => True) (loopB C (.n 7) b__law_comes_L2) (r.map nT) { nx := wSs C (.cons (.ret (.bl false)) .nil) (bodyEnds Q), rt := (bodyEnds Q).rt, bk := (bodyEnds Q).bk, ct := (bodyEnds Q).ct }
        [some (encW lo), some (nTs (stt lo)), some (oTs sn), some (nT s), some (nT u), some (.lst ((seenBy (stt lo) sn (sAt sn s)).map nT)), some (.ref p), x, y] Hx := by
    intro r
    induction r with
    | nil =>
      intro k f x y Hx _ _ e o
      simp only [List.map_nil, forGo_nil, wSs_cons, wSs_nil, wS_set, wS_unp, wS_setix, wS_aug, wS_expr, wS_ret, wS_retN, wS_ife, wS_for, wS_while, wS_pass, wS_brk, wS_cont, wE_v, wE_non, wE_bl, wE_int, wE_str, wE_neg, wE_op, wE_cmp, wE_chain, wE_and, wE_or, wE_not, wE_ite, wE_ix, wE_sl, wE_tup, wE_lst, wE_dnew, wE_call, wE_bi, wE_isi, wE_me, wE_lc0, wE_dc, wE_sset, wE_frz, wEs_nil, wEs_cons, wI_over, wI_rng1, wI_rng2, List.map_cons, List.map_nil, List.length_cons, List.length_nil, List.cons_append, List.nil_append, lk_0, lk_s, st_0, st_s, ix_0, ix_1, ix_2, Op2.o, Cm.o, BI.o, ME.o, ME.rv, is_o, eq_int, cmp_int, overT, nop_cmp, nop_chain, nop_and, nop_or, nop_not, nop_call, nop_bi, nop_ite, nop_ix, nop_v, nop_int, nop_op, nop_neg, nop_nop, wE_lc_cmp, wE_lc_chain, wE_lc_and, wE_lc_or, wE_lc_not, wE_lc_call, wE_lc_bi, wE_lc_ite, wE_lc_ix, wE_lc_v, List.replicate_succ, List.replicate_zero, Nat.reduceAdd, Nat.reduceSub, oT_s, oT_n, eq_io, eq_oi, is_i, is_n, Bool.xor_true, Bool.xor_false, Bool.false_xor, Bool.true_xor, Bool.not_true, Bool.not_false, mk_t, bodyC_n, bodyC_n1, bodyD_n, true_and]
      rw [← e] at q
      exact rts o.sub q
    | cons i r ih =>
      intro k f x y Hx er ci e o
      rw [List.length_cons, List.range'_succ] at er
      injection er with e3 e4
      subst e3
      simp only [List.map_cons, forGo_cons, loopB_n, b__law_comes_L2, wSs_cons, wSs_nil, wS_set, wS_unp, wS_setix, wS_aug, wS_expr, wS_ret, wS_retN, wS_ife, wS_for, wS_while, wS_pass, wS_brk, wS_cont, wE_v, wE_non, wE_bl, wE_int, wE_str, wE_neg, wE_op, wE_cmp, wE_chain, wE_and, wE_or, wE_not, wE_ite, wE_ix, wE_sl, wE_tup, wE_lst, wE_dnew, wE_call, wE_bi, wE_isi, wE_me, wE_lc0, wE_dc, wE_sset, wE_frz, wEs_nil, wEs_cons, wI_over, wI_rng1, wI_rng2, List.map_cons, List.map_nil, List.length_cons, List.length_nil, List.cons_append, List.nil_append, lk_0, lk_s, st_0, st_s, ix_0, ix_1, ix_2, Op2.o, Cm.o, BI.o, ME.o, ME.rv, is_o, eq_int, cmp_int, overT, nop_cmp, nop_chain, nop_and, nop_or, nop_not, nop_call, nop_bi, nop_ite, nop_ix, nop_v, nop_int, nop_op, nop_neg, nop_nop, wE_lc_cmp, wE_lc_chain, wE_lc_and, wE_lc_or, wE_lc_not, wE_lc_call, wE_lc_bi, wE_lc_ite, wE_lc_ix, wE_lc_v, List.replicate_succ, List.replicate_zero, Nat.reduceAdd, Nat.reduceSub, oT_s, oT_n, eq_io, eq_oi, is_i, is_n, Bool.xor_true, Bool.xor_false, Bool.false_xor, Bool.true_xor, Bool.not_true, Bool.not_false, mk_t, bodyC_n, bodyC_n1, bodyD_n, true_and, len_l o.q, List.length_map]
      rw [List.length_cons] at e
      unfold lcTry at e
      have hflen : f.length ≤ 60 := Nat.le_trans (nd_len ci.nd fun x hx => stt_lt (mem_seenBy.mp (ci.rin x hx).2).1) ok.small
      by_cases c : i < f.length
      · have c' : (i : Int) < (f.length : Int) := by omega
        have hf : f[i]? = some f[i] := List.getElem?_eq_getElem c
        have hfi : f[i] ∈ stt lo := (mem_seenBy.mp (ci.rin _ (List.getElem_mem c)).2).1
        rw [hf] at e
        have hx : oIx (.ref p) (.int (i : Int)) Hx = fun Q => Q (nT f[i]) Hx := by
          funext Q
          exact ix_l o.q (atI_nat (by rw [List.getElem?_map, hf]; rfl))
        simp only [c', decide_true, wSs_cons, wSs_nil, wS_set, wS_unp, wS_setix, wS_aug, wS_expr, wS_ret, wS_retN, wS_ife, wS_for, wS_while, wS_pass, wS_brk, wS_cont, wE_v, wE_non, wE_bl, wE_int, wE_str, wE_neg, wE_op, wE_cmp, wE_chain, wE_and, wE_or, wE_not, wE_ite, wE_ix, wE_sl, wE_tup, wE_lst, wE_dnew, wE_call, wE_bi, wE_isi, wE_me, wE_lc0, wE_dc, wE_sset, wE_frz, wEs_nil, wEs_cons, wI_over, wI_rng1, wI_rng2, List.map_cons, List.map_nil, List.length_cons, List.length_nil, List.cons_append, List.nil_append, lk_0, lk_s, st_0, st_s, ix_0, ix_1, ix_2, Op2.o, Cm.o, BI.o, ME.o, ME.rv, is_o, eq_int, cmp_int, overT, nop_cmp, nop_chain, nop_and, nop_or, nop_not, nop_call, nop_bi, nop_ite, nop_ix, nop_v, nop_int, nop_op, nop_neg, nop_nop, wE_lc_cmp, wE_lc_chain, wE_lc_and, wE_lc_or, wE_lc_not, wE_lc_call, wE_lc_bi, wE_lc_ite, wE_lc_ix, wE_lc_v, List.replicate_succ, List.replicate_zero, Nat.reduceAdd, Nat.reduceSub, oT_s, oT_n, eq_io, eq_oi, is_i, is_n, Bool.xor_true, Bool.xor_false, Bool.false_xor, Bool.true_xor, Bool.not_true, Bool.not_false, mk_t, bodyC_n, bodyC_n1, bodyD_n, hx, ix_at (nx_some (stt_lt hfi))]
        have hrow := nx_len ok f[i]
        refine row (nx lo f[i]) f _ _ _ Hx (fun t ht => hin t (stt_step ok hfi ht)) (by omega) o (fun z Hy s => ?_) fun g y Hy z o2 => ?_
        · simp only [z] at e
          rw [← e] at q
          exact rts s q
        · simp only [z] at e
          exact ih (i + 1) g _ _ Hy e4 (ci.go hf z) e o2
      · have c' : ¬ (i : Int) < (f.length : Int) := by omega
        have hf : f[i]? = none := List.getElem?_eq_none (by omega)
        rw [hf] at e
        simp only [c', decide_false]
        exact ih (i + 1) f _ _ Hx e4 (ci.skip hf) e o
  refine loop (List.range (lo.ws.length + 1)) 0 [s] none none _ (by rw [List.length_range, List.range_eq_range']) ⟨nd1 s, List.mem_cons_self, fun x hx => ?_, fun j x hj => absurd hj (Nat.not_lt_zero j)⟩ (by rw [List.length_range]; rfl) (One.mk0 hp)
  rw [List.mem_singleton.mp hx]
  exact ⟨.base, mem_seenBy.mpr ⟨hs, rfl⟩⟩
end K80
set_option maxRecDepth 100000
set_option maxHeartbeats 1000000
namespace K80
open PySem PySem.Spec L2 TL
/-! ### _law_breaches -/
theorem add_rl {H : TH} {p : Addr} {xs ys : List T} {Q : TL.KT} (e : H p = some (.lst xs)) : oAdd false (.ref p) (.lst ys) H Q = (xs.length + ys.length ≤ sizeLine ∧ ∀ r, H r = none → Q (.ref r) (up H r (.lst (xs ++ ys)))) := by
  simp only [oAdd, lstOf, e, mk_f]
/-- ranks may be a list or a tuple -/
def IxR (H : TH) (R : T) (rk : List (Option Int)) : Prop := ∀ Hx, Sub H Hx → ∀ s : Nat, s < rk.length → ∀ Q, oIx R (.int (s : Int)) Hx Q = Q (oT (sAt rk s)) Hx
theorem IxR.tup {H : TH} {rk : List (Option Int)} : IxR H (oTs rk) rk := fun Hx _ s hs Q => ix_at (sAt_some hs)
theorem IxR.lst {H : TH} {q : Addr} {rk : List (Option Int)} (h : H q = some (.lst (rk.map oT))) : IxR H (.ref q) rk := fun Hx sub s hs Q => ix_l (sub q _ h) (atI_nat (by rw [List.getElem?_map, sAt_some hs]; rfl))
def sp_law_breaches : TSp := fun ts H Q => ∃ (lo u : Wd) (sn rk : List (Option Int)) (R : T), ts = [encW lo, encW u, oTs sn, R] ∧ Ctx lo u sn rk ∧ IxR H R rk ∧ Q (.lst ((breaches lo u sn rk).map encB)) H
theorem encB_len {l : List Brc} : (l.map encB).length = l.length := List.length_map ..
theorem begB_len {lo u : Wd} {sn rk : List (Option Int)} (c : Ctx lo u sn rk) : (begB lo u sn).length ≤ 120 := by
  have h1 := bs_len c.okl
  have h2 := bs_len c.oku
  unfold begB
  rw [List.length_append, List.length_map, List.length_map]
  have a1 : (lo.bs.filter fun s => !bSee u.bs (sAt sn s)).length ≤ lo.bs.length := List.length_filter_le ..
  have a2 : (u.bs.filter fun x : Nat => decide ((seenBy lo.bs sn (some (x : Int))).length = 0)).length ≤ u.bs.length := List.length_filter_le ..
  omega
theorem litB_snoc {lo u : Wd} {sn rk : List (Option Int)} {S : List Nat} {s : Nat} : litB lo u sn rk (S ++ [s]) = litB lo u sn rk S ++ if litOk u (sAt sn s) (sAt rk s) (lo.ls.getD s []) = true then [] else [.lit s] := by
  unfold litB
  rw [List.filter_append, List.map_append]
  cases h : litOk u (sAt sn s) (sAt rk s) (lo.ls.getD s []) with
  | false =>
    rw [List.filter_cons_of_pos (by rw [h]; rfl), if_neg Bool.false_ne_true]
    rfl
  | true =>
    rw [List.filter_cons_of_neg (by rw [h]; simp), if_pos rfl]
    rfl
theorem gt0 {l : List Brc} : decide ((0 : Int) < ((l.map encB).length : Int)) = !decide (l = []) := by
  cases l with
  | nil => rfl
  | cons a l =>
    rw [List.map_cons, List.length_cons]
    simp only [reduceCtorEq, decide_false, Bool.not_false]
    exact decide_eq_true (by omega)
theorem litOk_split {u : Wd} {i k : Int} {l : List Int} : litOk u (some i) (some k) l = (decide (0 ≤ i) && (decide (i < (u.ws.length : Int)) && (decide (0 ≤ k) && decide (u.ls.getD i.toNat [] = l)))) := by
  show (decide (0 ≤ i ∧ i < (u.ws.length : Int)) && (decide (0 ≤ k) && decide (l = u.ls.getD i.toNat []))) = _
  rw [Bool.decide_and, show decide (l = u.ls.getD i.toNat []) = decide (u.ls.getD i.toNat [] = l) from decide_eq_decide.mpr ⟨fun h => h.symm, fun h => h.symm⟩]
  simp only [Bool.and_assoc]
theorem w_law_breaches {C : Nat → TSp} (h28 : C 28 = sp_law_come_to) (h30 : C 30 = sp_states_seeing) (h31 : C 31 = sp_law_comes) (ts : List T) (H : TH) (Q : TL.KT) (h : sp_law_breaches ts H Q) : wSs C b__law_breaches (bodyEnds Q) (start0 n__law_breaches ts) H := by
  obtain ⟨lo, u, sn, rk, R, rfl, c, hR, hQ⟩ := h
  have hb := bs_len c.okl
  have hb2 := bs_len c.oku
  have hS := stt60 c.okl
  have hbl := begB_len c
  -- the last loop
  have d1 : ∀ (r S0 : List Nat) (q : Addr) (L : List Brc) (x y z w : Option T) (Hx : TH), Seen lo u sn rk → S0 ++ r = stt lo → L = S0.flatMap (fun s => ((nx u (seenN sn s)).filter fun x : Nat => !comesB lo sn (stt lo) s (x : Int)).map (Brc.nxt s)) → L.length ≤ 60 * S0.length → One H q (.lst (L.map encB)) Hx →
      (Q (.lst ((nxtB lo u sn (stt lo)).map encB)) H) →
      forGo (fun _ => True) (loopB C (.n 6) b__law_breaches_L1) (r.map nT) { nx := wSs C (.cons (.ret (.frz (.v 4))) .nil) (bodyEnds Q), rt := (bodyEnds Q).rt, bk := (bodyEnds Q).bk, ct := (bodyEnds Q).ct }
        [some (encW lo), some (encW u), some (oTs sn), some R, some (.ref q), some (nTs (stt lo)), x, y, z, w] Hx := by
    intro r
    induction r with
    | nil =>
      intro S0 q L x y z w Hx _ e eL _ o g
      rw [List.append_nil] at e
      subst e
      simp only [List.map_nil, forGo_nil, wSs_cons, wSs_nil, wS_set, wS_unp, wS_setix, wS_aug, wS_expr, wS_ret, wS_retN, wS_ife, wS_for, wS_while, wS_pass, wS_brk, wS_cont, wE_v, wE_non, wE_bl, wE_int, wE_str, wE_neg, wE_op, wE_cmp, wE_chain, wE_and, wE_or, wE_not, wE_ite, wE_ix, wE_sl, wE_tup, wE_lst, wE_dnew, wE_call, wE_bi, wE_isi, wE_me, wE_lc0, wE_dc, wE_sset, wE_frz, wEs_nil, wEs_cons, wI_over, wI_rng1, wI_rng2, List.map_cons, List.map_nil, List.length_cons, List.length_nil, List.cons_append, List.nil_append, lk_0, lk_s, st_0, st_s, ix_0, ix_1, ix_2, Op2.o, Cm.o, BI.o, ME.o, ME.rv, is_o, eq_int, cmp_int, overT, nop_cmp, nop_chain, nop_and, nop_or, nop_not, nop_call, nop_bi, nop_ite, nop_ix, nop_v, nop_int, nop_op, nop_neg, nop_nop, wE_lc_cmp, wE_lc_chain, wE_lc_and, wE_lc_or, wE_lc_not, wE_lc_call, wE_lc_bi, wE_lc_ite, wE_lc_ix, wE_lc_v, List.replicate_succ, List.replicate_zero, Nat.reduceAdd, Nat.reduceSub, oT_s, oT_n, eq_io, eq_oi, is_i, is_n, Bool.xor_true, Bool.xor_false, Bool.false_xor, Bool.true_xor, Bool.not_true, Bool.not_false, mk_t, bodyC_n, bodyC_n1, bodyD_n, true_and, frz_l o.q]
      rw [eL]
      exact rts o.del g
    | cons s r ih =>
      intro S0 q L x y z w Hx sd e eL hk o g
      have hs : s ∈ stt lo := by
        rw [← e]
        simp
      obtain ⟨⟨a, ha, hau⟩, _⟩ := sd s hs
      have hnx := nx_len c.oku a
      have hlen : S0.length ≤ 60 := by
        have := congrArg List.length e
        rw [List.length_append] at this
        omega
      have e1 := sAt_some (c.s1 hs)
      rw [ha] at e1
      simp only [List.map_cons, forGo_cons, loopB_n, b__law_breaches_L1, wSs_cons, wSs_nil, wS_set, wS_unp, wS_setix, wS_aug, wS_expr, wS_ret, wS_retN, wS_ife, wS_for, wS_while, wS_pass, wS_brk, wS_cont, wE_v, wE_non, wE_bl, wE_int, wE_str, wE_neg, wE_op, wE_cmp, wE_chain, wE_and, wE_or, wE_not, wE_ite, wE_ix, wE_sl, wE_tup, wE_lst, wE_dnew, wE_call, wE_bi, wE_isi, wE_me, wE_lc0, wE_dc, wE_sset, wE_frz, wEs_nil, wEs_cons, wI_over, wI_rng1, wI_rng2, List.map_cons, List.map_nil, List.length_cons, List.length_nil, List.cons_append, List.nil_append, lk_0, lk_s, st_0, st_s, ix_0, ix_1, ix_2, Op2.o, Cm.o, BI.o, ME.o, ME.rv, is_o, eq_int, cmp_int, overT, nop_cmp, nop_chain, nop_and, nop_or, nop_not, nop_call, nop_bi, nop_ite, nop_ix, nop_v, nop_int, nop_op, nop_neg, nop_nop, wE_lc_cmp, wE_lc_chain, wE_lc_and, wE_lc_or, wE_lc_not, wE_lc_call, wE_lc_bi, wE_lc_ite, wE_lc_ix, wE_lc_v, List.replicate_succ, List.replicate_zero, Nat.reduceAdd, Nat.reduceSub, oT_s, oT_n, eq_io, eq_oi, is_i, is_n, Bool.xor_true, Bool.xor_false, Bool.false_xor, Bool.true_xor, Bool.not_true, Bool.not_false, mk_t, bodyC_n, bodyC_n1, bodyD_n, true_and, ix_at e1, ix_at (nx_some hau)]
      refine lc_filter (α := Nat) (enc := nT) (f := fun t => encB (.nxt s t)) (p := fun x : Nat => !comesB lo sn (stt lo) s (x : Int)) trivial (fun t ht G' g' => ?_) (sz (by omega)) ?_
      · simp only [wSs_cons, wSs_nil, wS_set, wS_unp, wS_setix, wS_aug, wS_expr, wS_ret, wS_retN, wS_ife, wS_for, wS_while, wS_pass, wS_brk, wS_cont, wE_v, wE_non, wE_bl, wE_int, wE_str, wE_neg, wE_op, wE_cmp, wE_chain, wE_and, wE_or, wE_not, wE_ite, wE_ix, wE_sl, wE_tup, wE_lst, wE_dnew, wE_call, wE_bi, wE_isi, wE_me, wE_lc0, wE_dc, wE_sset, wE_frz, wEs_nil, wEs_cons, wI_over, wI_rng1, wI_rng2, List.map_cons, List.map_nil, List.length_cons, List.length_nil, List.cons_append, List.nil_append, lk_0, lk_s, st_0, st_s, ix_0, ix_1, ix_2, Op2.o, Cm.o, BI.o, ME.o, ME.rv, is_o, eq_int, cmp_int, overT, nop_cmp, nop_chain, nop_and, nop_or, nop_not, nop_call, nop_bi, nop_ite, nop_ix, nop_v, nop_int, nop_op, nop_neg, nop_nop, wE_lc_cmp, wE_lc_chain, wE_lc_and, wE_lc_or, wE_lc_not, wE_lc_call, wE_lc_bi, wE_lc_ite, wE_lc_ix, wE_lc_v, List.replicate_succ, List.replicate_zero, Nat.reduceAdd, Nat.reduceSub, oT_s, oT_n, eq_io, eq_oi, is_i, is_n, Bool.xor_true, Bool.xor_false, Bool.false_xor, Bool.true_xor, Bool.not_true, Bool.not_false, mk_t, bodyC_n, bodyC_n1, bodyD_n, h31]
        refine ⟨lo, sn, s, t, rfl, c.okl, c.sn, hs, ?_⟩
        cases z : comesB lo sn (stt lo) s (t : Int) with
        | true => simpa [z] using g'
        | false =>
          simp only [Bool.not_false]
          exact ⟨sz (by decide), by simpa [z, encB] using g'⟩
      · have hf : ((nx u a).filter fun x : Nat => !comesB lo sn (stt lo) s (x : Int)).length ≤ (nx u a).length := List.length_filter_le ..
        simp only [mk_t, wSs_cons, wSs_nil, wS_set, wS_unp, wS_setix, wS_aug, wS_expr, wS_ret, wS_retN, wS_ife, wS_for, wS_while, wS_pass, wS_brk, wS_cont, wE_v, wE_non, wE_bl, wE_int, wE_str, wE_neg, wE_op, wE_cmp, wE_chain, wE_and, wE_or, wE_not, wE_ite, wE_ix, wE_sl, wE_tup, wE_lst, wE_dnew, wE_call, wE_bi, wE_isi, wE_me, wE_lc0, wE_dc, wE_sset, wE_frz, wEs_nil, wEs_cons, wI_over, wI_rng1, wI_rng2, List.map_cons, List.map_nil, List.length_cons, List.length_nil, List.cons_append, List.nil_append, lk_0, lk_s, st_0, st_s, ix_0, ix_1, ix_2, Op2.o, Cm.o, BI.o, ME.o, ME.rv, is_o, eq_int, cmp_int, overT, nop_cmp, nop_chain, nop_and, nop_or, nop_not, nop_call, nop_bi, nop_ite, nop_ix, nop_v, nop_int, nop_op, nop_neg, nop_nop, wE_lc_cmp, wE_lc_chain, wE_lc_and, wE_lc_or, wE_lc_not, wE_lc_call, wE_lc_bi, wE_lc_ite, wE_lc_ix, wE_lc_v, List.replicate_succ, List.replicate_zero, Nat.reduceAdd, Nat.reduceSub, oT_s, oT_n, eq_io, eq_oi, is_i, is_n, Bool.xor_true, Bool.xor_false, Bool.false_xor, Bool.true_xor, Bool.not_true, Bool.not_false, mk_t, bodyC_n, bodyC_n1, bodyD_n, add_rl o.q, List.length_map]
        refine ⟨sz (by omega), fun r2 hr2 => ?_⟩
        refine ih (S0 ++ [s]) r2 (L ++ ((nx u a).filter fun x : Nat => !comesB lo sn (stt lo) s (x : Int)).map (Brc.nxt s)) _ _ _ _ _ sd (by rw [← e]; simp) ?_ ?_ ?_ g
        · rw [nxtB_snoc, ← eL, seenN_eq ha]
        · rw [List.length_append, List.length_append, List.length_map, List.length_singleton]
          omega
        · rw [List.map_append, List.map_map]
          exact o.new hr2
  -- the ways from a state
  have d2 : ∀ (r r0 : List Nat) (s a : Nat) (q : Addr) (L : List Brc) (x y : Option T) (Hx : TH) (D : TEnds), Seen lo u sn rk → s ∈ stt lo → sAt sn s = some (a : Int) → a < u.ws.length → (∀ t ∈ r, t ∈ stt lo) → L.length + r.length ≤ 10000 → One H q (.lst (L.map encB)) Hx →
      (∀ y Hy, One H q (.lst ((L ++ (r.filter fun t => !wayOkB u sn rk s t).map (Brc.way s)).map encB)) Hy → D.nx [some (encW lo), some (encW u), some (oTs sn), some R, some (.ref q), some (nTs (stt lo)), some (nT s), x, y, none] Hy) →
      forGo (fun _ => True) (loopB C (.n 8) b__law_breaches_L2) (r.map nT) D [some (encW lo), some (encW u), some (oTs sn), some R, some (.ref q), some (nTs (stt lo)), some (nT s), x, y, none] Hx := by
    intro r
    induction r with
    | nil =>
      intro r0 s a q L x y Hx D _ _ _ _ _ _ o hn
      simp only [List.map_nil, forGo_nil, true_and]
      exact hn y Hx (by simpa using o)
    | cons t r ih =>
      intro r0 s a q L x y Hx D sd hs ha hau hr hl o hn
      rw [List.length_cons] at hl
      have ht := hr t List.mem_cons_self
      have hr' := fun b hb => hr b (List.mem_cons_of_mem _ hb)
      obtain ⟨_, p0, hp0⟩ := sd s hs
      obtain ⟨_, p1, hp1⟩ := sd t ht
      have e1 := sAt_some (c.s1 hs)
      rw [ha] at e1
      have r0' := hR Hx o.sub s (c.s2 hs)
      have r1' := hR Hx o.sub t (c.s2 ht)
      rw [hp0] at r0'
      rw [hp1] at r1'
      have ew : wayOkB u sn rk s t = (inO (sAt sn t) (nx u a) || (decide (some (a : Int) = sAt sn t) && decide (p1 < p0))) := by
        unfold wayOkB waySeen rkI
        rw [seenN_eq ha, hp0, hp1]
        rfl
      have no : wayOkB u sn rk s t = true → forGo (fun _ => True) (loopB C (.n 8) b__law_breaches_L2) (r.map nT) D [some (encW lo), some (encW u), some (oTs sn), some R, some (.ref q), some (nTs (stt lo)), some (nT s), x, some (nT t), none] Hx := fun z =>
        ih r0 s a q L x _ Hx D sd hs ha hau hr' (by omega) o fun y Hy o2 => hn y Hy (by
          rw [List.filter_cons_of_neg (by simp [z])]
          exact o2)
      have yes : wayOkB u sn rk s t = false → (recv "list" (.ref q) Hx ∧ 3 ≤ sizeLine ∧ mAppend (.ref q) [.tup [.str "way", nT s, nT t]] Hx fun _ H1 => forGo (fun _ => True) (loopB C (.n 8) b__law_breaches_L2) (r.map nT) D [some (encW lo), some (encW u), some (oTs sn), some R, some (.ref q), some (nTs (stt lo)), some (nT s), x, some (nT t), none] H1) := fun z => by
        refine ⟨recv_l o.q, sz (by decide), ?_⟩
        rw [append_l o.q]
        refine ⟨sz' (by rw [List.length_map]; omega), ?_⟩
        have o2 := o.set (B := .lst ((L ++ [Brc.way s t]).map encB))
        rw [List.map_append] at o2
        refine ih r0 s a q (L ++ [Brc.way s t]) x _ _ D sd hs ha hau hr' (by rw [List.length_append, List.length_singleton]; omega) (by rw [List.map_append]; exact o2) fun y Hy o3 => hn y Hy ?_
        rw [List.filter_cons_of_pos (by simp [z]), List.map_cons]
        rw [List.append_assoc] at o3
        exact o3
      simp only [List.map_cons, forGo_cons, loopB_n, b__law_breaches_L2, wSs_cons, wSs_nil, wS_set, wS_unp, wS_setix, wS_aug, wS_expr, wS_ret, wS_retN, wS_ife, wS_for, wS_while, wS_pass, wS_brk, wS_cont, wE_v, wE_non, wE_bl, wE_int, wE_str, wE_neg, wE_op, wE_cmp, wE_chain, wE_and, wE_or, wE_not, wE_ite, wE_ix, wE_sl, wE_tup, wE_lst, wE_dnew, wE_call, wE_bi, wE_isi, wE_me, wE_lc0, wE_dc, wE_sset, wE_frz, wEs_nil, wEs_cons, wI_over, wI_rng1, wI_rng2, List.map_cons, List.map_nil, List.length_cons, List.length_nil, List.cons_append, List.nil_append, lk_0, lk_s, st_0, st_s, ix_0, ix_1, ix_2, Op2.o, Cm.o, BI.o, ME.o, ME.rv, is_o, eq_int, cmp_int, overT, nop_cmp, nop_chain, nop_and, nop_or, nop_not, nop_call, nop_bi, nop_ite, nop_ix, nop_v, nop_int, nop_op, nop_neg, nop_nop, wE_lc_cmp, wE_lc_chain, wE_lc_and, wE_lc_or, wE_lc_not, wE_lc_call, wE_lc_bi, wE_lc_ite, wE_lc_ix, wE_lc_v, List.replicate_succ, List.replicate_zero, Nat.reduceAdd, Nat.reduceSub, oT_s, oT_n, eq_io, eq_oi, is_i, is_n, Bool.xor_true, Bool.xor_false, Bool.false_xor, Bool.true_xor, Bool.not_true, Bool.not_false, mk_t, bodyC_n, bodyC_n1, bodyD_n, true_and, ix_at (sAt_some (c.s1 ht)), ix_at e1]
      simp only [oT_s, ix_at (nx_some hau), in_o, Bool.true_xor]
      cases z1 : inO (sAt sn t) (nx u a) with
      | true =>
        simp only [Bool.not_true]
        exact no (by rw [ew, z1]; rfl)
      | false =>
        simp only [Bool.not_false, eq_oi, Bool.true_xor]
        by_cases z2 : sAt sn t = some (a : Int)
        · simp only [z2, decide_true, Bool.not_true, r0', r1', oT_s, cmp_int]
          by_cases z3 : p0 ≤ p1
          · simp only [z3, decide_true, wSs_cons, wSs_nil, wS_set, wS_unp, wS_setix, wS_aug, wS_expr, wS_ret, wS_retN, wS_ife, wS_for, wS_while, wS_pass, wS_brk, wS_cont, wE_v, wE_non, wE_bl, wE_int, wE_str, wE_neg, wE_op, wE_cmp, wE_chain, wE_and, wE_or, wE_not, wE_ite, wE_ix, wE_sl, wE_tup, wE_lst, wE_dnew, wE_call, wE_bi, wE_isi, wE_me, wE_lc0, wE_dc, wE_sset, wE_frz, wEs_nil, wEs_cons, wI_over, wI_rng1, wI_rng2, List.map_cons, List.map_nil, List.length_cons, List.length_nil, List.cons_append, List.nil_append, lk_0, lk_s, st_0, st_s, ix_0, ix_1, ix_2, Op2.o, Cm.o, BI.o, ME.o, ME.rv, is_o, eq_int, cmp_int, overT, nop_cmp, nop_chain, nop_and, nop_or, nop_not, nop_call, nop_bi, nop_ite, nop_ix, nop_v, nop_int, nop_op, nop_neg, nop_nop, wE_lc_cmp, wE_lc_chain, wE_lc_and, wE_lc_or, wE_lc_not, wE_lc_call, wE_lc_bi, wE_lc_ite, wE_lc_ix, wE_lc_v, List.replicate_succ, List.replicate_zero, Nat.reduceAdd, Nat.reduceSub, oT_s, oT_n, eq_io, eq_oi, is_i, is_n, Bool.xor_true, Bool.xor_false, Bool.false_xor, Bool.true_xor, Bool.not_true, Bool.not_false, mk_t, bodyC_n, bodyC_n1, bodyD_n]
            exact yes (by rw [ew, z1, z2]; simp; omega)
          · simp only [z3, decide_false]
            exact no (by rw [ew, z1, z2]; simp; omega)
        · simp only [z2, decide_false, Bool.not_false, wSs_cons, wSs_nil, wS_set, wS_unp, wS_setix, wS_aug, wS_expr, wS_ret, wS_retN, wS_ife, wS_for, wS_while, wS_pass, wS_brk, wS_cont, wE_v, wE_non, wE_bl, wE_int, wE_str, wE_neg, wE_op, wE_cmp, wE_chain, wE_and, wE_or, wE_not, wE_ite, wE_ix, wE_sl, wE_tup, wE_lst, wE_dnew, wE_call, wE_bi, wE_isi, wE_me, wE_lc0, wE_dc, wE_sset, wE_frz, wEs_nil, wEs_cons, wI_over, wI_rng1, wI_rng2, List.map_cons, List.map_nil, List.length_cons, List.length_nil, List.cons_append, List.nil_append, lk_0, lk_s, st_0, st_s, ix_0, ix_1, ix_2, Op2.o, Cm.o, BI.o, ME.o, ME.rv, is_o, eq_int, cmp_int, overT, nop_cmp, nop_chain, nop_and, nop_or, nop_not, nop_call, nop_bi, nop_ite, nop_ix, nop_v, nop_int, nop_op, nop_neg, nop_nop, wE_lc_cmp, wE_lc_chain, wE_lc_and, wE_lc_or, wE_lc_not, wE_lc_call, wE_lc_bi, wE_lc_ite, wE_lc_ix, wE_lc_v, List.replicate_succ, List.replicate_zero, Nat.reduceAdd, Nat.reduceSub, oT_s, oT_n, eq_io, eq_oi, is_i, is_n, Bool.xor_true, Bool.xor_false, Bool.false_xor, Bool.true_xor, Bool.not_true, Bool.not_false, mk_t, bodyC_n, bodyC_n1, bodyD_n]
          exact yes (by
            rw [ew, z1]
            have : ¬ some (a : Int) = sAt sn t := fun e => z2 e.symm
            simp [this])
  have d3 : ∀ (r S0 : List Nat) (q : Addr) (x y z : Option T) (Hx : TH) (D : TEnds), Seen lo u sn rk → S0 ++ r = stt lo → (wayB lo u sn rk S0).length ≤ 60 * S0.length → One H q (.lst ((wayB lo u sn rk S0).map encB)) Hx →
      (∀ x y z Hy, One H q (.lst ((wayB lo u sn rk (stt lo)).map encB)) Hy → D.nx [some (encW lo), some (encW u), some (oTs sn), some R, some (.ref q), some (nTs (stt lo)), x, y, z, none] Hy) →
      forGo (fun _ => True) (loopB C (.n 6) b__law_breaches_L3) (r.map nT) D [some (encW lo), some (encW u), some (oTs sn), some R, some (.ref q), some (nTs (stt lo)), x, y, z, none] Hx := by
    intro r
    induction r with
    | nil =>
      intro S0 q x y z Hx D _ e _ o hn
      rw [List.append_nil] at e
      subst e
      simp only [List.map_nil, forGo_nil, true_and]
      exact hn x y z Hx o
    | cons s r ih =>
      intro S0 q x y z Hx D sd e hk o hn
      have hs : s ∈ stt lo := by
        rw [← e]
        simp
      obtain ⟨⟨a, ha, hau⟩, _⟩ := sd s hs
      have hnx := nx_len c.okl s
      have hlen : S0.length ≤ 60 := by
        have := congrArg List.length e
        rw [List.length_append] at this
        omega
      have hf : ((nx lo s).filter fun t => !wayOkB u sn rk s t).length ≤ (nx lo s).length := List.length_filter_le ..
      simp only [List.map_cons, forGo_cons, loopB_n, b__law_breaches_L3, wSs_cons, wSs_nil, wS_set, wS_unp, wS_setix, wS_aug, wS_expr, wS_ret, wS_retN, wS_ife, wS_for, wS_while, wS_pass, wS_brk, wS_cont, wE_v, wE_non, wE_bl, wE_int, wE_str, wE_neg, wE_op, wE_cmp, wE_chain, wE_and, wE_or, wE_not, wE_ite, wE_ix, wE_sl, wE_tup, wE_lst, wE_dnew, wE_call, wE_bi, wE_isi, wE_me, wE_lc0, wE_dc, wE_sset, wE_frz, wEs_nil, wEs_cons, wI_over, wI_rng1, wI_rng2, List.map_cons, List.map_nil, List.length_cons, List.length_nil, List.cons_append, List.nil_append, lk_0, lk_s, st_0, st_s, ix_0, ix_1, ix_2, Op2.o, Cm.o, BI.o, ME.o, ME.rv, is_o, eq_int, cmp_int, overT, nop_cmp, nop_chain, nop_and, nop_or, nop_not, nop_call, nop_bi, nop_ite, nop_ix, nop_v, nop_int, nop_op, nop_neg, nop_nop, wE_lc_cmp, wE_lc_chain, wE_lc_and, wE_lc_or, wE_lc_not, wE_lc_call, wE_lc_bi, wE_lc_ite, wE_lc_ix, wE_lc_v, List.replicate_succ, List.replicate_zero, Nat.reduceAdd, Nat.reduceSub, oT_s, oT_n, eq_io, eq_oi, is_i, is_n, Bool.xor_true, Bool.xor_false, Bool.false_xor, Bool.true_xor, Bool.not_true, Bool.not_false, mk_t, bodyC_n, bodyC_n1, bodyD_n, true_and, ix_at (nx_some (stt_lt hs))]
      refine d2 (nx lo s) [] s a q (wayB lo u sn rk S0) _ _ Hx _ sd hs ha hau (fun t ht => stt_step c.okl hs ht) (by omega) o fun y Hy o2 => ?_
      simp only [wSs_cons, wSs_nil, wS_set, wS_unp, wS_setix, wS_aug, wS_expr, wS_ret, wS_retN, wS_ife, wS_for, wS_while, wS_pass, wS_brk, wS_cont, wE_v, wE_non, wE_bl, wE_int, wE_str, wE_neg, wE_op, wE_cmp, wE_chain, wE_and, wE_or, wE_not, wE_ite, wE_ix, wE_sl, wE_tup, wE_lst, wE_dnew, wE_call, wE_bi, wE_isi, wE_me, wE_lc0, wE_dc, wE_sset, wE_frz, wEs_nil, wEs_cons, wI_over, wI_rng1, wI_rng2, List.map_cons, List.map_nil, List.length_cons, List.length_nil, List.cons_append, List.nil_append, lk_0, lk_s, st_0, st_s, ix_0, ix_1, ix_2, Op2.o, Cm.o, BI.o, ME.o, ME.rv, is_o, eq_int, cmp_int, overT, nop_cmp, nop_chain, nop_and, nop_or, nop_not, nop_call, nop_bi, nop_ite, nop_ix, nop_v, nop_int, nop_op, nop_neg, nop_nop, wE_lc_cmp, wE_lc_chain, wE_lc_and, wE_lc_or, wE_lc_not, wE_lc_call, wE_lc_bi, wE_lc_ite, wE_lc_ix, wE_lc_v, List.replicate_succ, List.replicate_zero, Nat.reduceAdd, Nat.reduceSub, oT_s, oT_n, eq_io, eq_oi, is_i, is_n, Bool.xor_true, Bool.xor_false, Bool.false_xor, Bool.true_xor, Bool.not_true, Bool.not_false, mk_t, bodyC_n, bodyC_n1, bodyD_n]
      rw [← wayB_snoc] at o2
      refine ih (S0 ++ [s]) q _ _ _ Hy D sd (by rw [← e]; simp) ?_ o2 hn
      rw [wayB_snoc, List.length_append, List.length_append, List.length_map, List.length_singleton]
      omega
  have d4 : ∀ (r S0 : List Nat) (q : Addr) (x y : Option T) (Hx : TH) (D : TEnds), S0 ++ r = stt lo → (litB lo u sn rk S0).length ≤ S0.length → One H q (.lst ((litB lo u sn rk S0).map encB)) Hx →
      (∀ x y Hy, One H q (.lst ((litB lo u sn rk (stt lo)).map encB)) Hy → D.nx [some (encW lo), some (encW u), some (oTs sn), some R, some (.ref q), some (nTs (stt lo)), x, y, none, none] Hy) →
      forGo (fun _ => True) (loopB C (.n 6) b__law_breaches_L4) (r.map nT) D [some (encW lo), some (encW u), some (oTs sn), some R, some (.ref q), some (nTs (stt lo)), x, y, none, none] Hx := by
    intro r
    induction r with
    | nil =>
      intro S0 q x y Hx D e _ o hn
      rw [List.append_nil] at e
      subst e
      simp only [List.map_nil, forGo_nil, true_and]
      exact hn x y Hx o
    | cons s r ih =>
      intro S0 q x y Hx D e hk o hn
      have hs : s ∈ stt lo := by
        rw [← e]
        simp
      have hlen : S0.length ≤ 60 := by
        have := congrArg List.length e
        rw [List.length_append] at this
        omega
      have r0' := hR Hx o.sub s (c.s2 hs)
      have hl := ls_some c.okl (stt_lt hs)
      have no : ∀ y, litOk u (sAt sn s) (sAt rk s) (lo.ls.getD s []) = true → forGo (fun _ => True) (loopB C (.n 6) b__law_breaches_L4) (r.map nT) D [some (encW lo), some (encW u), some (oTs sn), some R, some (.ref q), some (nTs (stt lo)), some (nT s), y, none, none] Hx := fun y z => by
        refine ih (S0 ++ [s]) q _ _ Hx D (by rw [← e]; simp) ?_ ?_ hn
        · rw [litB_snoc, if_pos z, List.append_nil, List.length_append]
          omega
        · rw [litB_snoc, if_pos z, List.append_nil]
          exact o
      have yes : ∀ y, litOk u (sAt sn s) (sAt rk s) (lo.ls.getD s []) = false → (recv "list" (.ref q) Hx ∧ 2 ≤ sizeLine ∧ mAppend (.ref q) [.tup [.str "lights", nT s]] Hx fun _ H1 => forGo (fun _ => True) (loopB C (.n 6) b__law_breaches_L4) (r.map nT) D [some (encW lo), some (encW u), some (oTs sn), some R, some (.ref q), some (nTs (stt lo)), some (nT s), y, none, none] H1) := fun y z => by
        refine ⟨recv_l o.q, sz (by decide), ?_⟩
        rw [append_l o.q]
        refine ⟨sz' (by rw [List.length_map]; omega), ?_⟩
        have o2 := o.set (B := .lst ((litB lo u sn rk S0).map encB ++ [encB (.lit s)]))
        have e3 : (litB lo u sn rk S0).map encB ++ [encB (.lit s)] = (litB lo u sn rk (S0 ++ [s])).map encB := by
          rw [litB_snoc, if_neg (by rw [z]; exact Bool.false_ne_true), List.map_append]
          rfl
        rw [e3] at o2
        refine ih (S0 ++ [s]) q _ _ _ D (by rw [← e]; simp) ?_ ?_ hn
        · rw [litB_snoc, List.length_append, List.length_append, List.length_singleton]
          split
          · simp; omega
          · simp; omega
        · have e4 : (litB lo u sn rk S0).map encB ++ [.tup [.str "lights", nT s]] = (litB lo u sn rk (S0 ++ [s])).map encB := e3
          rw [e4]
          exact o2
      simp only [List.map_cons, forGo_cons, loopB_n, b__law_breaches_L4, wSs_cons, wSs_nil, wS_set, wS_unp, wS_setix, wS_aug, wS_expr, wS_ret, wS_retN, wS_ife, wS_for, wS_while, wS_pass, wS_brk, wS_cont, wE_v, wE_non, wE_bl, wE_int, wE_str, wE_neg, wE_op, wE_cmp, wE_chain, wE_and, wE_or, wE_not, wE_ite, wE_ix, wE_sl, wE_tup, wE_lst, wE_dnew, wE_call, wE_bi, wE_isi, wE_me, wE_lc0, wE_dc, wE_sset, wE_frz, wEs_nil, wEs_cons, wI_over, wI_rng1, wI_rng2, List.map_cons, List.map_nil, List.length_cons, List.length_nil, List.cons_append, List.nil_append, lk_0, lk_s, st_0, st_s, ix_0, ix_1, ix_2, Op2.o, Cm.o, BI.o, ME.o, ME.rv, is_o, eq_int, cmp_int, overT, nop_cmp, nop_chain, nop_and, nop_or, nop_not, nop_call, nop_bi, nop_ite, nop_ix, nop_v, nop_int, nop_op, nop_neg, nop_nop, wE_lc_cmp, wE_lc_chain, wE_lc_and, wE_lc_or, wE_lc_not, wE_lc_call, wE_lc_bi, wE_lc_ite, wE_lc_ix, wE_lc_v, List.replicate_succ, List.replicate_zero, Nat.reduceAdd, Nat.reduceSub, oT_s, oT_n, eq_io, eq_oi, is_i, is_n, Bool.xor_true, Bool.xor_false, Bool.false_xor, Bool.true_xor, Bool.not_true, Bool.not_false, mk_t, bodyC_n, bodyC_n1, bodyD_n, true_and, ix_at (sAt_some (c.s1 hs)), r0', is_o]
      cases e1 : sAt sn s with
      | none =>
        simp only [Option.isNone, Bool.not_true, wSs_cons, wSs_nil, wS_set, wS_unp, wS_setix, wS_aug, wS_expr, wS_ret, wS_retN, wS_ife, wS_for, wS_while, wS_pass, wS_brk, wS_cont, wE_v, wE_non, wE_bl, wE_int, wE_str, wE_neg, wE_op, wE_cmp, wE_chain, wE_and, wE_or, wE_not, wE_ite, wE_ix, wE_sl, wE_tup, wE_lst, wE_dnew, wE_call, wE_bi, wE_isi, wE_me, wE_lc0, wE_dc, wE_sset, wE_frz, wEs_nil, wEs_cons, wI_over, wI_rng1, wI_rng2, List.map_cons, List.map_nil, List.length_cons, List.length_nil, List.cons_append, List.nil_append, lk_0, lk_s, st_0, st_s, ix_0, ix_1, ix_2, Op2.o, Cm.o, BI.o, ME.o, ME.rv, is_o, eq_int, cmp_int, overT, nop_cmp, nop_chain, nop_and, nop_or, nop_not, nop_call, nop_bi, nop_ite, nop_ix, nop_v, nop_int, nop_op, nop_neg, nop_nop, wE_lc_cmp, wE_lc_chain, wE_lc_and, wE_lc_or, wE_lc_not, wE_lc_call, wE_lc_bi, wE_lc_ite, wE_lc_ix, wE_lc_v, List.replicate_succ, List.replicate_zero, Nat.reduceAdd, Nat.reduceSub, oT_s, oT_n, eq_io, eq_oi, is_i, is_n, Bool.xor_true, Bool.xor_false, Bool.false_xor, Bool.true_xor, Bool.not_true, Bool.not_false, mk_t, bodyC_n, bodyC_n1, bodyD_n]
        exact yes _ (by rw [e1]; rfl)
      | some i =>
        cases e2 : sAt rk s with
        | none =>
          simp only [Option.isNone, Bool.not_true, Bool.not_false, wSs_cons, wSs_nil, wS_set, wS_unp, wS_setix, wS_aug, wS_expr, wS_ret, wS_retN, wS_ife, wS_for, wS_while, wS_pass, wS_brk, wS_cont, wE_v, wE_non, wE_bl, wE_int, wE_str, wE_neg, wE_op, wE_cmp, wE_chain, wE_and, wE_or, wE_not, wE_ite, wE_ix, wE_sl, wE_tup, wE_lst, wE_dnew, wE_call, wE_bi, wE_isi, wE_me, wE_lc0, wE_dc, wE_sset, wE_frz, wEs_nil, wEs_cons, wI_over, wI_rng1, wI_rng2, List.map_cons, List.map_nil, List.length_cons, List.length_nil, List.cons_append, List.nil_append, lk_0, lk_s, st_0, st_s, ix_0, ix_1, ix_2, Op2.o, Cm.o, BI.o, ME.o, ME.rv, is_o, eq_int, cmp_int, overT, nop_cmp, nop_chain, nop_and, nop_or, nop_not, nop_call, nop_bi, nop_ite, nop_ix, nop_v, nop_int, nop_op, nop_neg, nop_nop, wE_lc_cmp, wE_lc_chain, wE_lc_and, wE_lc_or, wE_lc_not, wE_lc_call, wE_lc_bi, wE_lc_ite, wE_lc_ix, wE_lc_v, List.replicate_succ, List.replicate_zero, Nat.reduceAdd, Nat.reduceSub, oT_s, oT_n, eq_io, eq_oi, is_i, is_n, Bool.xor_true, Bool.xor_false, Bool.false_xor, Bool.true_xor, Bool.not_true, Bool.not_false, mk_t, bodyC_n, bodyC_n1, bodyD_n]
          exact yes _ (by rw [e1, e2]; unfold litOk; simp)
        | some k =>
          have el := litOk_split (u := u) (i := i) (k := k) (l := lo.ls.getD s [])
          rw [e1, e2, el] at no yes
          have r0'' := r0'
          have s1 := sAt_some (c.s1 hs)
          rw [e1] at s1
          rw [e2] at r0''
          simp only [Option.isNone, Bool.not_false, wSs_cons, wSs_nil, wS_set, wS_unp, wS_setix, wS_aug, wS_expr, wS_ret, wS_retN, wS_ife, wS_for, wS_while, wS_pass, wS_brk, wS_cont, wE_v, wE_non, wE_bl, wE_int, wE_str, wE_neg, wE_op, wE_cmp, wE_chain, wE_and, wE_or, wE_not, wE_ite, wE_ix, wE_sl, wE_tup, wE_lst, wE_dnew, wE_call, wE_bi, wE_isi, wE_me, wE_lc0, wE_dc, wE_sset, wE_frz, wEs_nil, wEs_cons, wI_over, wI_rng1, wI_rng2, List.map_cons, List.map_nil, List.length_cons, List.length_nil, List.cons_append, List.nil_append, lk_0, lk_s, st_0, st_s, ix_0, ix_1, ix_2, Op2.o, Cm.o, BI.o, ME.o, ME.rv, is_o, eq_int, cmp_int, overT, nop_cmp, nop_chain, nop_and, nop_or, nop_not, nop_call, nop_bi, nop_ite, nop_ix, nop_v, nop_int, nop_op, nop_neg, nop_nop, wE_lc_cmp, wE_lc_chain, wE_lc_and, wE_lc_or, wE_lc_not, wE_lc_call, wE_lc_bi, wE_lc_ite, wE_lc_ix, wE_lc_v, List.replicate_succ, List.replicate_zero, Nat.reduceAdd, Nat.reduceSub, oT_s, oT_n, eq_io, eq_oi, is_i, is_n, Bool.xor_true, Bool.xor_false, Bool.false_xor, Bool.true_xor, Bool.not_true, Bool.not_false, mk_t, bodyC_n, bodyC_n1, bodyD_n, r0'', len_map]
          by_cases c1 : 0 ≤ i
          · by_cases c2 : i < (u.ws.length : Int)
            · by_cases c3 : 0 ≤ k
              · have hn : i.toNat < u.ls.length := by
                  rw [c.oku.lw]
                  omega
                have ei : i = ((i.toNat : Nat) : Int) := by omega
                have g : u.ls[i.toNat]? = some (u.ls.getD i.toNat []) := by
                  rw [List.getD_eq_getElem?_getD, List.getElem?_eq_getElem hn]
                  rfl
                have g' : ∀ {Q}, oIx (.tup (u.ls.map iTs)) (.int i) Hx Q = Q (iTs (u.ls.getD i.toNat [])) Hx := fun {Q} => by
                  rw [ei]
                  exact ix_at g
                simp only [c1, c2, c3, decide_true, wSs_cons, wSs_nil, wS_set, wS_unp, wS_setix, wS_aug, wS_expr, wS_ret, wS_retN, wS_ife, wS_for, wS_while, wS_pass, wS_brk, wS_cont, wE_v, wE_non, wE_bl, wE_int, wE_str, wE_neg, wE_op, wE_cmp, wE_chain, wE_and, wE_or, wE_not, wE_ite, wE_ix, wE_sl, wE_tup, wE_lst, wE_dnew, wE_call, wE_bi, wE_isi, wE_me, wE_lc0, wE_dc, wE_sset, wE_frz, wEs_nil, wEs_cons, wI_over, wI_rng1, wI_rng2, List.map_cons, List.map_nil, List.length_cons, List.length_nil, List.cons_append, List.nil_append, lk_0, lk_s, st_0, st_s, ix_0, ix_1, ix_2, Op2.o, Cm.o, BI.o, ME.o, ME.rv, is_o, eq_int, cmp_int, overT, nop_cmp, nop_chain, nop_and, nop_or, nop_not, nop_call, nop_bi, nop_ite, nop_ix, nop_v, nop_int, nop_op, nop_neg, nop_nop, wE_lc_cmp, wE_lc_chain, wE_lc_and, wE_lc_or, wE_lc_not, wE_lc_call, wE_lc_bi, wE_lc_ite, wE_lc_ix, wE_lc_v, List.replicate_succ, List.replicate_zero, Nat.reduceAdd, Nat.reduceSub, oT_s, oT_n, eq_io, eq_oi, is_i, is_n, Bool.xor_true, Bool.xor_false, Bool.false_xor, Bool.true_xor, Bool.not_true, Bool.not_false, mk_t, bodyC_n, bodyC_n1, bodyD_n, g', ix_at hl, eq_iTs, Bool.true_and] at no yes ⊢
                by_cases c4 : u.ls.getD i.toNat [] = lo.ls.getD s []
                · simp only [c4, decide_true, Bool.not_true, wSs_cons, wSs_nil, wS_set, wS_unp, wS_setix, wS_aug, wS_expr, wS_ret, wS_retN, wS_ife, wS_for, wS_while, wS_pass, wS_brk, wS_cont, wE_v, wE_non, wE_bl, wE_int, wE_str, wE_neg, wE_op, wE_cmp, wE_chain, wE_and, wE_or, wE_not, wE_ite, wE_ix, wE_sl, wE_tup, wE_lst, wE_dnew, wE_call, wE_bi, wE_isi, wE_me, wE_lc0, wE_dc, wE_sset, wE_frz, wEs_nil, wEs_cons, wI_over, wI_rng1, wI_rng2, List.map_cons, List.map_nil, List.length_cons, List.length_nil, List.cons_append, List.nil_append, lk_0, lk_s, st_0, st_s, ix_0, ix_1, ix_2, Op2.o, Cm.o, BI.o, ME.o, ME.rv, is_o, eq_int, cmp_int, overT, nop_cmp, nop_chain, nop_and, nop_or, nop_not, nop_call, nop_bi, nop_ite, nop_ix, nop_v, nop_int, nop_op, nop_neg, nop_nop, wE_lc_cmp, wE_lc_chain, wE_lc_and, wE_lc_or, wE_lc_not, wE_lc_call, wE_lc_bi, wE_lc_ite, wE_lc_ix, wE_lc_v, List.replicate_succ, List.replicate_zero, Nat.reduceAdd, Nat.reduceSub, oT_s, oT_n, eq_io, eq_oi, is_i, is_n, Bool.xor_true, Bool.xor_false, Bool.false_xor, Bool.true_xor, Bool.not_true, Bool.not_false, mk_t, bodyC_n, bodyC_n1, bodyD_n]
                  exact no _ (by simp only [c4, decide_true])
                · simp only [c4, decide_false, Bool.not_false, wSs_cons, wSs_nil, wS_set, wS_unp, wS_setix, wS_aug, wS_expr, wS_ret, wS_retN, wS_ife, wS_for, wS_while, wS_pass, wS_brk, wS_cont, wE_v, wE_non, wE_bl, wE_int, wE_str, wE_neg, wE_op, wE_cmp, wE_chain, wE_and, wE_or, wE_not, wE_ite, wE_ix, wE_sl, wE_tup, wE_lst, wE_dnew, wE_call, wE_bi, wE_isi, wE_me, wE_lc0, wE_dc, wE_sset, wE_frz, wEs_nil, wEs_cons, wI_over, wI_rng1, wI_rng2, List.map_cons, List.map_nil, List.length_cons, List.length_nil, List.cons_append, List.nil_append, lk_0, lk_s, st_0, st_s, ix_0, ix_1, ix_2, Op2.o, Cm.o, BI.o, ME.o, ME.rv, is_o, eq_int, cmp_int, overT, nop_cmp, nop_chain, nop_and, nop_or, nop_not, nop_call, nop_bi, nop_ite, nop_ix, nop_v, nop_int, nop_op, nop_neg, nop_nop, wE_lc_cmp, wE_lc_chain, wE_lc_and, wE_lc_or, wE_lc_not, wE_lc_call, wE_lc_bi, wE_lc_ite, wE_lc_ix, wE_lc_v, List.replicate_succ, List.replicate_zero, Nat.reduceAdd, Nat.reduceSub, oT_s, oT_n, eq_io, eq_oi, is_i, is_n, Bool.xor_true, Bool.xor_false, Bool.false_xor, Bool.true_xor, Bool.not_true, Bool.not_false, mk_t, bodyC_n, bodyC_n1, bodyD_n]
                  exact yes _ (by simp only [c4, decide_false])
              · simp only [c1, c2, c3, decide_true, decide_false, wSs_cons, wSs_nil, wS_set, wS_unp, wS_setix, wS_aug, wS_expr, wS_ret, wS_retN, wS_ife, wS_for, wS_while, wS_pass, wS_brk, wS_cont, wE_v, wE_non, wE_bl, wE_int, wE_str, wE_neg, wE_op, wE_cmp, wE_chain, wE_and, wE_or, wE_not, wE_ite, wE_ix, wE_sl, wE_tup, wE_lst, wE_dnew, wE_call, wE_bi, wE_isi, wE_me, wE_lc0, wE_dc, wE_sset, wE_frz, wEs_nil, wEs_cons, wI_over, wI_rng1, wI_rng2, List.map_cons, List.map_nil, List.length_cons, List.length_nil, List.cons_append, List.nil_append, lk_0, lk_s, st_0, st_s, ix_0, ix_1, ix_2, Op2.o, Cm.o, BI.o, ME.o, ME.rv, is_o, eq_int, cmp_int, overT, nop_cmp, nop_chain, nop_and, nop_or, nop_not, nop_call, nop_bi, nop_ite, nop_ix, nop_v, nop_int, nop_op, nop_neg, nop_nop, wE_lc_cmp, wE_lc_chain, wE_lc_and, wE_lc_or, wE_lc_not, wE_lc_call, wE_lc_bi, wE_lc_ite, wE_lc_ix, wE_lc_v, List.replicate_succ, List.replicate_zero, Nat.reduceAdd, Nat.reduceSub, oT_s, oT_n, eq_io, eq_oi, is_i, is_n, Bool.xor_true, Bool.xor_false, Bool.false_xor, Bool.true_xor, Bool.not_true, Bool.not_false, mk_t, bodyC_n, bodyC_n1, bodyD_n]
                exact yes _ (by simp [c3])
            · simp only [c1, c2, decide_true, decide_false, wSs_cons, wSs_nil, wS_set, wS_unp, wS_setix, wS_aug, wS_expr, wS_ret, wS_retN, wS_ife, wS_for, wS_while, wS_pass, wS_brk, wS_cont, wE_v, wE_non, wE_bl, wE_int, wE_str, wE_neg, wE_op, wE_cmp, wE_chain, wE_and, wE_or, wE_not, wE_ite, wE_ix, wE_sl, wE_tup, wE_lst, wE_dnew, wE_call, wE_bi, wE_isi, wE_me, wE_lc0, wE_dc, wE_sset, wE_frz, wEs_nil, wEs_cons, wI_over, wI_rng1, wI_rng2, List.map_cons, List.map_nil, List.length_cons, List.length_nil, List.cons_append, List.nil_append, lk_0, lk_s, st_0, st_s, ix_0, ix_1, ix_2, Op2.o, Cm.o, BI.o, ME.o, ME.rv, is_o, eq_int, cmp_int, overT, nop_cmp, nop_chain, nop_and, nop_or, nop_not, nop_call, nop_bi, nop_ite, nop_ix, nop_v, nop_int, nop_op, nop_neg, nop_nop, wE_lc_cmp, wE_lc_chain, wE_lc_and, wE_lc_or, wE_lc_not, wE_lc_call, wE_lc_bi, wE_lc_ite, wE_lc_ix, wE_lc_v, List.replicate_succ, List.replicate_zero, Nat.reduceAdd, Nat.reduceSub, oT_s, oT_n, eq_io, eq_oi, is_i, is_n, Bool.xor_true, Bool.xor_false, Bool.false_xor, Bool.true_xor, Bool.not_true, Bool.not_false, mk_t, bodyC_n, bodyC_n1, bodyD_n]
              exact yes _ (by simp [c2])
          · simp only [c1, decide_false, wSs_cons, wSs_nil, wS_set, wS_unp, wS_setix, wS_aug, wS_expr, wS_ret, wS_retN, wS_ife, wS_for, wS_while, wS_pass, wS_brk, wS_cont, wE_v, wE_non, wE_bl, wE_int, wE_str, wE_neg, wE_op, wE_cmp, wE_chain, wE_and, wE_or, wE_not, wE_ite, wE_ix, wE_sl, wE_tup, wE_lst, wE_dnew, wE_call, wE_bi, wE_isi, wE_me, wE_lc0, wE_dc, wE_sset, wE_frz, wEs_nil, wEs_cons, wI_over, wI_rng1, wI_rng2, List.map_cons, List.map_nil, List.length_cons, List.length_nil, List.cons_append, List.nil_append, lk_0, lk_s, st_0, st_s, ix_0, ix_1, ix_2, Op2.o, Cm.o, BI.o, ME.o, ME.rv, is_o, eq_int, cmp_int, overT, nop_cmp, nop_chain, nop_and, nop_or, nop_not, nop_call, nop_bi, nop_ite, nop_ix, nop_v, nop_int, nop_op, nop_neg, nop_nop, wE_lc_cmp, wE_lc_chain, wE_lc_and, wE_lc_or, wE_lc_not, wE_lc_call, wE_lc_bi, wE_lc_ite, wE_lc_ix, wE_lc_v, List.replicate_succ, List.replicate_zero, Nat.reduceAdd, Nat.reduceSub, oT_s, oT_n, eq_io, eq_oi, is_i, is_n, Bool.xor_true, Bool.xor_false, Bool.false_xor, Bool.true_xor, Bool.not_true, Bool.not_false, mk_t, bodyC_n, bodyC_n1, bodyD_n]
            exact yes _ (by simp [c1])
  simp only [b__law_breaches, start0, n__law_breaches, wSs_cons, wS_set, wE_lc_or, wI_over, wE_ix, wE_v, wE_int, List.map_cons, List.map_nil, List.length_cons, List.length_nil, Nat.reduceAdd, Nat.reduceSub, List.replicate_succ, List.replicate_zero, List.cons_append, List.nil_append, lk_0, lk_s, ix_0, overT]
  refine lc_filter (α := Nat) (enc := nT) (f := fun s => encB (.beg s)) (p := fun s => !bSee u.bs (sAt sn s)) trivial (fun s hs G g => ?_) (sz (by omega)) ?_
  · simp only [wSs_cons, wSs_nil, wS_set, wS_unp, wS_setix, wS_aug, wS_expr, wS_ret, wS_retN, wS_ife, wS_for, wS_while, wS_pass, wS_brk, wS_cont, wE_v, wE_non, wE_bl, wE_int, wE_str, wE_neg, wE_op, wE_cmp, wE_chain, wE_and, wE_or, wE_not, wE_ite, wE_ix, wE_sl, wE_tup, wE_lst, wE_dnew, wE_call, wE_bi, wE_isi, wE_me, wE_lc0, wE_dc, wE_sset, wE_frz, wEs_nil, wEs_cons, wI_over, wI_rng1, wI_rng2, List.map_cons, List.map_nil, List.length_cons, List.length_nil, List.cons_append, List.nil_append, lk_0, lk_s, st_0, st_s, ix_0, ix_1, ix_2, Op2.o, Cm.o, BI.o, ME.o, ME.rv, is_o, eq_int, cmp_int, overT, nop_cmp, nop_chain, nop_and, nop_or, nop_not, nop_call, nop_bi, nop_ite, nop_ix, nop_v, nop_int, nop_op, nop_neg, nop_nop, wE_lc_cmp, wE_lc_chain, wE_lc_and, wE_lc_or, wE_lc_not, wE_lc_call, wE_lc_bi, wE_lc_ite, wE_lc_ix, wE_lc_v, List.replicate_succ, List.replicate_zero, Nat.reduceAdd, Nat.reduceSub, oT_s, oT_n, eq_io, eq_oi, is_i, is_n, Bool.xor_true, Bool.xor_false, Bool.false_xor, Bool.true_xor, Bool.not_true, Bool.not_false, mk_t, bodyC_n, bodyC_n1, bodyD_n, ix_at (sAt_some (c.s3 hs)), in_o]
    cases e : sAt sn s with
    | none =>
      simp only [e, bSee, Bool.not_false, if_true] at g
      simp only [Option.isNone]
      exact ⟨sz (by decide), g⟩
    | some i =>
      simp only [Option.isNone, Bool.true_xor]
      simp only [e, bSee] at g
      simp only [inO]
      by_cases m : i ∈ ofN u.bs
      · simp only [m, decide_true, Bool.not_true, Bool.false_eq_true, if_false] at g ⊢
        exact g
      · simp only [m, decide_false, Bool.not_false, if_true] at g ⊢
        exact ⟨sz (by decide), g⟩
  simp only [mk_f]
  intro p hp
  simp only [wSs_cons, wSs_nil, wS_set, wS_unp, wS_setix, wS_aug, wS_expr, wS_ret, wS_retN, wS_ife, wS_for, wS_while, wS_pass, wS_brk, wS_cont, wE_v, wE_non, wE_bl, wE_int, wE_str, wE_neg, wE_op, wE_cmp, wE_chain, wE_and, wE_or, wE_not, wE_ite, wE_ix, wE_sl, wE_tup, wE_lst, wE_dnew, wE_call, wE_bi, wE_isi, wE_me, wE_lc0, wE_dc, wE_sset, wE_frz, wEs_nil, wEs_cons, wI_over, wI_rng1, wI_rng2, List.map_cons, List.map_nil, List.length_cons, List.length_nil, List.cons_append, List.nil_append, lk_0, lk_s, st_0, st_s, ix_0, ix_1, ix_2, Op2.o, Cm.o, BI.o, ME.o, ME.rv, is_o, eq_int, cmp_int, overT, nop_cmp, nop_chain, nop_and, nop_or, nop_not, nop_call, nop_bi, nop_ite, nop_ix, nop_v, nop_int, nop_op, nop_neg, nop_nop, wE_lc_cmp, wE_lc_chain, wE_lc_and, wE_lc_or, wE_lc_not, wE_lc_call, wE_lc_bi, wE_lc_ite, wE_lc_ix, wE_lc_v, List.replicate_succ, List.replicate_zero, Nat.reduceAdd, Nat.reduceSub, oT_s, oT_n, eq_io, eq_oi, is_i, is_n, Bool.xor_true, Bool.xor_false, Bool.false_xor, Bool.true_xor, Bool.not_true, Bool.not_false, mk_t, bodyC_n, bodyC_n1, bodyD_n]
  refine lc_filter (α := Nat) (enc := nT) (f := fun s => encB (.uns s)) (p := fun x : Nat => decide ((seenBy lo.bs sn (some (x : Int))).length = 0)) trivial (fun x hx G g => ?_) (sz (by omega)) ?_
  · simp only [wSs_cons, wSs_nil, wS_set, wS_unp, wS_setix, wS_aug, wS_expr, wS_ret, wS_retN, wS_ife, wS_for, wS_while, wS_pass, wS_brk, wS_cont, wE_v, wE_non, wE_bl, wE_int, wE_str, wE_neg, wE_op, wE_cmp, wE_chain, wE_and, wE_or, wE_not, wE_ite, wE_ix, wE_sl, wE_tup, wE_lst, wE_dnew, wE_call, wE_bi, wE_isi, wE_me, wE_lc0, wE_dc, wE_sset, wE_frz, wEs_nil, wEs_cons, wI_over, wI_rng1, wI_rng2, List.map_cons, List.map_nil, List.length_cons, List.length_nil, List.cons_append, List.nil_append, lk_0, lk_s, st_0, st_s, ix_0, ix_1, ix_2, Op2.o, Cm.o, BI.o, ME.o, ME.rv, is_o, eq_int, cmp_int, overT, nop_cmp, nop_chain, nop_and, nop_or, nop_not, nop_call, nop_bi, nop_ite, nop_ix, nop_v, nop_int, nop_op, nop_neg, nop_nop, wE_lc_cmp, wE_lc_chain, wE_lc_and, wE_lc_or, wE_lc_not, wE_lc_call, wE_lc_bi, wE_lc_ite, wE_lc_ix, wE_lc_v, List.replicate_succ, List.replicate_zero, Nat.reduceAdd, Nat.reduceSub, oT_s, oT_n, eq_io, eq_oi, is_i, is_n, Bool.xor_true, Bool.xor_false, Bool.false_xor, Bool.true_xor, Bool.not_true, Bool.not_false, mk_t, bodyC_n, bodyC_n1, bodyD_n, h30]
    refine ⟨lo.bs, sn, some (x : Int), rfl, fun s hs => c.s3 hs, by omega, ?_⟩
    simp only [len_lmap, wSs_cons, wSs_nil, wS_set, wS_unp, wS_setix, wS_aug, wS_expr, wS_ret, wS_retN, wS_ife, wS_for, wS_while, wS_pass, wS_brk, wS_cont, wE_v, wE_non, wE_bl, wE_int, wE_str, wE_neg, wE_op, wE_cmp, wE_chain, wE_and, wE_or, wE_not, wE_ite, wE_ix, wE_sl, wE_tup, wE_lst, wE_dnew, wE_call, wE_bi, wE_isi, wE_me, wE_lc0, wE_dc, wE_sset, wE_frz, wEs_nil, wEs_cons, wI_over, wI_rng1, wI_rng2, List.map_cons, List.map_nil, List.length_cons, List.length_nil, List.cons_append, List.nil_append, lk_0, lk_s, st_0, st_s, ix_0, ix_1, ix_2, Op2.o, Cm.o, BI.o, ME.o, ME.rv, is_o, eq_int, cmp_int, overT, nop_cmp, nop_chain, nop_and, nop_or, nop_not, nop_call, nop_bi, nop_ite, nop_ix, nop_v, nop_int, nop_op, nop_neg, nop_nop, wE_lc_cmp, wE_lc_chain, wE_lc_and, wE_lc_or, wE_lc_not, wE_lc_call, wE_lc_bi, wE_lc_ite, wE_lc_ix, wE_lc_v, List.replicate_succ, List.replicate_zero, Nat.reduceAdd, Nat.reduceSub, oT_s, oT_n, eq_io, eq_oi, is_i, is_n, Bool.xor_true, Bool.xor_false, Bool.false_xor, Bool.true_xor, Bool.not_true, Bool.not_false, mk_t, bodyC_n, bodyC_n1, bodyD_n, len00]
    by_cases e : (seenBy lo.bs sn (some (x : Int))).length = 0
    · simp only [e, decide_true, if_true] at g ⊢
      exact ⟨sz (by decide), g⟩
    · simp only [e, decide_false, if_false, Bool.false_eq_true] at g ⊢
      exact g
  have e0 : (lo.bs.filter fun s => !bSee u.bs (sAt sn s)).map (fun s => encB (.beg s)) ++ (u.bs.filter fun x : Nat => decide ((seenBy lo.bs sn (some (x : Int))).length = 0)).map (fun s => encB (.uns s)) = (begB lo u sn).map encB := by
    simp only [begB, List.map_append, List.map_map]
    rfl
  rw [add_rl up_same, e0]
  have a1 : (lo.bs.filter fun s => !bSee u.bs (sAt sn s)).length ≤ lo.bs.length := List.length_filter_le ..
  have a2 : (u.bs.filter fun x : Nat => decide ((seenBy lo.bs sn (some (x : Int))).length = 0)).length ≤ u.bs.length := List.length_filter_le ..
  refine ⟨sz (by rw [List.length_map, List.length_map]; omega), fun q hq => ?_⟩
  have o := (One.mk0 (A := .lst ((lo.bs.filter fun s => !bSee u.bs (sAt sn s)).map fun s => encB (.beg s))) hp).new (B := .lst ((begB lo u sn).map encB)) hq
  generalize up (up H p _) q _ = Hq at o ⊢
  simp only [wSs_cons, wS_ife, wE_cmp, Cm.o, wE_bi, BI.o, wEs_cons, wEs_nil, wE_v, lk_0, lk_s, st_0, st_s, wE_int, len_l o.q, cmp_int, gt0]
  unfold breaches within at hQ
  by_cases e1 : begB lo u sn = []
  · rw [if_pos e1] at hQ
    simp only [e1, decide_true, Bool.not_true, wSs_nil, wSs_cons, wS_set, wE_call, wEs_cons, wEs_nil, wE_v, lk_0, lk_s, st_0, st_s, wE_ix, wE_int, ix_0, h28]
    refine ⟨lo, rfl, c.okl, ?_⟩
    rw [e1] at o
    refine d4 (stt lo) [] q _ _ Hq _ rfl (Nat.zero_le _) o fun x y Hy o2 => ?_
    simp only [wSs_cons, wS_ife, wE_cmp, Cm.o, wE_bi, BI.o, wEs_cons, wEs_nil, wE_v, lk_0, lk_s, st_0, st_s, wE_int, len_l o2.q, cmp_int, gt0]
    by_cases e2 : litB lo u sn rk (stt lo) = []
    · rw [if_pos e2] at hQ
      simp only [e2, decide_true, Bool.not_true, wSs_nil, wSs_cons, wS_for, wI_over, wE_v, lk_0, lk_s, overT]
      rw [e2] at o2
      have sd := litB_nil e2
      refine d3 (stt lo) [] q _ _ _ Hy _ sd rfl (Nat.zero_le _) o2 fun x y z Hz o3 => ?_
      simp only [wSs_cons, wS_ife, wE_cmp, Cm.o, wE_bi, BI.o, wEs_cons, wEs_nil, wE_v, lk_0, lk_s, st_0, st_s, wE_int, len_l o3.q, cmp_int, gt0]
      by_cases e3 : wayB lo u sn rk (stt lo) = []
      · rw [if_pos e3] at hQ
        simp only [e3, decide_true, Bool.not_true, wSs_nil, wSs_cons, wS_for, wI_over, wE_v, lk_0, lk_s, overT]
        rw [e3] at o3
        exact d1 (stt lo) [] q [] _ _ _ _ Hz sd rfl rfl (Nat.zero_le _) o3 hQ
      · rw [if_neg e3] at hQ
        simp only [e3, decide_false, Bool.not_false, wSs_cons, wS_ret, wE_frz, wE_v, lk_0, lk_s, frz_l o3.q]
        exact rts o3.del hQ
    · rw [if_neg e2, if_neg e2] at hQ
      simp only [e2, decide_false, Bool.not_false, wSs_cons, wS_ret, wE_frz, wE_v, lk_0, lk_s, frz_l o2.q]
      exact rts o2.del hQ
  · rw [if_neg e1, if_neg e1] at hQ
    simp only [e1, decide_false, Bool.not_false, wSs_cons, wS_ret, wE_frz, wE_v, lk_0, lk_s, frz_l o.q]
    exact rts o.del hQ
end K80
set_option maxRecDepth 100000
set_option maxHeartbeats 1000000
namespace K80
open PySem PySem.Spec L2 TL
/-! ### small sets of numbers -/
def nset (l : List Nat) : List Nat := (sset (ofN l)).map Int.toNat
theorem nset_ofN (l : List Nat) : ofN (nset l) = sset (ofN l) := by
  unfold nset ofN
  rw [List.map_map]
  refine (List.map_congr_left (g := id) fun x hx => ?_).trans (List.map_id _)
  obtain ⟨n, _, e⟩ := List.mem_map.mp (mem_sset.mp hx)
  show ((x.toNat : Nat) : Int) = x
  omega
theorem nset_T (l : List Nat) : (sset (ofN l)).map T.int = (nset l).map nT := by rw [← nset_ofN, ints_ofN]
theorem mem_nset {l : List Nat} {x : Nat} : x ∈ nset l ↔ x ∈ l := by
  have h : (x : Int) ∈ ofN (nset l) ↔ (x : Int) ∈ ofN l := by rw [nset_ofN, mem_sset]
  rw [mem_ofN, mem_ofN] at h
  constructor
  · intro m
    obtain ⟨n, hn, e⟩ := h.mp ⟨x, m, rfl⟩
    have : n = x := by omega
    exact this ▸ hn
  · intro m
    obtain ⟨n, hn, e⟩ := h.mpr ⟨x, m, rfl⟩
    have : n = x := by omega
    exact this ▸ hn
theorem nset_nd (l : List Nat) : (nset l).Nodup := by
  have h := sset_lt (ofN l)
  rw [← nset_ofN] at h
  unfold ofN at h
  rw [List.pairwise_map] at h
  exact h.imp fun {a b} hab e => by omega
theorem sset_n {l : List Nat} {H : TH} {Q : TL.KT} : ssetT true (.lst (l.map nT)) H Q = (l.length < 64 ∧ Q (.lst ((nset l).map nT)) H) := by
  have hi : asInts (l.map nT) = some (ofN l) := by
    rw [← ints_ofN]
    exact asInts_map _
  have hl : (ofN l).length = l.length := List.length_map ..
  simp only [ssetT, seqOf, hi, hl, mk_t, nset_T]
/-! ### _law_is_within -/
def kindB : Brc → Str
  | .beg _ => "begin"
  | .uns _ => "unseen"
  | .lit _ => "lights"
  | .way _ _ => "way"
  | .nxt _ _ => "next"
def isNxt : Brc → Bool
  | .nxt _ _ => true
  | _ => false
def okB : List Brc → Bool
  | [] => true
  | b :: _ => isNxt b
theorem ix_kind {b : Brc} {H : TH} {Q : TL.KT} : oIx (encB b) (.int 0) H Q = Q (.str (kindB b)) H := by
  cases b <;> exact ix_0
theorem eq_kind {b : Brc} {H : TH} {Q : TL.KT} : oEq false (.str (kindB b)) (.str "next") H Q = Q (.bl (isNxt b)) H := by
  have h0 : TL.shp (.str "next") = true := by decide +kernel
  have h : TL.shp (.str (kindB b)) = true := by
    cases b with
    | beg _ => show TL.shp (.str "begin") = true; decide +kernel
    | uns _ => show TL.shp (.str "unseen") = true; decide +kernel
    | lit _ => show TL.shp (.str "lights") = true; decide +kernel
    | way _ _ => show TL.shp (.str "way") = true; decide +kernel
    | nxt _ _ => show TL.shp (.str "next") = true; decide +kernel
  have e : eqT (.str (kindB b)) (.str "next") = isNxt b := by
    cases b with
    | beg _ => show eqT (.str "begin") (.str "next") = false; decide +kernel
    | uns _ => show eqT (.str "unseen") (.str "next") = false; decide +kernel
    | lit _ => show eqT (.str "lights") (.str "next") = false; decide +kernel
    | way _ _ => show eqT (.str "way") (.str "next") = false; decide +kernel
    | nxt _ _ => show eqT (.str "next") (.str "next") = true; decide +kernel
  simp only [oEq, h, h0, e, and_self, true_and, Bool.false_xor]
theorem gtE {α β : Type} {f : α → β} {l : List α} : decide ((0 : Int) < ((l.map f).length : Int)) = !l.isEmpty := by
  cases l with
  | nil => rfl
  | cons a l =>
    rw [List.map_cons, List.length_cons]
    exact decide_eq_true (by omega)
theorem filt_emp {α : Type} {p : α → Bool} {l : List α} : (l.filter fun a => !p a).isEmpty = l.all p := by
  induction l with
  | nil => rfl
  | cons a l ih =>
    cases h : p a with
    | true => rw [List.filter_cons_of_neg (by rw [h]; simp), ih, List.all_cons, h, Bool.true_and]
    | false => rw [List.filter_cons_of_pos (by rw [h]; rfl), List.all_cons, h, Bool.false_and]; rfl
def seenBegins (lo u : Wd) (sn : List (Option Int)) : Wd := ⟨nset (lo.bs.map (seenN sn)), u.ws, u.ls⟩
theorem bSee_some {bs : List Nat} {o : Option Int} (h : bSee bs o = true) : ∃ a : Nat, o = some (a : Int) ∧ a ∈ bs := by
  cases o with
  | none => cases h
  | some i =>
    obtain ⟨n, hn, e⟩ := mem_ofN.mp (of_decide_eq_true h)
    exact ⟨n, by rw [e], hn⟩
theorem seenBegins_ok {lo u : Wd} {sn : List (Option Int)} (ok : u.Ok) (h : (lo.bs.all fun s => bSee u.bs (sAt sn s)) = true) : (seenBegins lo u sn).Ok := by
  refine ⟨ok.small, ok.lw, fun x hx => ?_, nset_nd _, ok.win, ok.wnd⟩
  obtain ⟨s, hs, e⟩ := List.mem_map.mp (mem_nset.mp hx)
  obtain ⟨a, ha, m⟩ := bSee_some (List.all_eq_true.mp h s hs)
  rw [seenN_eq ha] at e
  exact e ▸ ok.bin a m
theorem seenBegins_beg {lo u : Wd} {sn : List (Option Int)} (h : (lo.bs.all fun s => bSee u.bs (sAt sn s)) = true) : begB lo (seenBegins lo u sn) sn = [] := by
  unfold begB
  rw [List.append_eq_nil_iff, List.map_eq_nil_iff, List.map_eq_nil_iff, List.filter_eq_nil_iff, List.filter_eq_nil_iff]
  constructor
  · intro s hs
    obtain ⟨a, ha, m⟩ := bSee_some (List.all_eq_true.mp h s hs)
    rw [ha]
    have : (a : Int) ∈ ofN (seenBegins lo u sn).bs := mem_ofN.mpr ⟨a, mem_nset.mpr (List.mem_map.mpr ⟨s, hs, seenN_eq ha⟩), rfl⟩
    show ¬ (!decide _) = true
    rw [decide_eq_true this]
    simp
  · intro x hx
    obtain ⟨s, hs, e⟩ := List.mem_map.mp (mem_nset.mp hx)
    obtain ⟨a, ha, m⟩ := bSee_some (List.all_eq_true.mp h s hs)
    rw [seenN_eq ha] at e
    subst e
    have : s ∈ seenBy lo.bs sn (some (a : Int)) := mem_seenBy.mpr ⟨hs, ha⟩
    have := List.length_pos_of_mem this
    simp only [decide_eq_true_eq]
    omega
theorem okB_map {α : Type} {f : α → Brc} (h : ∀ a, isNxt (f a) = false) {l : List α} : okB (l.map f) = decide (l.map f = []) := by
  cases l with
  | nil => rfl
  | cons a l =>
    show isNxt (f a) = _
    rw [h]
    simp
theorem okB_all {p : Bool} {l : List Brc} (h : ∀ b ∈ l, isNxt b = p) (n : l ≠ []) : okB l = p := by
  cases l with
  | nil => exact absurd rfl n
  | cons b l => exact h b List.mem_cons_self
theorem seenBegins_in {lo u : Wd} {sn rk : List (Option Int)} (h : (lo.bs.all fun s => bSee u.bs (sAt sn s)) = true) : okB (breaches lo (seenBegins lo u sn) sn rk) = isWithin lo u sn rk := by
  have e1 : litB lo (seenBegins lo u sn) sn rk (stt lo) = litB lo u sn rk (stt lo) := rfl
  have e2 : wayB lo (seenBegins lo u sn) sn rk (stt lo) = wayB lo u sn rk (stt lo) := rfl
  unfold isWithin breaches within
  rw [h, Bool.true_and, if_pos (seenBegins_beg h), e1, e2]
  by_cases c1 : litB lo u sn rk (stt lo) = []
  · rw [if_pos c1, decide_eq_true c1, Bool.true_and]
    by_cases c2 : wayB lo u sn rk (stt lo) = []
    · rw [if_pos c2, decide_eq_true c2]
      by_cases c3 : nxtB lo (seenBegins lo u sn) sn (stt lo) = []
      · rw [c3]
        rfl
      · refine okB_all (fun b hb => ?_) c3
        obtain ⟨s, _, m⟩ := List.mem_flatMap.mp hb
        obtain ⟨x, _, e⟩ := List.mem_map.mp m
        rw [← e]
        rfl
    · rw [if_neg c2, decide_eq_false c2]
      refine okB_all (fun b hb => ?_) c2
      obtain ⟨s, _, m⟩ := List.mem_flatMap.mp hb
      obtain ⟨x, _, e⟩ := List.mem_map.mp m
      rw [← e]
      rfl
  · rw [if_neg c1, if_neg c1, decide_eq_false c1, Bool.false_and]
    refine okB_all (fun b hb => ?_) c1
    obtain ⟨x, _, e⟩ := List.mem_map.mp hb
    rw [← e]
    rfl
theorem w_law_is_within {C : Nat → TSp} (h32 : C 32 = sp_law_breaches) (ts : List T) (H : TH) (Q : TL.KT) (h : sp_judge_within_step ts H Q) : wSs C b__law_is_within (bodyEnds Q) (start0 n__law_is_within ts) H := by
  obtain ⟨lo, u, sn, rk, rfl, c, q⟩ := h
  have hb := bs_len c.okl
  simp only [b__law_is_within, start0, n__law_is_within, wSs_cons, wSs_nil, wS_set, wS_unp, wS_setix, wS_aug, wS_expr, wS_ret, wS_retN, wS_ife, wS_for, wS_while, wS_pass, wS_brk, wS_cont, wE_v, wE_non, wE_bl, wE_int, wE_str, wE_neg, wE_op, wE_cmp, wE_chain, wE_and, wE_or, wE_not, wE_ite, wE_ix, wE_sl, wE_tup, wE_lst, wE_dnew, wE_call, wE_bi, wE_isi, wE_me, wE_lc0, wE_dc, wE_sset, wE_frz, wEs_nil, wEs_cons, wI_over, wI_rng1, wI_rng2, List.map_cons, List.map_nil, List.length_cons, List.length_nil, List.cons_append, List.nil_append, lk_0, lk_s, st_0, st_s, ix_0, ix_1, ix_2, Op2.o, Cm.o, BI.o, ME.o, ME.rv, is_o, eq_int, cmp_int, overT, nop_cmp, nop_chain, nop_and, nop_or, nop_not, nop_call, nop_bi, nop_ite, nop_ix, nop_v, nop_int, nop_op, nop_neg, nop_nop, wE_lc_cmp, wE_lc_chain, wE_lc_and, wE_lc_or, wE_lc_not, wE_lc_call, wE_lc_bi, wE_lc_ite, wE_lc_ix, wE_lc_v, List.replicate_succ, List.replicate_zero, Nat.reduceAdd, Nat.reduceSub, oT_s, oT_n, eq_io, eq_oi, is_i, is_n, Bool.xor_true, Bool.xor_false, Bool.false_xor, Bool.true_xor, Bool.not_true, Bool.not_false, mk_t, bodyC_n, bodyC_n1, bodyD_n]
  refine lc_filter (α := Nat) (enc := nT) (f := nT) (p := fun s => !bSee u.bs (sAt sn s)) trivial (fun s hs G g => ?_) (sz (by omega)) ?_
  · simp only [wSs_cons, wSs_nil, wS_set, wS_unp, wS_setix, wS_aug, wS_expr, wS_ret, wS_retN, wS_ife, wS_for, wS_while, wS_pass, wS_brk, wS_cont, wE_v, wE_non, wE_bl, wE_int, wE_str, wE_neg, wE_op, wE_cmp, wE_chain, wE_and, wE_or, wE_not, wE_ite, wE_ix, wE_sl, wE_tup, wE_lst, wE_dnew, wE_call, wE_bi, wE_isi, wE_me, wE_lc0, wE_dc, wE_sset, wE_frz, wEs_nil, wEs_cons, wI_over, wI_rng1, wI_rng2, List.map_cons, List.map_nil, List.length_cons, List.length_nil, List.cons_append, List.nil_append, lk_0, lk_s, st_0, st_s, ix_0, ix_1, ix_2, Op2.o, Cm.o, BI.o, ME.o, ME.rv, is_o, eq_int, cmp_int, overT, nop_cmp, nop_chain, nop_and, nop_or, nop_not, nop_call, nop_bi, nop_ite, nop_ix, nop_v, nop_int, nop_op, nop_neg, nop_nop, wE_lc_cmp, wE_lc_chain, wE_lc_and, wE_lc_or, wE_lc_not, wE_lc_call, wE_lc_bi, wE_lc_ite, wE_lc_ix, wE_lc_v, List.replicate_succ, List.replicate_zero, Nat.reduceAdd, Nat.reduceSub, oT_s, oT_n, eq_io, eq_oi, is_i, is_n, Bool.xor_true, Bool.xor_false, Bool.false_xor, Bool.true_xor, Bool.not_true, Bool.not_false, mk_t, bodyC_n, bodyC_n1, bodyD_n, ix_at (sAt_some (c.s3 hs)), in_o]
    cases e : sAt sn s with
    | none =>
      simp only [e, bSee, Bool.not_false, if_true] at g
      simp only [Option.isNone]
      exact g
    | some i =>
      simp only [Option.isNone, Bool.true_xor]
      simp only [e, bSee] at g
      simp only [inO]
      by_cases m : i ∈ ofN u.bs
      · simp only [m, decide_true, Bool.not_true, Bool.false_eq_true, if_false] at g ⊢
        exact g
      · simp only [m, decide_false, Bool.not_false, if_true] at g ⊢
        exact g
  simp only [cLen, seqOf, wSs_cons, wSs_nil, wS_set, wS_unp, wS_setix, wS_aug, wS_expr, wS_ret, wS_retN, wS_ife, wS_for, wS_while, wS_pass, wS_brk, wS_cont, wE_v, wE_non, wE_bl, wE_int, wE_str, wE_neg, wE_op, wE_cmp, wE_chain, wE_and, wE_or, wE_not, wE_ite, wE_ix, wE_sl, wE_tup, wE_lst, wE_dnew, wE_call, wE_bi, wE_isi, wE_me, wE_lc0, wE_dc, wE_sset, wE_frz, wEs_nil, wEs_cons, wI_over, wI_rng1, wI_rng2, List.map_cons, List.map_nil, List.length_cons, List.length_nil, List.cons_append, List.nil_append, lk_0, lk_s, st_0, st_s, ix_0, ix_1, ix_2, Op2.o, Cm.o, BI.o, ME.o, ME.rv, is_o, eq_int, cmp_int, overT, nop_cmp, nop_chain, nop_and, nop_or, nop_not, nop_call, nop_bi, nop_ite, nop_ix, nop_v, nop_int, nop_op, nop_neg, nop_nop, wE_lc_cmp, wE_lc_chain, wE_lc_and, wE_lc_or, wE_lc_not, wE_lc_call, wE_lc_bi, wE_lc_ite, wE_lc_ix, wE_lc_v, List.replicate_succ, List.replicate_zero, Nat.reduceAdd, Nat.reduceSub, oT_s, oT_n, eq_io, eq_oi, is_i, is_n, Bool.xor_true, Bool.xor_false, Bool.false_xor, Bool.true_xor, Bool.not_true, Bool.not_false, mk_t, bodyC_n, bodyC_n1, bodyD_n, gtE, filt_emp]
  cases e : lo.bs.all fun s => bSee u.bs (sAt sn s) with
  | false =>
    simp only [Bool.not_false]
    unfold isWithin at q
    rw [e, Bool.false_and] at q
    exact rtn q
  | true =>
    simp only [Bool.not_true, wSs_cons, wSs_nil, wS_set, wS_unp, wS_setix, wS_aug, wS_expr, wS_ret, wS_retN, wS_ife, wS_for, wS_while, wS_pass, wS_brk, wS_cont, wE_v, wE_non, wE_bl, wE_int, wE_str, wE_neg, wE_op, wE_cmp, wE_chain, wE_and, wE_or, wE_not, wE_ite, wE_ix, wE_sl, wE_tup, wE_lst, wE_dnew, wE_call, wE_bi, wE_isi, wE_me, wE_lc0, wE_dc, wE_sset, wE_frz, wEs_nil, wEs_cons, wI_over, wI_rng1, wI_rng2, List.map_cons, List.map_nil, List.length_cons, List.length_nil, List.cons_append, List.nil_append, lk_0, lk_s, st_0, st_s, ix_0, ix_1, ix_2, Op2.o, Cm.o, BI.o, ME.o, ME.rv, is_o, eq_int, cmp_int, overT, nop_cmp, nop_chain, nop_and, nop_or, nop_not, nop_call, nop_bi, nop_ite, nop_ix, nop_v, nop_int, nop_op, nop_neg, nop_nop, wE_lc_cmp, wE_lc_chain, wE_lc_and, wE_lc_or, wE_lc_not, wE_lc_call, wE_lc_bi, wE_lc_ite, wE_lc_ix, wE_lc_v, List.replicate_succ, List.replicate_zero, Nat.reduceAdd, Nat.reduceSub, oT_s, oT_n, eq_io, eq_oi, is_i, is_n, Bool.xor_true, Bool.xor_false, Bool.false_xor, Bool.true_xor, Bool.not_true, Bool.not_false, mk_t, bodyC_n, bodyC_n1, bodyD_n]
    refine lc_map (α := Nat) (enc := nT) (f := fun s => nT (seenN sn s)) trivial (fun s hs G g => ?_) (sz (by omega)) ?_
    · obtain ⟨a, ha, _⟩ := bSee_some (List.all_eq_true.mp e s hs)
      rw [seenN_eq ha] at g
      have e1 := sAt_some (c.s3 hs)
      rw [ha] at e1
      simp only [wSs_cons, wSs_nil, wS_set, wS_unp, wS_setix, wS_aug, wS_expr, wS_ret, wS_retN, wS_ife, wS_for, wS_while, wS_pass, wS_brk, wS_cont, wE_v, wE_non, wE_bl, wE_int, wE_str, wE_neg, wE_op, wE_cmp, wE_chain, wE_and, wE_or, wE_not, wE_ite, wE_ix, wE_sl, wE_tup, wE_lst, wE_dnew, wE_call, wE_bi, wE_isi, wE_me, wE_lc0, wE_dc, wE_sset, wE_frz, wEs_nil, wEs_cons, wI_over, wI_rng1, wI_rng2, List.map_cons, List.map_nil, List.length_cons, List.length_nil, List.cons_append, List.nil_append, lk_0, lk_s, st_0, st_s, ix_0, ix_1, ix_2, Op2.o, Cm.o, BI.o, ME.o, ME.rv, is_o, eq_int, cmp_int, overT, nop_cmp, nop_chain, nop_and, nop_or, nop_not, nop_call, nop_bi, nop_ite, nop_ix, nop_v, nop_int, nop_op, nop_neg, nop_nop, wE_lc_cmp, wE_lc_chain, wE_lc_and, wE_lc_or, wE_lc_not, wE_lc_call, wE_lc_bi, wE_lc_ite, wE_lc_ix, wE_lc_v, List.replicate_succ, List.replicate_zero, Nat.reduceAdd, Nat.reduceSub, oT_s, oT_n, eq_io, eq_oi, is_i, is_n, Bool.xor_true, Bool.xor_false, Bool.false_xor, Bool.true_xor, Bool.not_true, Bool.not_false, mk_t, bodyC_n, bodyC_n1, bodyD_n, ix_at e1]
      exact g
    · have e1 : lo.bs.map (fun s => nT (seenN sn s)) = (lo.bs.map (seenN sn)).map nT := by
        rw [List.map_map]
        rfl
      rw [e1]
      simp only [mk_t, sset_n, List.length_map, cTuple, seqOf, wSs_cons, wSs_nil, wS_set, wS_unp, wS_setix, wS_aug, wS_expr, wS_ret, wS_retN, wS_ife, wS_for, wS_while, wS_pass, wS_brk, wS_cont, wE_v, wE_non, wE_bl, wE_int, wE_str, wE_neg, wE_op, wE_cmp, wE_chain, wE_and, wE_or, wE_not, wE_ite, wE_ix, wE_sl, wE_tup, wE_lst, wE_dnew, wE_call, wE_bi, wE_isi, wE_me, wE_lc0, wE_dc, wE_sset, wE_frz, wEs_nil, wEs_cons, wI_over, wI_rng1, wI_rng2, List.map_cons, List.map_nil, List.length_cons, List.length_nil, List.cons_append, List.nil_append, lk_0, lk_s, st_0, st_s, ix_0, ix_1, ix_2, Op2.o, Cm.o, BI.o, ME.o, ME.rv, is_o, eq_int, cmp_int, overT, nop_cmp, nop_chain, nop_and, nop_or, nop_not, nop_call, nop_bi, nop_ite, nop_ix, nop_v, nop_int, nop_op, nop_neg, nop_nop, wE_lc_cmp, wE_lc_chain, wE_lc_and, wE_lc_or, wE_lc_not, wE_lc_call, wE_lc_bi, wE_lc_ite, wE_lc_ix, wE_lc_v, List.replicate_succ, List.replicate_zero, Nat.reduceAdd, Nat.reduceSub, oT_s, oT_n, eq_io, eq_oi, is_i, is_n, Bool.xor_true, Bool.xor_false, Bool.false_xor, Bool.true_xor, Bool.not_true, Bool.not_false, mk_t, bodyC_n, bodyC_n1, bodyD_n, h32]
      refine ⟨by omega, sz (by decide), ?_⟩
      refine ⟨lo, seenBegins lo u sn, sn, rk, oTs rk, rfl, ⟨c.okl, seenBegins_ok c.oku e, c.sn, c.rk⟩, IxR.tup, ?_⟩
      have q2 := q
      rw [← seenBegins_in e] at q2
      have big : (breaches lo (seenBegins lo u sn) sn rk).length ≤ 100000 := by
        have h1 := begB_len ⟨c.okl, seenBegins_ok c.oku e, c.sn, c.rk⟩ (sn := sn) (rk := rk)
        have hS := stt60 c.okl
        have h2 : (litB lo (seenBegins lo u sn) sn rk (stt lo)).length ≤ 60 := by
          unfold litB
          rw [List.length_map]
          exact Nat.le_trans (List.length_filter_le ..) hS
        have fm : ∀ (S : List Nat) (f : Nat → List Brc), (∀ s, (f s).length ≤ 60) → (S.flatMap f).length ≤ 60 * S.length := by
          intro S f hf
          induction S with
          | nil => simp
          | cons a S ih =>
            rw [List.flatMap_cons, List.length_append, List.length_cons]
            have := hf a
            omega
        have h3 : (wayB lo (seenBegins lo u sn) sn rk (stt lo)).length ≤ 60 * (stt lo).length := fm _ _ fun s => by
          rw [List.length_map]
          exact Nat.le_trans (List.length_filter_le ..) (nx_len c.okl s)
        have h4 : (nxtB lo (seenBegins lo u sn) sn (stt lo)).length ≤ 60 * (stt lo).length := fm _ _ fun s => by
          rw [List.length_map]
          exact Nat.le_trans (List.length_filter_le ..) (nx_len (seenBegins_ok c.oku e) _)
        unfold breaches within
        rw [if_pos (seenBegins_beg e)]
        by_cases z1 : litB lo (seenBegins lo u sn) sn rk (stt lo) = []
        · rw [if_pos z1]
          by_cases z2 : wayB lo (seenBegins lo u sn) sn rk (stt lo) = []
          · rw [if_pos z2]
            omega
          · rw [if_neg z2]
            omega
        · rw [if_neg z1, if_neg z1]
          omega
      generalize breaches lo (seenBegins lo u sn) sn rk = B at q2 big ⊢
      refine lc_map (α := Brc) (enc := encB) (f := fun b => .str (kindB b)) trivial (fun b hb G g => ?_) (sz (by omega)) ?_
      · simp only [wSs_cons, wSs_nil, wS_set, wS_unp, wS_setix, wS_aug, wS_expr, wS_ret, wS_retN, wS_ife, wS_for, wS_while, wS_pass, wS_brk, wS_cont, wE_v, wE_non, wE_bl, wE_int, wE_str, wE_neg, wE_op, wE_cmp, wE_chain, wE_and, wE_or, wE_not, wE_ite, wE_ix, wE_sl, wE_tup, wE_lst, wE_dnew, wE_call, wE_bi, wE_isi, wE_me, wE_lc0, wE_dc, wE_sset, wE_frz, wEs_nil, wEs_cons, wI_over, wI_rng1, wI_rng2, List.map_cons, List.map_nil, List.length_cons, List.length_nil, List.cons_append, List.nil_append, lk_0, lk_s, st_0, st_s, ix_0, ix_1, ix_2, Op2.o, Cm.o, BI.o, ME.o, ME.rv, is_o, eq_int, cmp_int, overT, nop_cmp, nop_chain, nop_and, nop_or, nop_not, nop_call, nop_bi, nop_ite, nop_ix, nop_v, nop_int, nop_op, nop_neg, nop_nop, wE_lc_cmp, wE_lc_chain, wE_lc_and, wE_lc_or, wE_lc_not, wE_lc_call, wE_lc_bi, wE_lc_ite, wE_lc_ix, wE_lc_v, List.replicate_succ, List.replicate_zero, Nat.reduceAdd, Nat.reduceSub, oT_s, oT_n, eq_io, eq_oi, is_i, is_n, Bool.xor_true, Bool.xor_false, Bool.false_xor, Bool.true_xor, Bool.not_true, Bool.not_false, mk_t, bodyC_n, bodyC_n1, bodyD_n, ix_kind]
        exact g
      · cases B with
        | nil =>
          simp only [List.map_nil, List.length_nil, Int.natCast_zero, decide_true]
          exact rtn q2
        | cons b B =>
          have hpos : ¬ ((B.length + 1 : Nat) : Int) = 0 := by omega
          have e0 : atI (T.str (kindB b) :: B.map fun b => T.str (kindB b)) 0 = some (.str (kindB b)) := atI_nat (j := 0) rfl
          simp only [List.length_cons, hpos, decide_false, List.map_cons, oIx, seqOf, e0, eq_kind]
          exact rtn q2
theorem w_law_silent {C : Nat → TSp} (ts : List T) (H : TH) (Q : TL.KT) (h : sp_is_silent_way ts H Q) : wSs C b__law_silent (bodyEnds Q) (start0 n__law_silent ts) H := w_is_silent_way ts H Q h
end K80
set_option maxRecDepth 100000
set_option maxHeartbeats 1000000
namespace K80
open PySem PySem.Spec L2 TL
/-! ### _law_step_ranks -/
theorem in_non {α : Type} {f : α → Option Int} {l : List α} {H : TH} {Q : TL.KT} {neg : Bool} : oIn neg .non (.lst (l.map fun t => oT (f t))) H Q = Q (.bl (neg ^^ l.any fun t => (f t).isNone)) H := by
  have h1 : (l.map fun t => oT (f t)).all flatT = true := by
    rw [List.all_map, List.all_eq_true]
    intro x _
    show flatT (oT (f x)) = true
    cases f x <;> rfl
  have h2 : inT .non (l.map fun t => oT (f t)) = l.any fun t => (f t).isNone := by
    unfold inT
    rw [List.any_map]
    congr 1
    funext x
    show eqT (oT (f x)) .non = _
    cases f x <;> simp [eqT, toD, oT, PyData.eqv]
  simp only [oIn, seqOf, h1, h2, flatT, and_self, true_and]
def encLsr : Option (List (Option Int)) → T
  | none => .lst []
  | some l => .lst (l.map oT)
def sp_law_step_ranks : TSp := fun ts H Q => ∃ (lo u : Wd) (sn rk : List (Option Int)), ts = [encW lo, encW u, oTs sn] ∧ Ctx lo u sn rk ∧ Q (encLsr (lsr lo u sn)) H
theorem seenThere_split {u : Wd} {i : Int} : seenThere u (some i) = (decide (0 ≤ i) && decide (i < (u.ws.length : Int))) := Bool.decide_and ..
theorem all_some_of {rk : List (Option Int)} {l : List Nat} : (l.any fun t => (sAt rk t).isNone) = !(l.all fun t => (sAt rk t).isSome) := by
  induction l with
  | nil => rfl
  | cons a l ih =>
    rw [List.any_cons, List.all_cons, ih, Bool.not_and]
    congr 1
    cases sAt rk a <;> rfl
theorem w_law_step_ranks {C : Nat → TSp} (h28 : C 28 = sp_law_come_to) (h32 : C 32 = sp_law_breaches) (h34 : C 34 = sp_is_silent_way) (ts : List T) (H : TH) (Q : TL.KT) (h : sp_law_step_ranks ts H Q) : wSs C b__law_step_ranks (bodyEnds Q) (start0 n__law_step_ranks ts) H := by
  obtain ⟨lo, u, sn, rk0, rfl, c, hQ⟩ := h
  have hS := stt60 c.okl
  have hsm := c.okl.small
  simp only [b__law_step_ranks, start0, n__law_step_ranks, wSs_cons, wSs_nil, wS_set, wS_unp, wS_setix, wS_aug, wS_expr, wS_ret, wS_retN, wS_ife, wS_for, wS_while, wS_pass, wS_brk, wS_cont, wE_v, wE_non, wE_bl, wE_int, wE_str, wE_neg, wE_op, wE_cmp, wE_chain, wE_and, wE_or, wE_not, wE_ite, wE_ix, wE_sl, wE_tup, wE_lst, wE_dnew, wE_call, wE_bi, wE_isi, wE_me, wE_lc0, wE_dc, wE_sset, wE_frz, wEs_nil, wEs_cons, wI_over, wI_rng1, wI_rng2, List.map_cons, List.map_nil, List.length_cons, List.length_nil, List.cons_append, List.nil_append, lk_0, lk_s, st_0, st_s, ix_0, ix_1, ix_2, Op2.o, Cm.o, BI.o, ME.o, ME.rv, is_o, eq_int, cmp_int, overT, nop_cmp, nop_chain, nop_and, nop_or, nop_not, nop_call, nop_bi, nop_ite, nop_ix, nop_v, nop_int, nop_op, nop_neg, nop_nop, wE_lc_cmp, wE_lc_chain, wE_lc_and, wE_lc_or, wE_lc_not, wE_lc_call, wE_lc_bi, wE_lc_ite, wE_lc_ix, wE_lc_v, List.replicate_succ, List.replicate_zero, Nat.reduceAdd, Nat.reduceSub, oT_s, oT_n, eq_io, eq_oi, is_i, is_n, Bool.xor_true, Bool.xor_false, Bool.false_xor, Bool.true_xor, Bool.not_true, Bool.not_false, mk_t, bodyC_n, bodyC_n1, bodyD_n, h28]
  refine ⟨lo, rfl, c.okl, ?_⟩
  simp only [wSs_cons, wSs_nil, wS_set, wS_unp, wS_setix, wS_aug, wS_expr, wS_ret, wS_retN, wS_ife, wS_for, wS_while, wS_pass, wS_brk, wS_cont, wE_v, wE_non, wE_bl, wE_int, wE_str, wE_neg, wE_op, wE_cmp, wE_chain, wE_and, wE_or, wE_not, wE_ite, wE_ix, wE_sl, wE_tup, wE_lst, wE_dnew, wE_call, wE_bi, wE_isi, wE_me, wE_lc0, wE_dc, wE_sset, wE_frz, wEs_nil, wEs_cons, wI_over, wI_rng1, wI_rng2, List.map_cons, List.map_nil, List.length_cons, List.length_nil, List.cons_append, List.nil_append, lk_0, lk_s, st_0, st_s, ix_0, ix_1, ix_2, Op2.o, Cm.o, BI.o, ME.o, ME.rv, is_o, eq_int, cmp_int, overT, nop_cmp, nop_chain, nop_and, nop_or, nop_not, nop_call, nop_bi, nop_ite, nop_ix, nop_v, nop_int, nop_op, nop_neg, nop_nop, wE_lc_cmp, wE_lc_chain, wE_lc_and, wE_lc_or, wE_lc_not, wE_lc_call, wE_lc_bi, wE_lc_ite, wE_lc_ix, wE_lc_v, List.replicate_succ, List.replicate_zero, Nat.reduceAdd, Nat.reduceSub, oT_s, oT_n, eq_io, eq_oi, is_i, is_n, Bool.xor_true, Bool.xor_false, Bool.false_xor, Bool.true_xor, Bool.not_true, Bool.not_false, mk_t, bodyC_n, bodyC_n1, bodyD_n]
  refine lc_filter (α := Nat) (enc := nT) (f := nT) (p := fun s => !seenThere u (sAt sn s)) trivial (fun s hs G g => ?_) (sz (by omega)) ?_
  · simp only [wSs_cons, wSs_nil, wS_set, wS_unp, wS_setix, wS_aug, wS_expr, wS_ret, wS_retN, wS_ife, wS_for, wS_while, wS_pass, wS_brk, wS_cont, wE_v, wE_non, wE_bl, wE_int, wE_str, wE_neg, wE_op, wE_cmp, wE_chain, wE_and, wE_or, wE_not, wE_ite, wE_ix, wE_sl, wE_tup, wE_lst, wE_dnew, wE_call, wE_bi, wE_isi, wE_me, wE_lc0, wE_dc, wE_sset, wE_frz, wEs_nil, wEs_cons, wI_over, wI_rng1, wI_rng2, List.map_cons, List.map_nil, List.length_cons, List.length_nil, List.cons_append, List.nil_append, lk_0, lk_s, st_0, st_s, ix_0, ix_1, ix_2, Op2.o, Cm.o, BI.o, ME.o, ME.rv, is_o, eq_int, cmp_int, overT, nop_cmp, nop_chain, nop_and, nop_or, nop_not, nop_call, nop_bi, nop_ite, nop_ix, nop_v, nop_int, nop_op, nop_neg, nop_nop, wE_lc_cmp, wE_lc_chain, wE_lc_and, wE_lc_or, wE_lc_not, wE_lc_call, wE_lc_bi, wE_lc_ite, wE_lc_ix, wE_lc_v, List.replicate_succ, List.replicate_zero, Nat.reduceAdd, Nat.reduceSub, oT_s, oT_n, eq_io, eq_oi, is_i, is_n, Bool.xor_true, Bool.xor_false, Bool.false_xor, Bool.true_xor, Bool.not_true, Bool.not_false, mk_t, bodyC_n, bodyC_n1, bodyD_n, ix_at (sAt_some (c.s1 hs))]
    cases e : sAt sn s with
    | none =>
      simp only [e, seenThere, Bool.not_false, if_true] at g
      simp only [Option.isNone]
      exact g
    | some i =>
      rw [e, seenThere_split] at g
      simp only [Option.isNone, oT_s, cmp_int, len_map]
      by_cases c1 : i < 0
      · have c1' : ¬ 0 ≤ i := by omega
        simp only [c1, c1', decide_true, decide_false, Bool.false_and, Bool.not_false, if_true] at g ⊢
        exact g
      · have c1' : 0 ≤ i := by omega
        by_cases c2 : (u.ws.length : Int) ≤ i
        · have c2' : ¬ i < (u.ws.length : Int) := by omega
          simp only [c1, c2, c1', c2', decide_true, decide_false, Bool.and_false, Bool.not_false, if_true] at g ⊢
          exact g
        · have c2' : i < (u.ws.length : Int) := by omega
          simp only [c1, c2, c1', c2', decide_true, decide_false, Bool.and_true, Bool.not_true, Bool.false_eq_true, if_false] at g ⊢
          exact g
  simp only [cLen, seqOf, wSs_cons, wSs_nil, wS_set, wS_unp, wS_setix, wS_aug, wS_expr, wS_ret, wS_retN, wS_ife, wS_for, wS_while, wS_pass, wS_brk, wS_cont, wE_v, wE_non, wE_bl, wE_int, wE_str, wE_neg, wE_op, wE_cmp, wE_chain, wE_and, wE_or, wE_not, wE_ite, wE_ix, wE_sl, wE_tup, wE_lst, wE_dnew, wE_call, wE_bi, wE_isi, wE_me, wE_lc0, wE_dc, wE_sset, wE_frz, wEs_nil, wEs_cons, wI_over, wI_rng1, wI_rng2, List.map_cons, List.map_nil, List.length_cons, List.length_nil, List.cons_append, List.nil_append, lk_0, lk_s, st_0, st_s, ix_0, ix_1, ix_2, Op2.o, Cm.o, BI.o, ME.o, ME.rv, is_o, eq_int, cmp_int, overT, nop_cmp, nop_chain, nop_and, nop_or, nop_not, nop_call, nop_bi, nop_ite, nop_ix, nop_v, nop_int, nop_op, nop_neg, nop_nop, wE_lc_cmp, wE_lc_chain, wE_lc_and, wE_lc_or, wE_lc_not, wE_lc_call, wE_lc_bi, wE_lc_ite, wE_lc_ix, wE_lc_v, List.replicate_succ, List.replicate_zero, Nat.reduceAdd, Nat.reduceSub, oT_s, oT_n, eq_io, eq_oi, is_i, is_n, Bool.xor_true, Bool.xor_false, Bool.false_xor, Bool.true_xor, Bool.not_true, Bool.not_false, mk_t, bodyC_n, bodyC_n1, bodyD_n, gtE, filt_emp]
  unfold lsr at hQ
  cases e : (stt lo).all fun s => seenThere u (sAt sn s) with
  | false =>
    rw [if_neg (by rw [e]; exact Bool.false_ne_true)] at hQ
    simp only [Bool.not_false, wSs_cons, wSs_nil, wS_set, wS_unp, wS_setix, wS_aug, wS_expr, wS_ret, wS_retN, wS_ife, wS_for, wS_while, wS_pass, wS_brk, wS_cont, wE_v, wE_non, wE_bl, wE_int, wE_str, wE_neg, wE_op, wE_cmp, wE_chain, wE_and, wE_or, wE_not, wE_ite, wE_ix, wE_sl, wE_tup, wE_lst, wE_dnew, wE_call, wE_bi, wE_isi, wE_me, wE_lc0, wE_dc, wE_sset, wE_frz, wEs_nil, wEs_cons, wI_over, wI_rng1, wI_rng2, List.map_cons, List.map_nil, List.length_cons, List.length_nil, List.cons_append, List.nil_append, lk_0, lk_s, st_0, st_s, ix_0, ix_1, ix_2, Op2.o, Cm.o, BI.o, ME.o, ME.rv, is_o, eq_int, cmp_int, overT, nop_cmp, nop_chain, nop_and, nop_or, nop_not, nop_call, nop_bi, nop_ite, nop_ix, nop_v, nop_int, nop_op, nop_neg, nop_nop, wE_lc_cmp, wE_lc_chain, wE_lc_and, wE_lc_or, wE_lc_not, wE_lc_call, wE_lc_bi, wE_lc_ite, wE_lc_ix, wE_lc_v, List.replicate_succ, List.replicate_zero, Nat.reduceAdd, Nat.reduceSub, oT_s, oT_n, eq_io, eq_oi, is_i, is_n, Bool.xor_true, Bool.xor_false, Bool.false_xor, Bool.true_xor, Bool.not_true, Bool.not_false, mk_t, bodyC_n, bodyC_n1, bodyD_n]
    exact ⟨sz (by decide), rtn hQ⟩
  | true =>
    rw [if_pos e] at hQ
    have sd : ∀ s ∈ stt lo, ∃ a : Nat, sAt sn s = some (a : Int) ∧ a < u.ws.length := fun s hs => seenThere_some (List.all_eq_true.mp e s hs)
    simp only [Bool.not_true, wSs_cons, wSs_nil, wS_set, wS_unp, wS_setix, wS_aug, wS_expr, wS_ret, wS_retN, wS_ife, wS_for, wS_while, wS_pass, wS_brk, wS_cont, wE_v, wE_non, wE_bl, wE_int, wE_str, wE_neg, wE_op, wE_cmp, wE_chain, wE_and, wE_or, wE_not, wE_ite, wE_ix, wE_sl, wE_tup, wE_lst, wE_dnew, wE_call, wE_bi, wE_isi, wE_me, wE_lc0, wE_dc, wE_sset, wE_frz, wEs_nil, wEs_cons, wI_over, wI_rng1, wI_rng2, List.map_cons, List.map_nil, List.length_cons, List.length_nil, List.cons_append, List.nil_append, lk_0, lk_s, st_0, st_s, ix_0, ix_1, ix_2, Op2.o, Cm.o, BI.o, ME.o, ME.rv, is_o, eq_int, cmp_int, overT, nop_cmp, nop_chain, nop_and, nop_or, nop_not, nop_call, nop_bi, nop_ite, nop_ix, nop_v, nop_int, nop_op, nop_neg, nop_nop, wE_lc_cmp, wE_lc_chain, wE_lc_and, wE_lc_or, wE_lc_not, wE_lc_call, wE_lc_bi, wE_lc_ite, wE_lc_ix, wE_lc_v, List.replicate_succ, List.replicate_zero, Nat.reduceAdd, Nat.reduceSub, oT_s, oT_n, eq_io, eq_oi, is_i, is_n, Bool.xor_true, Bool.xor_false, Bool.false_xor, Bool.true_xor, Bool.not_true, Bool.not_false, mk_t, bodyC_n, bodyC_n1, bodyD_n]
    refine lc_map (α := List Nat) (enc := nTs) (f := fun _ => .non) trivial (fun s hs G g => ?_) (sz (by omega)) ?_
    · simp only [wSs_cons, wSs_nil, wS_set, wS_unp, wS_setix, wS_aug, wS_expr, wS_ret, wS_retN, wS_ife, wS_for, wS_while, wS_pass, wS_brk, wS_cont, wE_v, wE_non, wE_bl, wE_int, wE_str, wE_neg, wE_op, wE_cmp, wE_chain, wE_and, wE_or, wE_not, wE_ite, wE_ix, wE_sl, wE_tup, wE_lst, wE_dnew, wE_call, wE_bi, wE_isi, wE_me, wE_lc0, wE_dc, wE_sset, wE_frz, wEs_nil, wEs_cons, wI_over, wI_rng1, wI_rng2, List.map_cons, List.map_nil, List.length_cons, List.length_nil, List.cons_append, List.nil_append, lk_0, lk_s, st_0, st_s, ix_0, ix_1, ix_2, Op2.o, Cm.o, BI.o, ME.o, ME.rv, is_o, eq_int, cmp_int, overT, nop_cmp, nop_chain, nop_and, nop_or, nop_not, nop_call, nop_bi, nop_ite, nop_ix, nop_v, nop_int, nop_op, nop_neg, nop_nop, wE_lc_cmp, wE_lc_chain, wE_lc_and, wE_lc_or, wE_lc_not, wE_lc_call, wE_lc_bi, wE_lc_ite, wE_lc_ix, wE_lc_v, List.replicate_succ, List.replicate_zero, Nat.reduceAdd, Nat.reduceSub, oT_s, oT_n, eq_io, eq_oi, is_i, is_n, Bool.xor_true, Bool.xor_false, Bool.false_xor, Bool.true_xor, Bool.not_true, Bool.not_false, mk_t, bodyC_n, bodyC_n1, bodyD_n]
      exact g
    simp only [mk_f]
    intro p hp
    have e0 : lo.ws.map (fun _ => T.non) = (List.replicate lo.ws.length (none : Option Int)).map oT := by
      rw [List.map_replicate, List.map_const']
      rfl
    rw [e0]
    simp only [wSs_cons, wSs_nil, wS_set, wS_unp, wS_setix, wS_aug, wS_expr, wS_ret, wS_retN, wS_ife, wS_for, wS_while, wS_pass, wS_brk, wS_cont, wE_v, wE_non, wE_bl, wE_int, wE_str, wE_neg, wE_op, wE_cmp, wE_chain, wE_and, wE_or, wE_not, wE_ite, wE_ix, wE_sl, wE_tup, wE_lst, wE_dnew, wE_call, wE_bi, wE_isi, wE_me, wE_lc0, wE_dc, wE_sset, wE_frz, wEs_nil, wEs_cons, wI_over, wI_rng1, wI_rng2, List.map_cons, List.map_nil, List.length_cons, List.length_nil, List.cons_append, List.nil_append, lk_0, lk_s, st_0, st_s, ix_0, ix_1, ix_2, Op2.o, Cm.o, BI.o, ME.o, ME.rv, is_o, eq_int, cmp_int, overT, nop_cmp, nop_chain, nop_and, nop_or, nop_not, nop_call, nop_bi, nop_ite, nop_ix, nop_v, nop_int, nop_op, nop_neg, nop_nop, wE_lc_cmp, wE_lc_chain, wE_lc_and, wE_lc_or, wE_lc_not, wE_lc_call, wE_lc_bi, wE_lc_ite, wE_lc_ix, wE_lc_v, List.replicate_succ, List.replicate_zero, Nat.reduceAdd, Nat.reduceSub, oT_s, oT_n, eq_io, eq_oi, is_i, is_n, Bool.xor_true, Bool.xor_false, Bool.false_xor, Bool.true_xor, Bool.not_true, Bool.not_false, mk_t, bodyC_n, bodyC_n1, bodyD_n, List.length_map, rng_n (show (stt lo).length ≤ 16777216 by omega)]
    have inner : ∀ (r : List Nat) (rk : List (Option Int)) (x y z w : Option T) (D : TEnds), (∀ s ∈ r, s ∈ stt lo) → rk.length = lo.ws.length →
        (∀ x y z, D.nx [some (encW lo), some (encW u), some (oTs sn), some (nTs (stt lo)), some (.ref p), w, x, y, z] (up H p (.lst ((r.foldl (rkStep lo u sn) rk).map oT)))) →
        forGo (fun _ => True) (loopB C (.n 6) b__law_step_ranks_L1) (r.map nT) D [some (encW lo), some (encW u), some (oTs sn), some (nTs (stt lo)), some (.ref p), w, x, y, z] (up H p (.lst (rk.map oT))) := by
      intro r
      induction r with
      | nil =>
        intro rk x y z w D _ _ hn
        simp only [List.map_nil, forGo_nil, true_and]
        exact hn x y z
      | cons s r ih =>
        intro rk x y z w D hr hl hn
        have hs := hr s List.mem_cons_self
        have hr' := fun a ha => hr a (List.mem_cons_of_mem _ ha)
        obtain ⟨a, ha, hau⟩ := sd s hs
        have e1 := sAt_some (c.s1 hs)
        rw [ha] at e1
        have hnx := nx_len c.okl s
        rw [List.foldl_cons] at hn
        simp only [List.map_cons, forGo_cons, loopB_n, b__law_step_ranks_L1, wSs_cons, wSs_nil, wS_set, wS_unp, wS_setix, wS_aug, wS_expr, wS_ret, wS_retN, wS_ife, wS_for, wS_while, wS_pass, wS_brk, wS_cont, wE_v, wE_non, wE_bl, wE_int, wE_str, wE_neg, wE_op, wE_cmp, wE_chain, wE_and, wE_or, wE_not, wE_ite, wE_ix, wE_sl, wE_tup, wE_lst, wE_dnew, wE_call, wE_bi, wE_isi, wE_me, wE_lc0, wE_dc, wE_sset, wE_frz, wEs_nil, wEs_cons, wI_over, wI_rng1, wI_rng2, List.map_cons, List.map_nil, List.length_cons, List.length_nil, List.cons_append, List.nil_append, lk_0, lk_s, st_0, st_s, ix_0, ix_1, ix_2, Op2.o, Cm.o, BI.o, ME.o, ME.rv, is_o, eq_int, cmp_int, overT, nop_cmp, nop_chain, nop_and, nop_or, nop_not, nop_call, nop_bi, nop_ite, nop_ix, nop_v, nop_int, nop_op, nop_neg, nop_nop, wE_lc_cmp, wE_lc_chain, wE_lc_and, wE_lc_or, wE_lc_not, wE_lc_call, wE_lc_bi, wE_lc_ite, wE_lc_ix, wE_lc_v, List.replicate_succ, List.replicate_zero, Nat.reduceAdd, Nat.reduceSub, oT_s, oT_n, eq_io, eq_oi, is_i, is_n, Bool.xor_true, Bool.xor_false, Bool.false_xor, Bool.true_xor, Bool.not_true, Bool.not_false, mk_t, bodyC_n, bodyC_n1, bodyD_n, true_and, ix_at (nx_some (stt_lt hs))]
        refine lc_filter (α := Nat) (enc := nT) (f := fun t => oT (sAt rk t)) (p := fun t => silent (seenN sn s) (nx u (seenN sn s)) (sAt sn t)) trivial (fun t ht G g => ?_) (sz (by omega)) ?_
        · have ht' := stt_step c.okl hs ht
          simp only [wSs_cons, wSs_nil, wS_set, wS_unp, wS_setix, wS_aug, wS_expr, wS_ret, wS_retN, wS_ife, wS_for, wS_while, wS_pass, wS_brk, wS_cont, wE_v, wE_non, wE_bl, wE_int, wE_str, wE_neg, wE_op, wE_cmp, wE_chain, wE_and, wE_or, wE_not, wE_ite, wE_ix, wE_sl, wE_tup, wE_lst, wE_dnew, wE_call, wE_bi, wE_isi, wE_me, wE_lc0, wE_dc, wE_sset, wE_frz, wEs_nil, wEs_cons, wI_over, wI_rng1, wI_rng2, List.map_cons, List.map_nil, List.length_cons, List.length_nil, List.cons_append, List.nil_append, lk_0, lk_s, st_0, st_s, ix_0, ix_1, ix_2, Op2.o, Cm.o, BI.o, ME.o, ME.rv, is_o, eq_int, cmp_int, overT, nop_cmp, nop_chain, nop_and, nop_or, nop_not, nop_call, nop_bi, nop_ite, nop_ix, nop_v, nop_int, nop_op, nop_neg, nop_nop, wE_lc_cmp, wE_lc_chain, wE_lc_and, wE_lc_or, wE_lc_not, wE_lc_call, wE_lc_bi, wE_lc_ite, wE_lc_ix, wE_lc_v, List.replicate_succ, List.replicate_zero, Nat.reduceAdd, Nat.reduceSub, oT_s, oT_n, eq_io, eq_oi, is_i, is_n, Bool.xor_true, Bool.xor_false, Bool.false_xor, Bool.true_xor, Bool.not_true, Bool.not_false, mk_t, bodyC_n, bodyC_n1, bodyD_n, h34]
          refine ⟨u, sn, s, t, a, nx u a, _, rfl, e1, nx_some hau, sAt_some (c.s1 ht'), ?_⟩
          rw [seenN_eq ha] at g
          cases z : silent a (nx u a) (sAt sn t) with
          | true =>
            simp only [z, if_true] at g ⊢
            rw [IxR.lst (rk := rk) up_same _ Sub.refl t (hl.symm ▸ stt_lt ht')]
            exact g
          | false => simpa only [z, if_false, Bool.false_eq_true] using g
        · have hsl : (silN lo u sn s).length ≤ 60 := Nat.le_trans (List.length_filter_le ..) hnx
          show oIn true .non (.lst ((silN lo u sn s).map fun t => oT (sAt rk t))) _ _
          rw [in_non, all_some_of]
          cases e2 : (silN lo u sn s).all fun t => (sAt rk t).isSome with
          | false =>
            simp only [Bool.not_false, Bool.true_xor, Bool.not_true]
            rw [show rkStep lo u sn rk s = rk by unfold rkStep rankOf; rw [if_neg (by rw [e2]; exact Bool.false_ne_true)]] at hn
            exact ih rk _ _ _ _ D hr' hl hn
          | true =>
            simp only [Bool.not_true, Bool.true_xor, Bool.not_false, wSs_cons, wSs_nil, wS_set, wS_unp, wS_setix, wS_aug, wS_expr, wS_ret, wS_retN, wS_ife, wS_for, wS_while, wS_pass, wS_brk, wS_cont, wE_v, wE_non, wE_bl, wE_int, wE_str, wE_neg, wE_op, wE_cmp, wE_chain, wE_and, wE_or, wE_not, wE_ite, wE_ix, wE_sl, wE_tup, wE_lst, wE_dnew, wE_call, wE_bi, wE_isi, wE_me, wE_lc0, wE_dc, wE_sset, wE_frz, wEs_nil, wEs_cons, wI_over, wI_rng1, wI_rng2, List.map_cons, List.map_nil, List.length_cons, List.length_nil, List.cons_append, List.nil_append, lk_0, lk_s, st_0, st_s, ix_0, ix_1, ix_2, Op2.o, Cm.o, BI.o, ME.o, ME.rv, is_o, eq_int, cmp_int, overT, nop_cmp, nop_chain, nop_and, nop_or, nop_not, nop_call, nop_bi, nop_ite, nop_ix, nop_v, nop_int, nop_op, nop_neg, nop_nop, wE_lc_cmp, wE_lc_chain, wE_lc_and, wE_lc_or, wE_lc_not, wE_lc_call, wE_lc_bi, wE_lc_ite, wE_lc_ix, wE_lc_v, List.replicate_succ, List.replicate_zero, Nat.reduceAdd, Nat.reduceSub, oT_s, oT_n, eq_io, eq_oi, is_i, is_n, Bool.xor_true, Bool.xor_false, Bool.false_xor, Bool.true_xor, Bool.not_true, Bool.not_false, mk_t, bodyC_n, bodyC_n1, bodyD_n, add_ll]
            rw [show rkStep lo u sn rk s = rk.set s (some (maxI (-1 :: (silN lo u sn s).map (rkI rk)) + 1)) by unfold rkStep rankOf; rw [if_pos e2]] at hn
            have e3 : ((nx lo s).filter fun t => silent (seenN sn s) (nx u (seenN sn s)) (sAt sn t)).map (fun t => oT (sAt rk t)) = (silN lo u sn s).map fun t => T.int (rkI rk t) := by
              refine List.map_congr_left fun t ht => ?_
              have := List.all_eq_true.mp e2 t ht
              unfold rkI
              cases z : sAt rk t with
              | none =>
                rw [z] at this
                cases this
              | some i => rfl
            rw [e3]
            have e4 : (T.int (-1) :: (silN lo u sn s).map fun t => T.int (rkI rk t)) = (-1 :: (silN lo u sn s).map (rkI rk)).map T.int := by
              rw [List.map_cons, List.map_map]
              rfl
            refine ⟨sz (by decide), sz (by simp; omega), ?_⟩
            rw [e4]
            simp only [max_ints]
            refine ⟨List.cons_ne_nil _ _, ?_⟩
            simp only [add_ii]
            have hlt : s < rk.length := hl.symm ▸ stt_lt hs
            rw [set_ln up_same (by rw [List.length_map]; exact hlt), up_up]
            have e5 : (rk.map oT).set s (.int (maxI (-1 :: (silN lo u sn s).map (rkI rk)) + 1)) = (rk.set s (some (maxI (-1 :: (silN lo u sn s).map (rkI rk)) + 1))).map oT := by
              rw [List.map_set]
              rfl
            rw [e5]
            exact ih (rk.set s _) _ _ _ _ D hr' (by rw [List.length_set]; exact hl) hn
    have fin : ∀ (rk : List (Option Int)) (x y z w : Option T), rk.length = lo.ws.length → rk = ranksN lo u sn →
        wSs C (.cons (.ife (.or (.cmp .gt (.bi .len (.cons (.lc true (.n 6) (.over (.v 3)) (.v 6) (.cmp .isN (.ix (.v 4) (.v 6)) .non)) .nil)) (.int 0)) (.cmp .gt (.bi .len (.cons (.call 32 (.cons (.v 0) (.cons (.v 1) (.cons (.v 2) (.cons (.v 4) .nil))))) .nil)) (.int 0))) (.cons (.ret (.lst true .nil))
  .nil) .nil)
  (.cons (.ret (.frz (.v 4)))
  .nil)) (bodyEnds Q) [some (encW lo), some (encW u), some (oTs sn), some (nTs (stt lo)), some (.ref p), w, x, y, z] (up H p (.lst (rk.map oT))) := by
      intro rk x y z w hl er
      rw [← er] at hQ
      simp only [wSs_cons, wSs_nil, wS_set, wS_unp, wS_setix, wS_aug, wS_expr, wS_ret, wS_retN, wS_ife, wS_for, wS_while, wS_pass, wS_brk, wS_cont, wE_v, wE_non, wE_bl, wE_int, wE_str, wE_neg, wE_op, wE_cmp, wE_chain, wE_and, wE_or, wE_not, wE_ite, wE_ix, wE_sl, wE_tup, wE_lst, wE_dnew, wE_call, wE_bi, wE_isi, wE_me, wE_lc0, wE_dc, wE_sset, wE_frz, wEs_nil, wEs_cons, wI_over, wI_rng1, wI_rng2, List.map_cons, List.map_nil, List.length_cons, List.length_nil, List.cons_append, List.nil_append, lk_0, lk_s, st_0, st_s, ix_0, ix_1, ix_2, Op2.o, Cm.o, BI.o, ME.o, ME.rv, is_o, eq_int, cmp_int, overT, nop_cmp, nop_chain, nop_and, nop_or, nop_not, nop_call, nop_bi, nop_ite, nop_ix, nop_v, nop_int, nop_op, nop_neg, nop_nop, wE_lc_cmp, wE_lc_chain, wE_lc_and, wE_lc_or, wE_lc_not, wE_lc_call, wE_lc_bi, wE_lc_ite, wE_lc_ix, wE_lc_v, List.replicate_succ, List.replicate_zero, Nat.reduceAdd, Nat.reduceSub, oT_s, oT_n, eq_io, eq_oi, is_i, is_n, Bool.xor_true, Bool.xor_false, Bool.false_xor, Bool.true_xor, Bool.not_true, Bool.not_false, mk_t, bodyC_n, bodyC_n1, bodyD_n]
      refine lc_filter (α := Nat) (enc := nT) (f := nT) (p := fun s => !(sAt rk s).isSome) trivial (fun s hs G g => ?_) (sz (by omega)) ?_
      · simp only [wSs_cons, wSs_nil, wS_set, wS_unp, wS_setix, wS_aug, wS_expr, wS_ret, wS_retN, wS_ife, wS_for, wS_while, wS_pass, wS_brk, wS_cont, wE_v, wE_non, wE_bl, wE_int, wE_str, wE_neg, wE_op, wE_cmp, wE_chain, wE_and, wE_or, wE_not, wE_ite, wE_ix, wE_sl, wE_tup, wE_lst, wE_dnew, wE_call, wE_bi, wE_isi, wE_me, wE_lc0, wE_dc, wE_sset, wE_frz, wEs_nil, wEs_cons, wI_over, wI_rng1, wI_rng2, List.map_cons, List.map_nil, List.length_cons, List.length_nil, List.cons_append, List.nil_append, lk_0, lk_s, st_0, st_s, ix_0, ix_1, ix_2, Op2.o, Cm.o, BI.o, ME.o, ME.rv, is_o, eq_int, cmp_int, overT, nop_cmp, nop_chain, nop_and, nop_or, nop_not, nop_call, nop_bi, nop_ite, nop_ix, nop_v, nop_int, nop_op, nop_neg, nop_nop, wE_lc_cmp, wE_lc_chain, wE_lc_and, wE_lc_or, wE_lc_not, wE_lc_call, wE_lc_bi, wE_lc_ite, wE_lc_ix, wE_lc_v, List.replicate_succ, List.replicate_zero, Nat.reduceAdd, Nat.reduceSub, oT_s, oT_n, eq_io, eq_oi, is_i, is_n, Bool.xor_true, Bool.xor_false, Bool.false_xor, Bool.true_xor, Bool.not_true, Bool.not_false, mk_t, bodyC_n, bodyC_n1, bodyD_n]
        rw [IxR.lst (rk := rk) up_same _ Sub.refl s (hl.symm ▸ stt_lt hs)]
        simp only [is_o, Bool.false_xor]
        cases z : sAt rk s with
        | none =>
          simp only [z, Option.isSome, Bool.not_false, if_true] at g
          simp only [Option.isNone]
          exact g
        | some i =>
          simp only [z, Option.isSome, Bool.not_true, if_false, Bool.false_eq_true] at g
          simp only [Option.isNone]
          exact g
      simp only [cLen, seqOf, wSs_cons, wSs_nil, wS_set, wS_unp, wS_setix, wS_aug, wS_expr, wS_ret, wS_retN, wS_ife, wS_for, wS_while, wS_pass, wS_brk, wS_cont, wE_v, wE_non, wE_bl, wE_int, wE_str, wE_neg, wE_op, wE_cmp, wE_chain, wE_and, wE_or, wE_not, wE_ite, wE_ix, wE_sl, wE_tup, wE_lst, wE_dnew, wE_call, wE_bi, wE_isi, wE_me, wE_lc0, wE_dc, wE_sset, wE_frz, wEs_nil, wEs_cons, wI_over, wI_rng1, wI_rng2, List.map_cons, List.map_nil, List.length_cons, List.length_nil, List.cons_append, List.nil_append, lk_0, lk_s, st_0, st_s, ix_0, ix_1, ix_2, Op2.o, Cm.o, BI.o, ME.o, ME.rv, is_o, eq_int, cmp_int, overT, nop_cmp, nop_chain, nop_and, nop_or, nop_not, nop_call, nop_bi, nop_ite, nop_ix, nop_v, nop_int, nop_op, nop_neg, nop_nop, wE_lc_cmp, wE_lc_chain, wE_lc_and, wE_lc_or, wE_lc_not, wE_lc_call, wE_lc_bi, wE_lc_ite, wE_lc_ix, wE_lc_v, List.replicate_succ, List.replicate_zero, Nat.reduceAdd, Nat.reduceSub, oT_s, oT_n, eq_io, eq_oi, is_i, is_n, Bool.xor_true, Bool.xor_false, Bool.false_xor, Bool.true_xor, Bool.not_true, Bool.not_false, mk_t, bodyC_n, bodyC_n1, bodyD_n, gtE, filt_emp]
      rw [all_some_of] at hQ
      cases e2 : (stt lo).all fun s => (sAt rk s).isSome with
      | false =>
        rw [if_pos (by rw [e2]; rfl)] at hQ
        simp only [Bool.not_false, wSs_cons, wSs_nil, wS_set, wS_unp, wS_setix, wS_aug, wS_expr, wS_ret, wS_retN, wS_ife, wS_for, wS_while, wS_pass, wS_brk, wS_cont, wE_v, wE_non, wE_bl, wE_int, wE_str, wE_neg, wE_op, wE_cmp, wE_chain, wE_and, wE_or, wE_not, wE_ite, wE_ix, wE_sl, wE_tup, wE_lst, wE_dnew, wE_call, wE_bi, wE_isi, wE_me, wE_lc0, wE_dc, wE_sset, wE_frz, wEs_nil, wEs_cons, wI_over, wI_rng1, wI_rng2, List.map_cons, List.map_nil, List.length_cons, List.length_nil, List.cons_append, List.nil_append, lk_0, lk_s, st_0, st_s, ix_0, ix_1, ix_2, Op2.o, Cm.o, BI.o, ME.o, ME.rv, is_o, eq_int, cmp_int, overT, nop_cmp, nop_chain, nop_and, nop_or, nop_not, nop_call, nop_bi, nop_ite, nop_ix, nop_v, nop_int, nop_op, nop_neg, nop_nop, wE_lc_cmp, wE_lc_chain, wE_lc_and, wE_lc_or, wE_lc_not, wE_lc_call, wE_lc_bi, wE_lc_ite, wE_lc_ix, wE_lc_v, List.replicate_succ, List.replicate_zero, Nat.reduceAdd, Nat.reduceSub, oT_s, oT_n, eq_io, eq_oi, is_i, is_n, Bool.xor_true, Bool.xor_false, Bool.false_xor, Bool.true_xor, Bool.not_true, Bool.not_false, mk_t, bodyC_n, bodyC_n1, bodyD_n]
        exact ⟨sz (by decide), rts (sub_up hp) hQ⟩
      | true =>
        rw [if_neg (by rw [e2]; decide)] at hQ
        simp only [Bool.not_true, wSs_cons, wSs_nil, wS_set, wS_unp, wS_setix, wS_aug, wS_expr, wS_ret, wS_retN, wS_ife, wS_for, wS_while, wS_pass, wS_brk, wS_cont, wE_v, wE_non, wE_bl, wE_int, wE_str, wE_neg, wE_op, wE_cmp, wE_chain, wE_and, wE_or, wE_not, wE_ite, wE_ix, wE_sl, wE_tup, wE_lst, wE_dnew, wE_call, wE_bi, wE_isi, wE_me, wE_lc0, wE_dc, wE_sset, wE_frz, wEs_nil, wEs_cons, wI_over, wI_rng1, wI_rng2, List.map_cons, List.map_nil, List.length_cons, List.length_nil, List.cons_append, List.nil_append, lk_0, lk_s, st_0, st_s, ix_0, ix_1, ix_2, Op2.o, Cm.o, BI.o, ME.o, ME.rv, is_o, eq_int, cmp_int, overT, nop_cmp, nop_chain, nop_and, nop_or, nop_not, nop_call, nop_bi, nop_ite, nop_ix, nop_v, nop_int, nop_op, nop_neg, nop_nop, wE_lc_cmp, wE_lc_chain, wE_lc_and, wE_lc_or, wE_lc_not, wE_lc_call, wE_lc_bi, wE_lc_ite, wE_lc_ix, wE_lc_v, List.replicate_succ, List.replicate_zero, Nat.reduceAdd, Nat.reduceSub, oT_s, oT_n, eq_io, eq_oi, is_i, is_n, Bool.xor_true, Bool.xor_false, Bool.false_xor, Bool.true_xor, Bool.not_true, Bool.not_false, mk_t, bodyC_n, bodyC_n1, bodyD_n, h32]
        refine ⟨lo, u, sn, rk, .ref p, rfl, ⟨c.okl, c.oku, c.sn, hl⟩, IxR.lst up_same, ?_⟩
        simp only [gt0]
        by_cases e3 : breaches lo u sn rk = []
        · rw [if_pos e3] at hQ
          simp only [e3, decide_true, Bool.not_true, wSs_cons, wSs_nil, wS_set, wS_unp, wS_setix, wS_aug, wS_expr, wS_ret, wS_retN, wS_ife, wS_for, wS_while, wS_pass, wS_brk, wS_cont, wE_v, wE_non, wE_bl, wE_int, wE_str, wE_neg, wE_op, wE_cmp, wE_chain, wE_and, wE_or, wE_not, wE_ite, wE_ix, wE_sl, wE_tup, wE_lst, wE_dnew, wE_call, wE_bi, wE_isi, wE_me, wE_lc0, wE_dc, wE_sset, wE_frz, wEs_nil, wEs_cons, wI_over, wI_rng1, wI_rng2, List.map_cons, List.map_nil, List.length_cons, List.length_nil, List.cons_append, List.nil_append, lk_0, lk_s, st_0, st_s, ix_0, ix_1, ix_2, Op2.o, Cm.o, BI.o, ME.o, ME.rv, is_o, eq_int, cmp_int, overT, nop_cmp, nop_chain, nop_and, nop_or, nop_not, nop_call, nop_bi, nop_ite, nop_ix, nop_v, nop_int, nop_op, nop_neg, nop_nop, wE_lc_cmp, wE_lc_chain, wE_lc_and, wE_lc_or, wE_lc_not, wE_lc_call, wE_lc_bi, wE_lc_ite, wE_lc_ix, wE_lc_v, List.replicate_succ, List.replicate_zero, Nat.reduceAdd, Nat.reduceSub, oT_s, oT_n, eq_io, eq_oi, is_i, is_n, Bool.xor_true, Bool.xor_false, Bool.false_xor, Bool.true_xor, Bool.not_true, Bool.not_false, mk_t, bodyC_n, bodyC_n1, bodyD_n, frz_l up_same, del_up hp]
          exact rtn hQ
        · rw [if_neg e3] at hQ
          simp only [e3, decide_false, Bool.not_false, wSs_cons, wSs_nil, wS_set, wS_unp, wS_setix, wS_aug, wS_expr, wS_ret, wS_retN, wS_ife, wS_for, wS_while, wS_pass, wS_brk, wS_cont, wE_v, wE_non, wE_bl, wE_int, wE_str, wE_neg, wE_op, wE_cmp, wE_chain, wE_and, wE_or, wE_not, wE_ite, wE_ix, wE_sl, wE_tup, wE_lst, wE_dnew, wE_call, wE_bi, wE_isi, wE_me, wE_lc0, wE_dc, wE_sset, wE_frz, wEs_nil, wEs_cons, wI_over, wI_rng1, wI_rng2, List.map_cons, List.map_nil, List.length_cons, List.length_nil, List.cons_append, List.nil_append, lk_0, lk_s, st_0, st_s, ix_0, ix_1, ix_2, Op2.o, Cm.o, BI.o, ME.o, ME.rv, is_o, eq_int, cmp_int, overT, nop_cmp, nop_chain, nop_and, nop_or, nop_not, nop_call, nop_bi, nop_ite, nop_ix, nop_v, nop_int, nop_op, nop_neg, nop_nop, wE_lc_cmp, wE_lc_chain, wE_lc_and, wE_lc_or, wE_lc_not, wE_lc_call, wE_lc_bi, wE_lc_ite, wE_lc_ix, wE_lc_v, List.replicate_succ, List.replicate_zero, Nat.reduceAdd, Nat.reduceSub, oT_s, oT_n, eq_io, eq_oi, is_i, is_n, Bool.xor_true, Bool.xor_false, Bool.false_xor, Bool.true_xor, Bool.not_true, Bool.not_false, mk_t, bodyC_n, bodyC_n1, bodyD_n]
          exact ⟨sz (by decide), rts (sub_up hp) hQ⟩
    have outer : ∀ (r S' : List Nat) (rk : List (Option Int)) (x y z w : Option T), r.length = S'.length → rk.length = lo.ws.length → S'.foldl (fun rk _ => rkRound lo u sn rk) rk = ranksN lo u sn →
        forGo (fun _ => True) (loopB C (.n 5) b__law_step_ranks_L2) (r.map nT) { nx := wSs C (.cons (.ife (.or (.cmp .gt (.bi .len (.cons (.lc true (.n 6) (.over (.v 3)) (.v 6) (.cmp .isN (.ix (.v 4) (.v 6)) .non)) .nil)) (.int 0)) (.cmp .gt (.bi .len (.cons (.call 32 (.cons (.v 0) (.cons (.v 1) (.cons (.v 2) (.cons (.v 4) .nil))))) .nil)) (.int 0))) (.cons (.ret (.lst true .nil)) .nil) .nil) (.cons (.ret (.frz (.v 4))) .nil)) (bodyEnds Q), rt := (bodyEnds Q).rt, bk := (bodyEnds Q).bk, ct := (bodyEnds Q).ct }
          [some (encW lo), some (encW u), some (oTs sn), some (nTs (stt lo)), some (.ref p), w, x, y, z] (up H p (.lst (rk.map oT))) := by
      intro r
      induction r with
      | nil =>
        intro S' rk x y z w hl0 hl e
        cases S' with
        | cons _ _ => cases hl0
        | nil =>
          rw [List.foldl_nil] at e
          simp only [List.map_nil, forGo_nil, true_and]
          exact fin rk x y z w hl e
      | cons s r ih =>
        intro S' rk x y z w hl0 hl e
        cases S' with
        | nil => cases hl0
        | cons s' S' =>
          rw [List.foldl_cons] at e
          simp only [List.map_cons, forGo_cons, loopB_n, b__law_step_ranks_L2, wSs_cons, wSs_nil, wS_set, wS_unp, wS_setix, wS_aug, wS_expr, wS_ret, wS_retN, wS_ife, wS_for, wS_while, wS_pass, wS_brk, wS_cont, wE_v, wE_non, wE_bl, wE_int, wE_str, wE_neg, wE_op, wE_cmp, wE_chain, wE_and, wE_or, wE_not, wE_ite, wE_ix, wE_sl, wE_tup, wE_lst, wE_dnew, wE_call, wE_bi, wE_isi, wE_me, wE_lc0, wE_dc, wE_sset, wE_frz, wEs_nil, wEs_cons, wI_over, wI_rng1, wI_rng2, List.map_cons, List.map_nil, List.length_cons, List.length_nil, List.cons_append, List.nil_append, lk_0, lk_s, st_0, st_s, ix_0, ix_1, ix_2, Op2.o, Cm.o, BI.o, ME.o, ME.rv, is_o, eq_int, cmp_int, overT, nop_cmp, nop_chain, nop_and, nop_or, nop_not, nop_call, nop_bi, nop_ite, nop_ix, nop_v, nop_int, nop_op, nop_neg, nop_nop, wE_lc_cmp, wE_lc_chain, wE_lc_and, wE_lc_or, wE_lc_not, wE_lc_call, wE_lc_bi, wE_lc_ite, wE_lc_ix, wE_lc_v, List.replicate_succ, List.replicate_zero, Nat.reduceAdd, Nat.reduceSub, oT_s, oT_n, eq_io, eq_oi, is_i, is_n, Bool.xor_true, Bool.xor_false, Bool.false_xor, Bool.true_xor, Bool.not_true, Bool.not_false, mk_t, bodyC_n, bodyC_n1, bodyD_n, true_and]
          refine inner (stt lo) rk _ _ _ _ _ (fun s hs => hs) hl fun x' y' z' => ?_
          simp only [wSs_cons, wSs_nil, wS_set, wS_unp, wS_setix, wS_aug, wS_expr, wS_ret, wS_retN, wS_ife, wS_for, wS_while, wS_pass, wS_brk, wS_cont, wE_v, wE_non, wE_bl, wE_int, wE_str, wE_neg, wE_op, wE_cmp, wE_chain, wE_and, wE_or, wE_not, wE_ite, wE_ix, wE_sl, wE_tup, wE_lst, wE_dnew, wE_call, wE_bi, wE_isi, wE_me, wE_lc0, wE_dc, wE_sset, wE_frz, wEs_nil, wEs_cons, wI_over, wI_rng1, wI_rng2, List.map_cons, List.map_nil, List.length_cons, List.length_nil, List.cons_append, List.nil_append, lk_0, lk_s, st_0, st_s, ix_0, ix_1, ix_2, Op2.o, Cm.o, BI.o, ME.o, ME.rv, is_o, eq_int, cmp_int, overT, nop_cmp, nop_chain, nop_and, nop_or, nop_not, nop_call, nop_bi, nop_ite, nop_ix, nop_v, nop_int, nop_op, nop_neg, nop_nop, wE_lc_cmp, wE_lc_chain, wE_lc_and, wE_lc_or, wE_lc_not, wE_lc_call, wE_lc_bi, wE_lc_ite, wE_lc_ix, wE_lc_v, List.replicate_succ, List.replicate_zero, Nat.reduceAdd, Nat.reduceSub, oT_s, oT_n, eq_io, eq_oi, is_i, is_n, Bool.xor_true, Bool.xor_false, Bool.false_xor, Bool.true_xor, Bool.not_true, Bool.not_false, mk_t, bodyC_n, bodyC_n1, bodyD_n]
          exact ih S' (rkRound lo u sn rk) _ _ _ _ (by simpa using hl0) (by unfold rkRound; rw [rkFold_len]; exact hl) e
    exact outer (List.range (stt lo).length) (stt lo) (List.replicate lo.ws.length none) _ _ _ _ (by rw [List.length_range]) (by rw [List.length_replicate]) rfl
end K80
set_option maxRecDepth 100000
set_option maxHeartbeats 1000000
namespace K80
open PySem PySem.Spec L2 TL
/-! ### _law_is_judged -/
theorem flat_encB (b : Brc) : flatD 2 (encB b) := by
  cases b with
  | beg s =>
    refine ⟨by simp, fun x hx => ?_⟩
    simp only [List.mem_cons, List.not_mem_nil, or_false] at hx
    rcases hx with e | e
    · rw [e]
      show PyData.strOk _ = true
      decide +kernel
    · rw [e]
      exact trivial
  | uns s =>
    refine ⟨by simp, fun x hx => ?_⟩
    simp only [List.mem_cons, List.not_mem_nil, or_false] at hx
    rcases hx with e | e
    · rw [e]
      show PyData.strOk _ = true
      decide +kernel
    · rw [e]
      exact trivial
  | lit s =>
    refine ⟨by simp, fun x hx => ?_⟩
    simp only [List.mem_cons, List.not_mem_nil, or_false] at hx
    rcases hx with e | e
    · rw [e]
      show PyData.strOk _ = true
      decide +kernel
    · rw [e]
      exact trivial
  | way s t =>
    refine ⟨by simp, fun x hx => ?_⟩
    simp only [List.mem_cons, List.not_mem_nil, or_false] at hx
    rcases hx with e | e | e
    · rw [e]
      show PyData.strOk _ = true
      decide +kernel
    · rw [e]
      exact trivial
    · rw [e]
      exact trivial
  | nxt s t =>
    refine ⟨by simp, fun x hx => ?_⟩
    simp only [List.mem_cons, List.not_mem_nil, or_false] at hx
    rcases hx with e | e | e
    · rw [e]
      show PyData.strOk _ = true
      decide +kernel
    · rw [e]
      exact trivial
    · rw [e]
      exact trivial
theorem flat_oTs {l : List (Option Int)} (h : l.length ≤ 16777216) : flatD 2 (oTs l) := ⟨by rw [List.length_map]; exact h, fun x hx => by
  obtain ⟨o, _, e⟩ := List.mem_map.mp hx
  subst e
  cases o <;> exact trivial⟩
theorem shp_ols : ∀ l : List (Option Int), noRefs (l.map oT) = true ∧ PyData.canLayAll0 (toDs (l.map oT)) = true ∧ PyData.depthAll (toDs (l.map oT)) ≤ 1
  | [] => ⟨rfl, rfl, Nat.zero_le _⟩
  | x :: l => by
    obtain ⟨h1, h2, h3⟩ := shp_ols l
    cases x with
    | none =>
      refine ⟨by simpa [noRefs, noRef, oT] using h1, by simpa [toDs, toD, oT, PyData.canLayAll0, PyData.canLay0] using h2, ?_⟩
      simp only [List.map_cons, toDs, toD, oT, PyData.depthAll, PyData.depth]
      omega
    | some i =>
      refine ⟨by simpa [noRefs, noRef, oT] using h1, by simpa [toDs, toD, oT, PyData.canLayAll0, PyData.canLay0] using h2, ?_⟩
      simp only [List.map_cons, toDs, toD, oT, PyData.depthAll, PyData.depth]
      omega
theorem eq_lnil {l : List (Option Int)} {H : TH} {Q : TL.KT} : oEq false (.lst (l.map oT)) (.lst []) H Q = Q (.bl l.isEmpty) H := by
  have h1 : TL.shp (.lst (l.map oT)) = true := by
    obtain ⟨h1, h2, h3⟩ := shp_ols l
    unfold TL.shp SeqAt.shaped
    rw [Bool.and_eq_true, Bool.and_eq_true, decide_eq_true_eq]
    refine ⟨h1, h2, ?_⟩
    show PyData.depthAll (toDs (l.map oT)) + 1 ≤ 64
    omega
  have h2 : TL.shp (.lst []) = true := by decide +kernel
  have h3 : eqT (.lst (l.map oT)) (.lst []) = l.isEmpty := by
    cases l with
    | nil => decide +kernel
    | cons a l => simp [eqT, toD, toDs, PyData.eqv, PyData.eqvAll]
  simp only [oEq, h1, h2, h3, and_self, true_and, Bool.false_xor]
theorem is_nonH {l : List Brc} {H : TH} {Q : TL.KT} {neg : Bool} : oIs neg (headB l) .non H Q = Q (.bl (neg ^^ decide (l = []))) H := by
  simp only [oIs, isNon_head, true_and]
def sp_law_is_judged : TSp := fun ts H Q => ∃ (lo u : Wd) (sn rk : List (Option Int)), ts = [encW u, encW lo, oTs sn, oTs rk] ∧ Ctx lo u sn rk ∧ 0 < lo.ws.length ∧ Q (.bl true) H
theorem w_law_is_judged {C : Nat → TSp} (h15 : C 15 = sp_first_breach) (h16 : C 16 = sp_judge_in_step) (h18 : C 18 = sp_judge_within_step) (h23 : C 23 = sp_least_step_ranks) (h26 : C 26 = sp_same 2) (h32 : C 32 = sp_law_breaches) (h33 : C 33 = sp_judge_within_step) (h35 : C 35 = sp_law_step_ranks)
    (ts : List T) (H : TH) (Q : TL.KT) (h : sp_law_is_judged ts H Q) : wSs C b__law_is_judged (bodyEnds Q) (start0 n__law_is_judged ts) H := by
  obtain ⟨lo, u, sn, rk, rfl, c, hn, q⟩ := h
  have hsm := c.okl.small
  simp only [b__law_is_judged, start0, n__law_is_judged, wSs_cons, wSs_nil, wS_set, wS_unp, wS_setix, wS_aug, wS_expr, wS_ret, wS_retN, wS_ife, wS_for, wS_while, wS_pass, wS_brk, wS_cont, wE_v, wE_non, wE_bl, wE_int, wE_str, wE_neg, wE_op, wE_cmp, wE_chain, wE_and, wE_or, wE_not, wE_ite, wE_ix, wE_sl, wE_tup, wE_lst, wE_dnew, wE_call, wE_bi, wE_isi, wE_me, wE_lc0, wE_dc, wE_sset, wE_frz, wEs_nil, wEs_cons, wI_over, wI_rng1, wI_rng2, List.map_cons, List.map_nil, List.length_cons, List.length_nil, List.cons_append, List.nil_append, lk_0, lk_s, st_0, st_s, ix_0, ix_1, ix_2, Op2.o, Cm.o, BI.o, ME.o, ME.rv, is_o, eq_int, cmp_int, overT, nop_cmp, nop_chain, nop_and, nop_or, nop_not, nop_call, nop_bi, nop_ite, nop_ix, nop_v, nop_int, nop_op, nop_neg, nop_nop, wE_lc_cmp, wE_lc_chain, wE_lc_and, wE_lc_or, wE_lc_not, wE_lc_call, wE_lc_bi, wE_lc_ite, wE_lc_ix, wE_lc_v, List.replicate_succ, List.replicate_zero, Nat.reduceAdd, Nat.reduceSub, oT_s, oT_n, eq_io, eq_oi, is_i, is_n, Bool.xor_true, Bool.xor_false, Bool.false_xor, Bool.true_xor, Bool.not_true, Bool.not_false, mk_t, bodyC_n, bodyC_n1, bodyD_n, h15, h16, h18, h23, h26, h32, h33, h35]
  refine ⟨lo, u, sn, rk, oTs rk, rfl, c, IxR.tup, lo, u, sn, rk, rfl, c, ?_⟩
  have two : ∀ (Bv : T), Bv = .lst ((breaches lo u sn rk).map encB) → ∀ {Q : TL.KT}, cLen [Bv] H Q = Q (.int ((breaches lo u sn rk).length : Int)) H := fun Bv e Q => by
    rw [e, len_lmap]
  have rest : sp_judge_in_step [encW lo, encW u, oTs sn, oTs rk] H fun t H1 => cLen [.lst ((breaches lo u sn rk).map encB)] H1 fun x H2 => oEq false x (.int 0) H2 fun y H3 => sp_same 2 [t, y] H3 fun z H4 => match z with
      | .bl b => match T.bl (!b) with
        | .bl true => (bodyEnds Q).rt (.bl false) H4
        | .bl false => sp_judge_within_step [encW lo, encW u, oTs sn, oTs rk] H4 fun t H5 => sp_judge_within_step [encW lo, encW u, oTs sn, oTs rk] H5 fun t' H6 => sp_same 2 [t, t'] H6 fun z H7 => match z with
          | .bl b => match T.bl (!b) with
            | .bl true => (bodyEnds Q).rt (.bl false) H7
            | .bl false => sp_law_step_ranks [encW lo, encW u, oTs sn] H7 fun due H8 => sp_least_step_ranks [encW lo, encW u, oTs sn] H8 fun own H9 => 0 ≤ sizeLine ∧ oEq false due (.lst []) H9 fun x H10 => match x with
              | .bl true => oIs false own .non H10 (bodyEnds Q).rt
              | .bl false => cTuple [due] H10 fun v H11 => sp_same 2 [own, v] H11 (bodyEnds Q).rt
              | _ => False
            | _ => False
          | _ => False
        | _ => False
      | _ => False := by
    refine ⟨lo, u, sn, rk, rfl, c, ?_⟩
    simp only [len_lmap, eq_int, len0, Bool.false_xor]
    refine ⟨_, rfl, trivial, ?_⟩
    simp only [Bool.not_true]
    refine ⟨lo, u, sn, rk, rfl, c, lo, u, sn, rk, rfl, c, _, rfl, trivial, ?_⟩
    simp only [Bool.not_true]
    refine ⟨lo, u, sn, rk, rfl, c, lo, u, sn, rk, rfl, c, ?_⟩
    cases e : lsr lo u sn with
    | none =>
      have := eq_lnil (l := []) (H := H) (Q := fun x H10 => match x with
              | .bl true => oIs false T.non .non H10 (bodyEnds Q).rt
              | .bl false => cTuple [.lst []] H10 fun v H11 => sp_same 2 [T.non, v] H11 (bodyEnds Q).rt
              | _ => False)
      refine ⟨Nat.zero_le _, this.mpr ?_⟩
      simp only [List.isEmpty_nil, is_n, Bool.false_xor]
      exact rtn q
    | some l =>
      have hl : l = ranksN lo u sn := by
        unfold lsr at e
        split at e
        · split at e
          · cases e
          · split at e
            · cases e
              rfl
            · cases e
        · cases e
      have hlen : l.length = lo.ws.length := by rw [hl, ranksN_len]
      have hne : l.isEmpty = false := by
        cases l with
        | nil =>
          rw [← hlen] at hn
          exact absurd hn (Nat.lt_irrefl 0)
        | cons _ _ => rfl
      simp only [encLsr, eq_lnil, hne, cTuple, seqOf]
      exact ⟨Nat.zero_le _, _, rfl, flat_oTs (by omega), rtn q⟩
  simp only [len_lmap, wSs_cons, wSs_nil, wS_set, wS_unp, wS_setix, wS_aug, wS_expr, wS_ret, wS_retN, wS_ife, wS_for, wS_while, wS_pass, wS_brk, wS_cont, wE_v, wE_non, wE_bl, wE_int, wE_str, wE_neg, wE_op, wE_cmp, wE_chain, wE_and, wE_or, wE_not, wE_ite, wE_ix, wE_sl, wE_tup, wE_lst, wE_dnew, wE_call, wE_bi, wE_isi, wE_me, wE_lc0, wE_dc, wE_sset, wE_frz, wEs_nil, wEs_cons, wI_over, wI_rng1, wI_rng2, List.map_cons, List.map_nil, List.length_cons, List.length_nil, List.cons_append, List.nil_append, lk_0, lk_s, st_0, st_s, ix_0, ix_1, ix_2, Op2.o, Cm.o, BI.o, ME.o, ME.rv, is_o, eq_int, cmp_int, overT, nop_cmp, nop_chain, nop_and, nop_or, nop_not, nop_call, nop_bi, nop_ite, nop_ix, nop_v, nop_int, nop_op, nop_neg, nop_nop, wE_lc_cmp, wE_lc_chain, wE_lc_and, wE_lc_or, wE_lc_not, wE_lc_call, wE_lc_bi, wE_lc_ite, wE_lc_ix, wE_lc_v, List.replicate_succ, List.replicate_zero, Nat.reduceAdd, Nat.reduceSub, oT_s, oT_n, eq_io, eq_oi, is_i, is_n, Bool.xor_true, Bool.xor_false, Bool.false_xor, Bool.true_xor, Bool.not_true, Bool.not_false, mk_t, bodyC_n, bodyC_n1, bodyD_n, len0, is_nonH]
  simp only [len_lmap, eq_int, len0, Bool.false_xor, oTsO] at rest
  generalize breaches lo u sn rk = B at rest ⊢
  cases B with
  | nil =>
    simp only [decide_true, Bool.true_xor, Bool.not_true, List.length_nil, Int.natCast_zero, Int.lt_irrefl, decide_false]
    simp only [decide_true] at rest
    exact rest
  | cons b B =>
    have hpos : (0 : Int) < ((B.length + 1 : Nat) : Int) := by omega
    have e0 : atI (encB b :: B.map encB) 0 = some (encB b) := atI_nat (j := 0) rfl
    simp only [reduceCtorEq, decide_false, hpos, decide_true, List.length_cons, List.map_cons, oIx, seqOf, e0, headB]
    refine ⟨_, rfl, flat_encB b, ?_⟩
    simp only [Bool.not_true]
    simp only [reduceCtorEq, decide_false] at rest
    exact rest
end K80
set_option maxRecDepth 100000
set_option maxHeartbeats 1000000
namespace K80
open PySem PySem.Spec L2 TL
/-! ### _law_world -/
structure Wd.Good (w : Wd) : Prop where
  ok : w.Ok
  pos : 0 < w.ws.length
  lit : ∀ l ∈ w.ls, l.length ≤ 1000
/-- the draws, and two lists of a def's own -/
structure Wj (H : TH) (p q r : Addr) (A B : TL.TO) (Hx : TH) : Prop where
  kp : Kp H p Hx
  nq : H q = none
  nr : H r = none
  qp : q ≠ p
  rp : r ≠ p
  qr : q ≠ r
  a : Hx q = some A
  b : Hx r = some B
theorem Wj.dj {H : TH} {p q r : Addr} {A B : TL.TO} : DJ p (Wj H p q r A B) := ⟨fun _ h => h.kp.ds, fun Hx ds h => ⟨Kp.dj.set Hx ds h.kp, h.nq, h.nr, h.qp, h.rp, h.qr, by rw [up_ne h.qp]; exact h.a, by rw [up_ne h.rp]; exact h.b⟩⟩
theorem Wj.seta {H : TH} {p q r : Addr} {A B A' : TL.TO} {Hx : TH} (h : Wj H p q r A B Hx) : Wj H p q r A' B (up Hx q A') := ⟨h.kp.put h.nq h.qp, h.nq, h.nr, h.qp, h.rp, h.qr, up_same, by rw [up_ne h.qr.symm]; exact h.b⟩
theorem Wj.setb {H : TH} {p q r : Addr} {A B B' : TL.TO} {Hx : TH} (h : Wj H p q r A B Hx) : Wj H p q r A B' (up Hx r B') := ⟨h.kp.put h.nr h.rp, h.nq, h.nr, h.qp, h.rp, h.qr, by rw [up_ne h.qr]; exact h.a, up_same⟩
theorem Wj.mk0 {H : TH} {p q r : Addr} {A B : TL.TO} {Hx : TH} (k : Kp H p Hx) (hp : ∃ o, H p = some o) (hq : Hx q = none) (hr : up Hx q A r = none) : Wj H p q r A B (up (up Hx q A) r B) := by
  have hqr : q ≠ r := fun e => by
    subst e
    rw [up_same] at hr
    cases hr
  rw [up_ne hqr.symm] at hr
  obtain ⟨nq, qp⟩ := k.new hp hq
  obtain ⟨nr, rp⟩ := k.new hp hr
  exact ⟨(k.put nq qp).put nr rp, nq, nr, qp, rp, hqr, by rw [up_ne hqr, up_same], up_same⟩
def sp_law_world : TSp := fun ts H Q => ∃ (p : Addr) (ds : List Int) (size many most : Nat), ts = [.ref p, nT size, nT many, nT most] ∧ H p = some (.lst (ds.map .int)) ∧ 0 < size ∧ size ≤ 60 ∧ many ≤ 60 ∧ 0 < most ∧ most ≤ 30 ∧
  ∀ (w : Wd) (ds' : List Int), w.Good → w.ws.length = size → Q (encW w) (up H p (.lst (ds'.map .int)))
theorem one_add {v : Nat} : (1 : Int) + (v : Int) = ((1 + v : Nat) : Int) := by omega
/-- a row of takes -/
theorem lc_takes {C : Nat → TSp} {H : TH} {p : Addr} {m n i : Nat} {J : TH → Prop} {ed em : E} {σ : TSt} {K : List T → TH → Prop} (dj : DJ p J) (hC : C 25 = sp_take) (hm : 0 < m) (hn : n ≤ 1000) (hJ : J H)
    (hd : ∀ x Hx Q, wE C ed (σ.set i (some x)) Hx Q = Q (.ref p) Hx) (he : ∀ x Hx Q, wE C em (σ.set i (some x)) Hx Q = Q (nT m) Hx)
    (hK : ∀ (l : List Nat) (Hy : TH), l.length = n → (∀ v ∈ l, v < m) → J Hy → K (l.map nT) Hy) :
    lcGo (fun _ => True) (bodyC (.n i) none (wE C (.call 25 (.cons ed (.cons em .nil)))) σ) ((List.range n).map nT) [] H K := by
  refine lc_inv0 J (fun v : Nat => v < m) nT (fun x _ Hx G hx g => ?_) (sz (by rw [List.length_map, List.length_range]; omega)) hJ fun l Hy hl hV hy => hK l Hy (by rw [hl, List.length_map, List.length_range]) hV hy
  rw [bodyC_n]
  simp only [wE_call, wEs_cons, wEs_nil, hd, he, hC]
  exact take_j dj hx hm fun v Hy hv hy => g v Hy hv hy
theorem w_law_world {C : Nat → TSp} (h25 : C 25 = sp_take) (ts : List T) (H : TH) (Q : TL.KT) (h : sp_law_world ts H Q) : wSs C b__law_world (bodyEnds Q) (start0 n__law_world ts) H := by
  obtain ⟨p, ds, size, many, most, rfl, hp, hs0, hs, hmy, hm0, hm, hQ⟩ := h
  have h10 : (0 : Nat) ≤ 16777216 := Nat.zero_le _
  simp only [b__law_world, start0, n__law_world, wSs_cons, wSs_nil, wS_set, wS_unp, wS_setix, wS_aug, wS_expr, wS_ret, wS_retN, wS_ife, wS_for, wS_while, wS_pass, wS_brk, wS_cont, wE_v, wE_non, wE_bl, wE_int, wE_str, wE_neg, wE_op, wE_cmp, wE_chain, wE_and, wE_or, wE_not, wE_ite, wE_ix, wE_sl, wE_tup, wE_lst, wE_dnew, wE_call, wE_bi, wE_isi, wE_me, wE_lc0, wE_dc, wE_sset, wE_frz, wEs_nil, wEs_cons, wI_over, wI_rng1, wI_rng2, List.map_cons, List.map_nil, List.length_cons, List.length_nil, List.cons_append, List.nil_append, lk_0, lk_s, st_0, st_s, ix_0, ix_1, ix_2, Op2.o, Cm.o, BI.o, ME.o, ME.rv, is_o, eq_int, cmp_int, overT, nop_cmp, nop_chain, nop_and, nop_or, nop_not, nop_call, nop_bi, nop_ite, nop_ix, nop_v, nop_int, nop_op, nop_neg, nop_nop, wE_lc_cmp, wE_lc_chain, wE_lc_and, wE_lc_or, wE_lc_not, wE_lc_call, wE_lc_bi, wE_lc_ite, wE_lc_ix, wE_lc_v, List.replicate_succ, List.replicate_zero, Nat.reduceAdd, Nat.reduceSub, oT_s, oT_n, eq_io, eq_oi, is_i, is_n, Bool.xor_true, Bool.xor_false, Bool.false_xor, Bool.true_xor, Bool.not_true, Bool.not_false, mk_t, bodyC_n, bodyC_n1, bodyD_n, mk_f]
  refine ⟨sz h10, fun q hq => ⟨sz h10, fun r hr => ?_⟩⟩
  rw [rng_n (show size ≤ 16777216 by omega)]
  have loop : ∀ (l : List Nat) (ws : List (List Nat)) (ls : List (List Int)) (x y z w : Option T) (Hx : TH), ws.length + l.length = size → ls.length = ws.length → (∀ row ∈ ws, row.Nodup ∧ ∀ t ∈ row, t < size) → (∀ row ∈ ls, row.length ≤ 1000) → Wj H p q r (.lst (ws.map nTs)) (.lst (ls.map iTs)) Hx →
      forGo (fun _ => True) (loopB C (.n 6) b__law_world_L1) (l.map nT) { nx := wSs C (.cons (.set 7 (.lc true (.n 9) (.rng1 (.op (.add true) (.int 1) (.call 25 (.cons (.v 0) (.cons (.int 2) .nil))))) (.call 25 (.cons (.v 0) (.cons (.v 1) .nil))) .nop)) (.cons (.ret (.tup (.cons (.bi .tuple (.cons (.sset true (.v 7)) .nil)) (.cons (.bi .tuple (.cons (.v 4) .nil)) (.cons (.bi .tuple (.cons (.v 5) .nil)) .nil))))) .nil)) (bodyEnds Q), rt := (bodyEnds Q).rt, bk := (bodyEnds Q).bk, ct := (bodyEnds Q).ct }
        [some (.ref p), some (nT size), some (nT many), some (nT most), some (.ref q), some (.ref r), x, y, z, w] Hx := by
    intro l
    induction l with
    | nil =>
      intro ws ls x y z w Hx hl1 hl2 hw hlt j
      rw [List.length_nil, Nat.add_zero] at hl1
      simp only [List.map_nil, forGo_nil, wSs_cons, wSs_nil, wS_set, wS_unp, wS_setix, wS_aug, wS_expr, wS_ret, wS_retN, wS_ife, wS_for, wS_while, wS_pass, wS_brk, wS_cont, wE_v, wE_non, wE_bl, wE_int, wE_str, wE_neg, wE_op, wE_cmp, wE_chain, wE_and, wE_or, wE_not, wE_ite, wE_ix, wE_sl, wE_tup, wE_lst, wE_dnew, wE_call, wE_bi, wE_isi, wE_me, wE_lc0, wE_dc, wE_sset, wE_frz, wEs_nil, wEs_cons, wI_over, wI_rng1, wI_rng2, List.map_cons, List.map_nil, List.length_cons, List.length_nil, List.cons_append, List.nil_append, lk_0, lk_s, st_0, st_s, ix_0, ix_1, ix_2, Op2.o, Cm.o, BI.o, ME.o, ME.rv, is_o, eq_int, cmp_int, overT, nop_cmp, nop_chain, nop_and, nop_or, nop_not, nop_call, nop_bi, nop_ite, nop_ix, nop_v, nop_int, nop_op, nop_neg, nop_nop, wE_lc_cmp, wE_lc_chain, wE_lc_and, wE_lc_or, wE_lc_not, wE_lc_call, wE_lc_bi, wE_lc_ite, wE_lc_ix, wE_lc_v, List.replicate_succ, List.replicate_zero, Nat.reduceAdd, Nat.reduceSub, oT_s, oT_n, eq_io, eq_oi, is_i, is_n, Bool.xor_true, Bool.xor_false, Bool.false_xor, Bool.true_xor, Bool.not_true, Bool.not_false, mk_t, bodyC_n, bodyC_n1, bodyD_n, true_and, h25]
      refine take_j (m := 2) Wj.dj j (by omega) fun v Hy hv jy => ?_
      simp only [add_ii, one_add]
      rw [rng_n (by omega)]
      refine lc_takes Wj.dj h25 hs0 (by omega) jy (fun x Hx Q => by simp only [wSs_cons, wSs_nil, wS_set, wS_unp, wS_setix, wS_aug, wS_expr, wS_ret, wS_retN, wS_ife, wS_for, wS_while, wS_pass, wS_brk, wS_cont, wE_v, wE_non, wE_bl, wE_int, wE_str, wE_neg, wE_op, wE_cmp, wE_chain, wE_and, wE_or, wE_not, wE_ite, wE_ix, wE_sl, wE_tup, wE_lst, wE_dnew, wE_call, wE_bi, wE_isi, wE_me, wE_lc0, wE_dc, wE_sset, wE_frz, wEs_nil, wEs_cons, wI_over, wI_rng1, wI_rng2, List.map_cons, List.map_nil, List.length_cons, List.length_nil, List.cons_append, List.nil_append, lk_0, lk_s, st_0, st_s, ix_0, ix_1, ix_2, Op2.o, Cm.o, BI.o, ME.o, ME.rv, is_o, eq_int, cmp_int, overT, nop_cmp, nop_chain, nop_and, nop_or, nop_not, nop_call, nop_bi, nop_ite, nop_ix, nop_v, nop_int, nop_op, nop_neg, nop_nop, wE_lc_cmp, wE_lc_chain, wE_lc_and, wE_lc_or, wE_lc_not, wE_lc_call, wE_lc_bi, wE_lc_ite, wE_lc_ix, wE_lc_v, List.replicate_succ, List.replicate_zero, Nat.reduceAdd, Nat.reduceSub, oT_s, oT_n, eq_io, eq_oi, is_i, is_n, Bool.xor_true, Bool.xor_false, Bool.false_xor, Bool.true_xor, Bool.not_true, Bool.not_false, mk_t, bodyC_n, bodyC_n1, bodyD_n]) (fun x Hx Q => by simp only [wSs_cons, wSs_nil, wS_set, wS_unp, wS_setix, wS_aug, wS_expr, wS_ret, wS_retN, wS_ife, wS_for, wS_while, wS_pass, wS_brk, wS_cont, wE_v, wE_non, wE_bl, wE_int, wE_str, wE_neg, wE_op, wE_cmp, wE_chain, wE_and, wE_or, wE_not, wE_ite, wE_ix, wE_sl, wE_tup, wE_lst, wE_dnew, wE_call, wE_bi, wE_isi, wE_me, wE_lc0, wE_dc, wE_sset, wE_frz, wEs_nil, wEs_cons, wI_over, wI_rng1, wI_rng2, List.map_cons, List.map_nil, List.length_cons, List.length_nil, List.cons_append, List.nil_append, lk_0, lk_s, st_0, st_s, ix_0, ix_1, ix_2, Op2.o, Cm.o, BI.o, ME.o, ME.rv, is_o, eq_int, cmp_int, overT, nop_cmp, nop_chain, nop_and, nop_or, nop_not, nop_call, nop_bi, nop_ite, nop_ix, nop_v, nop_int, nop_op, nop_neg, nop_nop, wE_lc_cmp, wE_lc_chain, wE_lc_and, wE_lc_or, wE_lc_not, wE_lc_call, wE_lc_bi, wE_lc_ite, wE_lc_ix, wE_lc_v, List.replicate_succ, List.replicate_zero, Nat.reduceAdd, Nat.reduceSub, oT_s, oT_n, eq_io, eq_oi, is_i, is_n, Bool.xor_true, Bool.xor_false, Bool.false_xor, Bool.true_xor, Bool.not_true, Bool.not_false, mk_t, bodyC_n, bodyC_n1, bodyD_n]) fun l Hz hl hV jz => ?_
      simp only [mk_t, wSs_cons, wSs_nil, wS_set, wS_unp, wS_setix, wS_aug, wS_expr, wS_ret, wS_retN, wS_ife, wS_for, wS_while, wS_pass, wS_brk, wS_cont, wE_v, wE_non, wE_bl, wE_int, wE_str, wE_neg, wE_op, wE_cmp, wE_chain, wE_and, wE_or, wE_not, wE_ite, wE_ix, wE_sl, wE_tup, wE_lst, wE_dnew, wE_call, wE_bi, wE_isi, wE_me, wE_lc0, wE_dc, wE_sset, wE_frz, wEs_nil, wEs_cons, wI_over, wI_rng1, wI_rng2, List.map_cons, List.map_nil, List.length_cons, List.length_nil, List.cons_append, List.nil_append, lk_0, lk_s, st_0, st_s, ix_0, ix_1, ix_2, Op2.o, Cm.o, BI.o, ME.o, ME.rv, is_o, eq_int, cmp_int, overT, nop_cmp, nop_chain, nop_and, nop_or, nop_not, nop_call, nop_bi, nop_ite, nop_ix, nop_v, nop_int, nop_op, nop_neg, nop_nop, wE_lc_cmp, wE_lc_chain, wE_lc_and, wE_lc_or, wE_lc_not, wE_lc_call, wE_lc_bi, wE_lc_ite, wE_lc_ix, wE_lc_v, List.replicate_succ, List.replicate_zero, Nat.reduceAdd, Nat.reduceSub, oT_s, oT_n, eq_io, eq_oi, is_i, is_n, Bool.xor_true, Bool.xor_false, Bool.false_xor, Bool.true_xor, Bool.not_true, Bool.not_false, mk_t, bodyC_n, bodyC_n1, bodyD_n, sset_n, cTuple, seqOf, jz.a, jz.b]
      refine ⟨by omega, sz (by simp), ?_⟩
      refine rtd jz.kp fun ds' => hQ ⟨nset l, ws, ls⟩ ds' ⟨⟨by show ws.length ≤ 60; omega, by show ls.length = ws.length; omega, fun x hx => ?_, nset_nd l, fun row hr t ht => ?_, fun row hr => (hw row hr).1⟩, by show 0 < ws.length; omega, hlt⟩ hl1
      · show x < ws.length
        rw [hl1]
        exact hV x (mem_nset.mp hx)
      · show t < ws.length
        rw [hl1]
        exact (hw row hr).2 t ht
    | cons k l ih =>
      intro ws ls x y z w Hx hl1 hl2 hw hlt j
      rw [List.length_cons] at hl1
      simp only [List.map_cons, forGo_cons, loopB_n, b__law_world_L1, wSs_cons, wSs_nil, wS_set, wS_unp, wS_setix, wS_aug, wS_expr, wS_ret, wS_retN, wS_ife, wS_for, wS_while, wS_pass, wS_brk, wS_cont, wE_v, wE_non, wE_bl, wE_int, wE_str, wE_neg, wE_op, wE_cmp, wE_chain, wE_and, wE_or, wE_not, wE_ite, wE_ix, wE_sl, wE_tup, wE_lst, wE_dnew, wE_call, wE_bi, wE_isi, wE_me, wE_lc0, wE_dc, wE_sset, wE_frz, wEs_nil, wEs_cons, wI_over, wI_rng1, wI_rng2, List.map_cons, List.map_nil, List.length_cons, List.length_nil, List.cons_append, List.nil_append, lk_0, lk_s, st_0, st_s, ix_0, ix_1, ix_2, Op2.o, Cm.o, BI.o, ME.o, ME.rv, is_o, eq_int, cmp_int, overT, nop_cmp, nop_chain, nop_and, nop_or, nop_not, nop_call, nop_bi, nop_ite, nop_ix, nop_v, nop_int, nop_op, nop_neg, nop_nop, wE_lc_cmp, wE_lc_chain, wE_lc_and, wE_lc_or, wE_lc_not, wE_lc_call, wE_lc_bi, wE_lc_ite, wE_lc_ix, wE_lc_v, List.replicate_succ, List.replicate_zero, Nat.reduceAdd, Nat.reduceSub, oT_s, oT_n, eq_io, eq_oi, is_i, is_n, Bool.xor_true, Bool.xor_false, Bool.false_xor, Bool.true_xor, Bool.not_true, Bool.not_false, mk_t, bodyC_n, bodyC_n1, bodyD_n, true_and, h25]
      refine take_j Wj.dj j hm0 fun v Hy hv jy => ?_
      simp only [add_ii, one_add]
      rw [rng_n (by omega)]
      refine lc_takes Wj.dj h25 hs0 (by omega) jy (fun x Hx Q => by simp only [wSs_cons, wSs_nil, wS_set, wS_unp, wS_setix, wS_aug, wS_expr, wS_ret, wS_retN, wS_ife, wS_for, wS_while, wS_pass, wS_brk, wS_cont, wE_v, wE_non, wE_bl, wE_int, wE_str, wE_neg, wE_op, wE_cmp, wE_chain, wE_and, wE_or, wE_not, wE_ite, wE_ix, wE_sl, wE_tup, wE_lst, wE_dnew, wE_call, wE_bi, wE_isi, wE_me, wE_lc0, wE_dc, wE_sset, wE_frz, wEs_nil, wEs_cons, wI_over, wI_rng1, wI_rng2, List.map_cons, List.map_nil, List.length_cons, List.length_nil, List.cons_append, List.nil_append, lk_0, lk_s, st_0, st_s, ix_0, ix_1, ix_2, Op2.o, Cm.o, BI.o, ME.o, ME.rv, is_o, eq_int, cmp_int, overT, nop_cmp, nop_chain, nop_and, nop_or, nop_not, nop_call, nop_bi, nop_ite, nop_ix, nop_v, nop_int, nop_op, nop_neg, nop_nop, wE_lc_cmp, wE_lc_chain, wE_lc_and, wE_lc_or, wE_lc_not, wE_lc_call, wE_lc_bi, wE_lc_ite, wE_lc_ix, wE_lc_v, List.replicate_succ, List.replicate_zero, Nat.reduceAdd, Nat.reduceSub, oT_s, oT_n, eq_io, eq_oi, is_i, is_n, Bool.xor_true, Bool.xor_false, Bool.false_xor, Bool.true_xor, Bool.not_true, Bool.not_false, mk_t, bodyC_n, bodyC_n1, bodyD_n]) (fun x Hx Q => by simp only [wSs_cons, wSs_nil, wS_set, wS_unp, wS_setix, wS_aug, wS_expr, wS_ret, wS_retN, wS_ife, wS_for, wS_while, wS_pass, wS_brk, wS_cont, wE_v, wE_non, wE_bl, wE_int, wE_str, wE_neg, wE_op, wE_cmp, wE_chain, wE_and, wE_or, wE_not, wE_ite, wE_ix, wE_sl, wE_tup, wE_lst, wE_dnew, wE_call, wE_bi, wE_isi, wE_me, wE_lc0, wE_dc, wE_sset, wE_frz, wEs_nil, wEs_cons, wI_over, wI_rng1, wI_rng2, List.map_cons, List.map_nil, List.length_cons, List.length_nil, List.cons_append, List.nil_append, lk_0, lk_s, st_0, st_s, ix_0, ix_1, ix_2, Op2.o, Cm.o, BI.o, ME.o, ME.rv, is_o, eq_int, cmp_int, overT, nop_cmp, nop_chain, nop_and, nop_or, nop_not, nop_call, nop_bi, nop_ite, nop_ix, nop_v, nop_int, nop_op, nop_neg, nop_nop, wE_lc_cmp, wE_lc_chain, wE_lc_and, wE_lc_or, wE_lc_not, wE_lc_call, wE_lc_bi, wE_lc_ite, wE_lc_ix, wE_lc_v, List.replicate_succ, List.replicate_zero, Nat.reduceAdd, Nat.reduceSub, oT_s, oT_n, eq_io, eq_oi, is_i, is_n, Bool.xor_true, Bool.xor_false, Bool.false_xor, Bool.true_xor, Bool.not_true, Bool.not_false, mk_t, bodyC_n, bodyC_n1, bodyD_n]) fun row Hz hrl hV jz => ?_
      simp only [mk_t, wSs_cons, wSs_nil, wS_set, wS_unp, wS_setix, wS_aug, wS_expr, wS_ret, wS_retN, wS_ife, wS_for, wS_while, wS_pass, wS_brk, wS_cont, wE_v, wE_non, wE_bl, wE_int, wE_str, wE_neg, wE_op, wE_cmp, wE_chain, wE_and, wE_or, wE_not, wE_ite, wE_ix, wE_sl, wE_tup, wE_lst, wE_dnew, wE_call, wE_bi, wE_isi, wE_me, wE_lc0, wE_dc, wE_sset, wE_frz, wEs_nil, wEs_cons, wI_over, wI_rng1, wI_rng2, List.map_cons, List.map_nil, List.length_cons, List.length_nil, List.cons_append, List.nil_append, lk_0, lk_s, st_0, st_s, ix_0, ix_1, ix_2, Op2.o, Cm.o, BI.o, ME.o, ME.rv, is_o, eq_int, cmp_int, overT, nop_cmp, nop_chain, nop_and, nop_or, nop_not, nop_call, nop_bi, nop_ite, nop_ix, nop_v, nop_int, nop_op, nop_neg, nop_nop, wE_lc_cmp, wE_lc_chain, wE_lc_and, wE_lc_or, wE_lc_not, wE_lc_call, wE_lc_bi, wE_lc_ite, wE_lc_ix, wE_lc_v, List.replicate_succ, List.replicate_zero, Nat.reduceAdd, Nat.reduceSub, oT_s, oT_n, eq_io, eq_oi, is_i, is_n, Bool.xor_true, Bool.xor_false, Bool.false_xor, Bool.true_xor, Bool.not_true, Bool.not_false, mk_t, bodyC_n, bodyC_n1, bodyD_n, sset_n, cTuple, seqOf]
      refine ⟨recv_l jz.a, by omega, ?_⟩
      rw [append_l jz.a]
      refine ⟨sz' (by rw [List.length_map]; omega), ?_⟩
      have j2 := jz.seta (A' := .lst ((ws ++ [nset row]).map nTs))
      rw [List.map_append] at j2
      refine ⟨recv_l j2.b, ?_⟩
      rw [rng_n (by omega)]
      refine lc_takes (m := 2) Wj.dj h25 (by omega) (by omega) j2 (fun x Hx Q => by simp only [wSs_cons, wSs_nil, wS_set, wS_unp, wS_setix, wS_aug, wS_expr, wS_ret, wS_retN, wS_ife, wS_for, wS_while, wS_pass, wS_brk, wS_cont, wE_v, wE_non, wE_bl, wE_int, wE_str, wE_neg, wE_op, wE_cmp, wE_chain, wE_and, wE_or, wE_not, wE_ite, wE_ix, wE_sl, wE_tup, wE_lst, wE_dnew, wE_call, wE_bi, wE_isi, wE_me, wE_lc0, wE_dc, wE_sset, wE_frz, wEs_nil, wEs_cons, wI_over, wI_rng1, wI_rng2, List.map_cons, List.map_nil, List.length_cons, List.length_nil, List.cons_append, List.nil_append, lk_0, lk_s, st_0, st_s, ix_0, ix_1, ix_2, Op2.o, Cm.o, BI.o, ME.o, ME.rv, is_o, eq_int, cmp_int, overT, nop_cmp, nop_chain, nop_and, nop_or, nop_not, nop_call, nop_bi, nop_ite, nop_ix, nop_v, nop_int, nop_op, nop_neg, nop_nop, wE_lc_cmp, wE_lc_chain, wE_lc_and, wE_lc_or, wE_lc_not, wE_lc_call, wE_lc_bi, wE_lc_ite, wE_lc_ix, wE_lc_v, List.replicate_succ, List.replicate_zero, Nat.reduceAdd, Nat.reduceSub, oT_s, oT_n, eq_io, eq_oi, is_i, is_n, Bool.xor_true, Bool.xor_false, Bool.false_xor, Bool.true_xor, Bool.not_true, Bool.not_false, mk_t, bodyC_n, bodyC_n1, bodyD_n]) (fun x Hx Q => rfl) fun li Hu hll hV2 ju => ?_
      refine (append_l ju.b).mpr ⟨sz' (by rw [List.length_map]; omega), ?_⟩
      have j3 := ju.setb (B' := .lst ((ls ++ [ofN li]).map iTs))
      rw [List.map_append] at j3
      have e : (ofN li).map T.int = li.map nT := ints_ofN li
      have j4 : Wj H p q r (.lst ((ws ++ [nset row]).map nTs)) (.lst ((ls ++ [ofN li]).map iTs)) (up Hu r (.lst (ls.map iTs ++ [.tup (li.map nT)]))) := by
        rw [List.map_append, List.map_append]
        rw [show [T.tup (li.map nT)] = [ofN li].map iTs by rw [List.map_cons, List.map_nil]; unfold iTs; rw [e]]
        exact j3
      refine ih (ws ++ [nset row]) (ls ++ [ofN li]) _ _ _ _ _ ?_ ?_ (fun a ha => ?_) (fun a ha => ?_) j4
      · rw [List.length_append, List.length_singleton]
        omega
      · rw [List.length_append, List.length_append, List.length_singleton, List.length_singleton, hl2]
      · rcases List.mem_append.mp ha with z | z
        · exact hw a z
        · rw [List.mem_singleton.mp z]
          exact ⟨nset_nd row, fun t ht => hV t (mem_nset.mp ht)⟩
      · rcases List.mem_append.mp ha with z | z
        · exact hlt a z
        · rw [List.mem_singleton.mp z, List.length_map]
          omega
  exact loop (List.range size) [] [] none none none none _ (by rw [List.length_range]; simp) rfl (fun _ h => (nomatch h)) (fun _ h => (nomatch h)) (Wj.mk0 (Kp.mk0 hp) ⟨_, hp⟩ hq hr)
end K80
set_option maxRecDepth 100000
set_option maxHeartbeats 1000000
namespace K80
open PySem PySem.Spec L2 TL
/-! ### a world of chains breaks nothing -/
def oN (l : List Nat) : List (Option Int) := l.map fun n : Nat => some (n : Int)
theorem oN_T (l : List Nat) : (oN l).map oT = l.map nT := by
  unfold oN
  rw [List.map_map]
  rfl
theorem sAt_oN {l : List Nat} {s o : Nat} (h : l[s]? = some o) : sAt (oN l) s = some (o : Int) := by
  unfold sAt oN
  rw [List.getD_eq_getElem?_getD, List.getElem?_map, h]
  rfl
structure Chain (u lo : Wd) (ow rk : List Nat) (fst : Nat → Nat) : Prop where
  len : lo.ws.length = ow.length
  rl : rk.length = ow.length
  own : ∀ o ∈ ow, o < u.ws.length
  fs : ∀ s, s < u.ws.length → ow[fst s]? = some s
  bs : lo.bs = u.bs.map fst
  row : ∀ k o, ow[k]? = some o → (∀ t, t ∈ nx lo k ↔ t ∈ (nx u o).map fst) ∨ ((∀ t, t ∈ nx lo k ↔ t = k + 1) ∧ ow[k + 1]? = some o ∧ rk.getD (k + 1) 0 < rk.getD k 0)
  ls : ∀ k o, ow[k]? = some o → lo.ls.getD k [] = u.ls.getD o []
theorem Chain.up {u lo : Wd} {ow rk : List Nat} {fst : Nat → Nat} (h : Chain u lo ow rk fst) : Chain u lo ow (rk.map fun r => r + 1) fst := by
  refine ⟨h.len, by rw [List.length_map]; exact h.rl, h.own, h.fs, h.bs, fun k o e => ?_, h.ls⟩
  rcases h.row k o e with z | ⟨z1, z2, z3⟩
  · exact .inl z
  · refine .inr ⟨z1, z2, ?_⟩
    have l1 : k + 1 < rk.length := by
      rw [h.rl]
      rcases Nat.lt_or_ge (k + 1) ow.length with z | z
      · exact z
      · rw [List.getElem?_eq_none z] at z2
        cases z2
    have l0 : k < rk.length := by omega
    rw [List.getD_eq_getElem?_getD, List.getD_eq_getElem?_getD, List.getElem?_eq_getElem l1, List.getElem?_eq_getElem l0] at z3
    rw [List.getD_eq_getElem?_getD, List.getD_eq_getElem?_getD, List.getElem?_map, List.getElem?_map, List.getElem?_eq_getElem l1, List.getElem?_eq_getElem l0]
    show rk[k + 1] + 1 < rk[k] + 1
    have z4 : rk[k + 1] < rk[k] := z3
    omega
theorem Chain.ctx {u lo : Wd} {ow rk : List Nat} {fst : Nat → Nat} (h : Chain u lo ow rk fst) (okl : lo.Ok) (oku : u.Ok) : Ctx lo u (oN ow) (oN rk) := ⟨okl, oku, by unfold oN; rw [List.length_map, h.len], by unfold oN; rw [List.length_map, h.rl, h.len]⟩
theorem Chain.get {u lo : Wd} {ow rk : List Nat} {fst : Nat → Nat} (h : Chain u lo ow rk fst) {s : Nat} (hs : s ∈ stt lo) : ∃ o, ow[s]? = some o ∧ o < u.ws.length := by
  have := stt_lt hs
  rw [h.len] at this
  exact ⟨_, List.getElem?_eq_getElem this, h.own _ (List.getElem_mem this)⟩
theorem Chain.rkI {u lo : Wd} {ow rk : List Nat} {fst : Nat → Nat} (h : Chain u lo ow rk fst) {s : Nat} (hs : s < ow.length) : sAt (oN rk) s = some ((rk.getD s 0 : Nat) : Int) := by
  have : s < rk.length := by rw [h.rl]; exact hs
  rw [List.getD_eq_getElem?_getD, List.getElem?_eq_getElem this]
  exact sAt_oN (List.getElem?_eq_getElem this)
theorem Chain.comes {u lo : Wd} {ow rk : List Nat} {fst : Nat → Nat} (h : Chain u lo ow rk fst) (okl : lo.Ok) (oku : u.Ok) {s o x : Nat} (hx : x ∈ nx u o) : ∀ (d k : Nat), ow.length - k ≤ d → Rin lo (seenBy (stt lo) (oN ow) (some (o : Int))) s k → k ∈ stt lo → ow[k]? = some o → Comes lo (seenBy (stt lo) (oN ow) (some (o : Int))) (seenBy (stt lo) (oN ow) (some (x : Int))) s
  | 0, k, hd, _, hk, _ => by
    have := stt_lt hk
    rw [h.len] at this
    omega
  | d + 1, k, hd, r, hk, e => by
    have hin : k ∈ seenBy (stt lo) (oN ow) (some (o : Int)) := mem_seenBy.mpr ⟨hk, sAt_oN e⟩
    rcases h.row k o e with z | ⟨z1, z2, _⟩
    · have hx' := nx_lt oku hx
      have ht : fst x ∈ nx lo k := (z _).mpr (List.mem_map.mpr ⟨x, hx, rfl⟩)
      exact ⟨k, fst x, r, hin, ht, mem_seenBy.mpr ⟨stt_step okl hk ht, sAt_oN (h.fs x hx')⟩⟩
    · have ht : k + 1 ∈ nx lo k := (z1 _).mpr rfl
      have hl := stt_lt hk
      rw [h.len] at hl
      exact h.comes okl oku hx d (k + 1) (by omega) (.step r hin ht) (stt_step okl hk ht) z2
theorem Chain.good {u lo : Wd} {ow rk : List Nat} {fst : Nat → Nat} (h : Chain u lo ow rk fst) (okl : lo.Ok) (oku : u.Ok) : breaches lo u (oN ow) (oN rk) = [] := by
  have b1 : begB lo u (oN ow) = [] := by
    unfold begB
    rw [List.append_eq_nil_iff, List.map_eq_nil_iff, List.map_eq_nil_iff, List.filter_eq_nil_iff, List.filter_eq_nil_iff]
    constructor
    · intro s hs
      rw [h.bs] at hs
      obtain ⟨b, hb, e⟩ := List.mem_map.mp hs
      subst e
      rw [sAt_oN (h.fs b (oku.bin b hb))]
      have : (b : Int) ∈ ofN u.bs := mem_ofN.mpr ⟨b, hb, rfl⟩
      show ¬ (!decide _) = true
      rw [decide_eq_true this]
      simp
    · intro x hx
      have m : fst x ∈ seenBy lo.bs (oN ow) (some (x : Int)) := mem_seenBy.mpr ⟨by rw [h.bs]; exact List.mem_map.mpr ⟨x, hx, rfl⟩, sAt_oN (h.fs x (oku.bin x hx))⟩
      have := List.length_pos_of_mem m
      simp only [decide_eq_true_eq]
      omega
  have b2 : litB lo u (oN ow) (oN rk) (stt lo) = [] := by
    have := lit_all (lo := lo) (u := u) (sn := oN ow) (rk := oN rk) (S := stt lo)
    refine of_decide_eq_true (this.trans (List.all_eq_true.mpr fun s hs => ?_))
    obtain ⟨o, ho, hlt⟩ := h.get hs
    have hl := stt_lt hs
    rw [h.len] at hl
    rw [sAt_oN ho, h.rkI hl, litOk_split, h.ls s o ho]
    simp only [Bool.and_eq_true, decide_eq_true_eq]
    refine ⟨by omega, by omega, by omega, ?_⟩
    rw [Int.toNat_natCast]
  have b3 : wayB lo u (oN ow) (oN rk) (stt lo) = [] := by
    unfold wayB
    rw [List.flatMap_eq_nil_iff]
    intro s hs
    rw [List.map_eq_nil_iff, List.filter_eq_nil_iff]
    intro t ht
    obtain ⟨o, ho, hlt⟩ := h.get hs
    have hl := stt_lt hs
    rw [h.len] at hl
    have : wayOkB u (oN ow) (oN rk) s t = true := by
      unfold wayOkB
      rw [seenN_eq (sAt_oN ho)]
      rcases h.row s o ho with z | ⟨z1, z2, z3⟩
      · obtain ⟨x, hx, e⟩ := List.mem_map.mp ((z t).mp ht)
        subst e
        rw [sAt_oN (h.fs x (nx_lt oku hx))]
        have : (x : Int) ∈ ofN (nx u o) := mem_ofN.mpr ⟨x, hx, rfl⟩
        unfold waySeen inO
        show (decide ((x : Int) ∈ ofN (nx u o)) || _) = true
        rw [decide_eq_true this, Bool.true_or]
      · have e := (z1 t).mp ht
        subst e
        have hl1 : s + 1 < ow.length := by
          rcases Nat.lt_or_ge (s + 1) ow.length with z | z
          · exact z
          · rw [List.getElem?_eq_none z] at z2
            cases z2
        rw [sAt_oN z2]
        unfold waySeen K80.rkI
        rw [h.rkI hl, h.rkI hl1]
        have : ((rk.getD (s + 1) 0 : Nat) : Int) < ((rk.getD s 0 : Nat) : Int) := by omega
        simp only [Option.getD_some, this, decide_true, Bool.and_true, Bool.or_true]
    rw [this]
    simp
  have b4 : nxtB lo u (oN ow) (stt lo) = [] := by
    unfold nxtB
    rw [List.flatMap_eq_nil_iff]
    intro s hs
    rw [List.map_eq_nil_iff, List.filter_eq_nil_iff]
    intro x hx
    obtain ⟨o, ho, hlt⟩ := h.get hs
    rw [seenN_eq (sAt_oN ho)] at hx
    have : comesB lo (oN ow) (stt lo) s (x : Int) = true := by
      rw [comes_iff okl hs, sAt_oN ho]
      exact h.comes okl oku hx ow.length s (Nat.sub_le ..) .base hs ho
    rw [this]
    simp
  unfold breaches within
  rw [if_pos b1, if_pos b2, if_pos b3, b4]
end K80
set_option maxRecDepth 100000
set_option maxHeartbeats 1000000
namespace K80
open PySem PySem.Spec L2 TL
/-! ### _law_lower -/
theorem Kp.sub {H H1 Hx : TH} {p : Addr} (k : Kp H p H1) (s : Sub H1 Hx) : Kp H p Hx := ⟨by
  obtain ⟨ds, e⟩ := k.ds
  exact ⟨ds, s p _ e⟩, fun a o n e => s a o (k.keep a o n e)⟩
/-- the draws, and one list of a def's own -/
structure Oj (H : TH) (p q : Addr) (A : TL.TO) (Hx : TH) : Prop where
  kp : Kp H p Hx
  nq : H q = none
  qp : q ≠ p
  a : Hx q = some A
theorem Oj.dj {H : TH} {p q : Addr} {A : TL.TO} : DJ p (Oj H p q A) := ⟨fun _ h => h.kp.ds, fun Hx ds h => ⟨Kp.dj.set Hx ds h.kp, h.nq, h.qp, by rw [up_ne h.qp]; exact h.a⟩⟩
theorem Oj.set {H : TH} {p q : Addr} {A A' : TL.TO} {Hx : TH} (h : Oj H p q A Hx) : Oj H p q A' (up Hx q A') := ⟨h.kp.put h.nq h.qp, h.nq, h.qp, up_same⟩
theorem Oj.mk0 {H : TH} {p q : Addr} {A : TL.TO} {Hx : TH} (k : Kp H p Hx) (hp : ∃ o, H p = some o) (hq : Hx q = none) : Oj H p q A (up Hx q A) := by
  obtain ⟨nq, qp⟩ := k.new hp hq
  exact ⟨k.put nq qp, nq, qp, up_same⟩
def lastB (ow : List Nat) (k : Nat) : Bool := decide (k + 1 = ow.length) || decide (ow.getD (k + 1) 0 ≠ ow.getD k 0)
def cntN (ow : List Nat) (k : Nat) : Nat := ((List.range' (k + 1) (ow.length - (k + 1))).filter fun j => decide (ow.getD j 0 = ow.getD k 0)).length
def rowN (u : Wd) (fst ow : List Nat) (k : Nat) : List Nat := nset (if lastB ow k = true then (nx u (ow.getD k 0)).map fun w => fst.getD w 0 else [k + 1])
def rkN (ow : List Nat) (k : Nat) : Nat := if lastB ow k = true then 0 else cntN ow k
def lowW (u : Wd) (fst ow : List Nat) : Wd := ⟨u.bs.map fun s => fst.getD s 0, (List.range ow.length).map (rowN u fst ow), ow.map fun o => u.ls.getD o []⟩
structure FInv (k m : Nat) (fst ow : List Nat) : Prop where
  len : fst.length = k
  small : ow.length ≤ m * k
  own : ∀ o ∈ ow, o < k
  fst : ∀ s, s < k → ∃ f, fst[s]? = some f ∧ ow[f]? = some s
theorem FInv.step {k m v : Nat} {fst ow : List Nat} (h : FInv k m fst ow) (hv : v < m) : FInv (k + 1) m (fst ++ [ow.length]) (ow ++ List.replicate (1 + v) k) := by
  refine ⟨by rw [List.length_append, List.length_singleton, h.len], ?_, fun o ho => ?_, fun s hs => ?_⟩
  · rw [List.length_append, List.length_replicate, Nat.mul_succ]
    have := h.small
    omega
  · rcases List.mem_append.mp ho with z | z
    · have := h.own o z
      omega
    · rw [List.eq_of_mem_replicate z]
      exact Nat.lt_succ_self k
  · by_cases e : s = k
    · subst e
      refine ⟨ow.length, ?_, ?_⟩
      · rw [List.getElem?_append_right (by rw [h.len]; exact Nat.le_refl _), h.len, Nat.sub_self]
        rfl
      · rw [List.getElem?_append_right (Nat.le_refl _), Nat.sub_self, List.getElem?_replicate, if_pos (by omega)]
    · obtain ⟨f, h1, h2⟩ := h.fst s (by omega)
      refine ⟨f, ?_, ?_⟩
      · rw [List.getElem?_append_left]
        · exact h1
        · rw [h.len]
          omega
      · rw [List.getElem?_append_left]
        · exact h2
        · rcases Nat.lt_or_ge f ow.length with z | z
          · exact z
          · rw [List.getElem?_eq_none z] at h2
            cases h2
theorem getD_of {l : List Nat} {k o : Nat} (h : l[k]? = some o) : l.getD k 0 = o := by
  rw [List.getD_eq_getElem?_getD, h]
  rfl
theorem lt_of_get {α : Type} {l : List α} {k : Nat} {o : α} (h : l[k]? = some o) : k < l.length := by
  rcases Nat.lt_or_ge k l.length with z | z
  · exact z
  · rw [List.getElem?_eq_none z] at h
    cases h
theorem low_nx {u : Wd} {fst ow : List Nat} {k : Nat} (h : k < ow.length) : nx (lowW u fst ow) k = rowN u fst ow k := by
  unfold nx lowW
  rw [List.getD_eq_getElem?_getD, List.getElem?_map, List.getElem?_range h]
  rfl
theorem low_chain {u : Wd} {m : Nat} {fst ow : List Nat} (f : FInv u.ws.length m fst ow) : Chain u (lowW u fst ow) ow ((List.range ow.length).map (rkN ow)) (fun s => fst.getD s 0) := by
  refine ⟨by show ((List.range ow.length).map _).length = _; rw [List.length_map, List.length_range], by rw [List.length_map, List.length_range], f.own, fun s hs => ?_, rfl, fun k o e => ?_, fun k o e => ?_⟩
  · obtain ⟨a, h1, h2⟩ := f.fst s hs
    rw [getD_of h1]
    exact h2
  · have hk := lt_of_get e
    rw [low_nx hk]
    unfold rowN
    rw [getD_of e]
    cases c : lastB ow k with
    | true =>
      refine .inl fun t => ?_
      rw [if_pos rfl]
      exact mem_nset
    | false =>
      refine .inr ?_
      unfold lastB at c
      rw [Bool.or_eq_false_iff, getD_of e] at c
      have c1 : ¬ k + 1 = ow.length := of_decide_eq_false c.1
      have c2 : ow.getD (k + 1) 0 = o := Decidable.of_not_not (of_decide_eq_false c.2)
      have hk1 : k + 1 < ow.length := by omega
      have e1 : ow[k + 1]? = some o := by
        rw [List.getElem?_eq_getElem hk1]
        rw [List.getD_eq_getElem?_getD, List.getElem?_eq_getElem hk1] at c2
        exact congrArg some c2
      refine ⟨fun t => ?_, e1, ?_⟩
      · rw [if_neg Bool.false_ne_true, mem_nset, List.mem_singleton]
      · have g : ∀ j, j < ow.length → ((List.range ow.length).map (rkN ow)).getD j 0 = rkN ow j := fun j hj => getD_of (by rw [List.getElem?_map, List.getElem?_range hj]; rfl)
        rw [g k hk, g (k + 1) hk1]
        have lk : lastB ow k = false := by
          unfold lastB
          rw [getD_of e, c2]
          simp [c1]
        have ck : rkN ow k = cntN ow k := by
          unfold rkN
          rw [if_neg (by rw [lk]; exact Bool.false_ne_true)]
        have cc : cntN ow k = 1 + cntN ow (k + 1) := by
          unfold cntN
          rw [show ow.length - (k + 1) = (ow.length - (k + 1 + 1)) + 1 by omega, List.range'_succ, List.filter_cons_of_pos (by rw [c2, getD_of e]; simp), List.length_cons, c2, getD_of e]
          omega
        rw [ck, cc]
        unfold rkN
        split <;> omega
  · show (ow.map fun o => u.ls.getD o []).getD k [] = _
    rw [List.getD_eq_getElem?_getD, List.getElem?_map, e]
    rfl
theorem low_good {u : Wd} (g : u.Good) {m : Nat} (hm : m * u.ws.length ≤ 60) {fst ow : List Nat} (f : FInv u.ws.length m fst ow) : (lowW u fst ow).Good := by
  have c := low_chain f
  have hl : (lowW u fst ow).ws.length = ow.length := c.len
  have hs := f.small
  have lt : ∀ s, s < u.ws.length → fst.getD s 0 < ow.length := fun s h => lt_of_get (c.fs s h)
  refine ⟨⟨by omega, by rw [hl]; exact List.length_map .., fun s h => ?_, ?_, fun r hr t ht => ?_, fun r hr => ?_⟩, ?_, fun l h => ?_⟩
  · obtain ⟨b, hb, e⟩ := List.mem_map.mp h
    rw [hl, ← e]
    exact lt b (g.ok.bin b hb)
  · show (u.bs.map fun s => fst.getD s 0).Nodup
    unfold List.Nodup
    rw [List.pairwise_map]
    refine List.Pairwise.imp_of_mem (fun {a b} ha hb hab e => hab ?_) g.ok.bnd
    have h1 := c.fs a (g.ok.bin a ha)
    have h2 := c.fs b (g.ok.bin b hb)
    have e' : fst.getD a 0 = fst.getD b 0 := e
    simp only [e'] at h1
    rw [h2] at h1
    exact (Option.some.inj h1).symm
  · obtain ⟨k, hk, e⟩ := List.mem_map.mp hr
    subst e
    have hk' := List.mem_range.mp hk
    rw [hl]
    unfold rowN at ht
    rw [mem_nset] at ht
    split at ht
    · obtain ⟨x, hx, e⟩ := List.mem_map.mp ht
      rw [← e]
      exact lt x (nx_lt g.ok hx)
    · rename_i c1
      rw [List.mem_singleton.mp ht]
      have c2 : lastB ow k = false := by
        cases z : lastB ow k with
        | true => exact absurd z c1
        | false => rfl
      unfold lastB at c2
      rw [Bool.or_eq_false_iff] at c2
      have := of_decide_eq_false c2.1
      omega
  · obtain ⟨k, _, e⟩ := List.mem_map.mp hr
    subst e
    exact nset_nd _
  · rw [hl]
    have := lt 0 g.pos
    omega
  · obtain ⟨o, ho, e⟩ := List.mem_map.mp h
    rw [← e]
    have := f.own o ho
    have hlen : o < u.ls.length := by rw [g.ok.lw]; exact this
    rw [List.getD_eq_getElem?_getD, List.getElem?_eq_getElem hlen]
    exact g.lit _ (List.getElem_mem hlen)
end K80
set_option maxRecDepth 100000
set_option maxHeartbeats 1000000
namespace K80
open PySem PySem.Spec L2 TL
def sp_law_lower : TSp := fun ts H Q => ∃ (p : Addr) (ds : List Int) (u : Wd) (m : Nat), ts = [.ref p, encW u, nT m] ∧ H p = some (.lst (ds.map .int)) ∧ u.Good ∧ 0 < m ∧ m ≤ 60 ∧ m * u.ws.length ≤ 60 ∧
  ∀ (lo : Wd) (ow rk : List Nat) (fst : Nat → Nat) (ds' : List Int), lo.Good → Chain u lo ow rk fst → Q (.tup [encW lo, nTs ow, nTs rk]) (up H p (.lst (ds'.map .int)))
abbrev lowTail : Ss := (.cons (.set 10 (.tup (.cons (.bi .tuple (.cons (.lc true (.n 5) (.over (.v 11)) (.ix (.v 3) (.v 5)) .nop) .nil)) (.cons (.bi .tuple (.cons (.v 7) .nil)) (.cons (.bi .tuple (.cons (.lc true (.n 18) (.over (.v 4)) (.ix (.v 13) (.v 18)) .nop) .nil)) .nil))))) (.cons (.ret (.tup (.cons (.v 10) (.cons (.bi .tuple (.cons (.v 4) .nil)) (.cons (.bi .tuple (.cons (.v 8) .nil)) .nil))))) .nil))
abbrev lowD (C : Nat → TSp) (Q : TL.KT) : TEnds := { nx := wSs C lowTail (bodyEnds Q), rt := (bodyEnds Q).rt, bk := (bodyEnds Q).bk, ct := (bodyEnds Q).ct }
abbrev lowT (C : Nat → TSp) (Q : TL.KT) (l : List Nat) : TEnds := { nx := forGo (fun _ => True) (loopB C (.n 9) b__law_lower_L1) (l.map nT) (lowD C Q), rt := (bodyEnds Q).rt, bk := wSs C lowTail (bodyEnds Q), ct := forGo (fun _ => True) (loopB C (.n 9) b__law_lower_L1) (l.map nT) (lowD C Q) }
theorem mul_rep {k n : Nat} {H : TH} {Q : TL.KT} (h : n ≤ 10000) : oMul true (.lst [nT k]) (.int (n : Int)) H Q = Q (.lst ((List.replicate n k).map nT)) H := by
  have e : (List.replicate n [nT k]).flatten = (List.replicate n k).map nT := by
    rw [List.map_replicate]
    induction n with
    | zero => rfl
    | succ n ih => rw [List.replicate_succ, List.flatten_cons, ih (by omega)]; rfl
  have : (-(2 ^ 63) ≤ (n : Int) ∧ (n : Int) < 2 ^ 63 ∧ [nT k].length * (n : Int).toNat ≤ sizeLine) := ⟨by omega, by omega, sz (by simp; omega)⟩
  simp only [oMul, lstOf]
  rw [Int.toNat_natCast] at this
  simp only [this, and_self, true_and, mk_t, Int.toNat_natCast, e]
theorem ix_rn {H : TH} {p : Addr} {l : List Nat} (e : H p = some (.lst (l.map nT))) {j a : Nat} (h : l[j]? = some a) {Q : TL.KT} : oIx (.ref p) (.int (j : Int)) H Q = Q (nT a) H := ix_l e (atI_nat (by rw [List.getElem?_map, h]; rfl))
theorem w_law_lower {C : Nat → TSp} (h25 : C 25 = sp_take) (ts : List T) (H : TH) (Q : TL.KT) (h : sp_law_lower ts H Q) : wSs C b__law_lower (bodyEnds Q) (start0 n__law_lower ts) H := by
  obtain ⟨p, ds, u, m, rfl, hp, g, hm0, hm60, hm, hQ⟩ := h
  have hus := g.ok.small
  simp only [b__law_lower, start0, n__law_lower, wSs_cons, wSs_nil, wS_set, wS_unp, wS_setix, wS_aug, wS_expr, wS_ret, wS_retN, wS_ife, wS_for, wS_while, wS_pass, wS_brk, wS_cont, wE_v, wE_non, wE_bl, wE_int, wE_str, wE_neg, wE_op, wE_cmp, wE_chain, wE_and, wE_or, wE_not, wE_ite, wE_ix, wE_sl, wE_tup, wE_lst, wE_dnew, wE_call, wE_bi, wE_isi, wE_me, wE_lc0, wE_dc, wE_sset, wE_frz, wEs_nil, wEs_cons, wI_over, wI_rng1, wI_rng2, List.map_cons, List.map_nil, List.length_cons, List.length_nil, List.cons_append, List.nil_append, lk_0, lk_s, st_0, st_s, ix_0, ix_1, ix_2, Op2.o, Cm.o, BI.o, ME.o, ME.rv, is_o, eq_int, cmp_int, overT, nop_cmp, nop_chain, nop_and, nop_or, nop_not, nop_call, nop_bi, nop_ite, nop_ix, nop_v, nop_int, nop_op, nop_neg, nop_nop, wE_lc_cmp, wE_lc_chain, wE_lc_and, wE_lc_or, wE_lc_not, wE_lc_call, wE_lc_bi, wE_lc_ite, wE_lc_ix, wE_lc_v, List.replicate_succ, List.replicate_zero, Nat.reduceAdd, Nat.reduceSub, oT_s, oT_n, eq_io, eq_oi, is_i, is_n, Bool.xor_true, Bool.xor_false, Bool.false_xor, Bool.true_xor, Bool.not_true, Bool.not_false, mk_t, bodyC_n, bodyC_n1, bodyD_n, Tg.put, putAll, mk_f, len_map]
  refine ⟨sz (Nat.zero_le _), fun q hq => ⟨sz (Nat.zero_le _), ?_⟩⟩
  rw [rng_n (show u.ws.length ≤ 16777216 by omega)]
  -- the second loop
  have second : ∀ (fst ow : List Nat) (x5 : Option T) (H1 : TH), FInv u.ws.length m fst ow → Oj H p q (.lst (fst.map nT)) H1 →
      wSs C (.cons (.set 6 (.bi .len (.cons (.v 4) .nil)))
  (.cons (.set 7 (.lst false .nil))
  (.cons (.set 8 (.lst false .nil))
  (.cons (.for_ (.n 9) (.rng1 (.v 6)) b__law_lower_L1)
  (.cons (.set 10 (.tup (.cons (.bi .tuple (.cons (.lc true (.n 5) (.over (.v 11)) (.ix (.v 3) (.v 5)) .nop) .nil)) (.cons (.bi .tuple (.cons (.v 7) .nil)) (.cons (.bi .tuple (.cons (.lc true (.n 18) (.over (.v 4)) (.ix (.v 13) (.v 18)) .nop) .nil)) .nil)))))
  (.cons (.ret (.tup (.cons (.v 10) (.cons (.bi .tuple (.cons (.v 4) .nil)) (.cons (.bi .tuple (.cons (.v 8) .nil)) .nil)))))
  .nil)))))) (bodyEnds Q) [some (.ref p), some (encW u), some (nT m), some (.ref q), some (.lst (ow.map nT)), x5, none, none, none, none, none, some (nTs u.bs), some (.tup (u.ws.map nTs)), some (.tup (u.ls.map iTs)), none, none, none, none, none, none] H1 := by
    intro fst ow x5 H1 f oj
    have hn : ow.length ≤ 60 := Nat.le_trans f.small hm
    have ch := low_chain f
    have good := low_good g hm f
    simp only [wSs_cons, wSs_nil, wS_set, wS_unp, wS_setix, wS_aug, wS_expr, wS_ret, wS_retN, wS_ife, wS_for, wS_while, wS_pass, wS_brk, wS_cont, wE_v, wE_non, wE_bl, wE_int, wE_str, wE_neg, wE_op, wE_cmp, wE_chain, wE_and, wE_or, wE_not, wE_ite, wE_ix, wE_sl, wE_tup, wE_lst, wE_dnew, wE_call, wE_bi, wE_isi, wE_me, wE_lc0, wE_dc, wE_sset, wE_frz, wEs_nil, wEs_cons, wI_over, wI_rng1, wI_rng2, List.map_cons, List.map_nil, List.length_cons, List.length_nil, List.cons_append, List.nil_append, lk_0, lk_s, st_0, st_s, ix_0, ix_1, ix_2, Op2.o, Cm.o, BI.o, ME.o, ME.rv, is_o, eq_int, cmp_int, overT, nop_cmp, nop_chain, nop_and, nop_or, nop_not, nop_call, nop_bi, nop_ite, nop_ix, nop_v, nop_int, nop_op, nop_neg, nop_nop, wE_lc_cmp, wE_lc_chain, wE_lc_and, wE_lc_or, wE_lc_not, wE_lc_call, wE_lc_bi, wE_lc_ite, wE_lc_ix, wE_lc_v, List.replicate_succ, List.replicate_zero, Nat.reduceAdd, Nat.reduceSub, oT_s, oT_n, eq_io, eq_oi, is_i, is_n, Bool.xor_true, Bool.xor_false, Bool.false_xor, Bool.true_xor, Bool.not_true, Bool.not_false, mk_t, bodyC_n, bodyC_n1, bodyD_n, mk_f, len_lmap]
    refine ⟨sz (Nat.zero_le _), fun q2 hq2 => ⟨sz (Nat.zero_le _), fun q3 hq3 => ?_⟩⟩
    rw [rng_n (show ow.length ≤ 16777216 by omega)]
    have loop : ∀ (l : List Nat) (k : Nat) (x14 x15 x16 x17 x18 x19 x9 : Option T) (Hx : TH), l = List.range' k (ow.length - k) → k ≤ ow.length → Two H1 q2 q3 (.lst (((List.range k).map (rowN u fst ow)).map nTs)) (.lst (((List.range k).map (rkN ow)).map nT)) Hx →
        forGo (fun _ => True) (loopB C (.n 9) b__law_lower_L1) (l.map nT) (lowD C Q)
          [some (.ref p), some (encW u), some (nT m), some (.ref q), some (.lst (ow.map nT)), x5, some (nT ow.length), some (.ref q2), some (.ref q3), x9, none, some (nTs u.bs), some (.tup (u.ws.map nTs)), some (.tup (u.ls.map iTs)), x14, x15, x16, x17, x18, x19] Hx := by
      intro l
      induction l with
      | nil =>
        intro k x14 x15 x16 x17 x18 x19 x9 Hx e hk t
        have e0 : ow.length - k = 0 := by
          have := congrArg List.length e
          rw [List.length_range'] at this
          exact this.symm
        have ek : k = ow.length := by omega
        subst ek
        have hqx := t.sub q _ oj.a
        simp only [List.map_nil, forGo_nil, wSs_cons, wSs_nil, wS_set, wS_unp, wS_setix, wS_aug, wS_expr, wS_ret, wS_retN, wS_ife, wS_for, wS_while, wS_pass, wS_brk, wS_cont, wE_v, wE_non, wE_bl, wE_int, wE_str, wE_neg, wE_op, wE_cmp, wE_chain, wE_and, wE_or, wE_not, wE_ite, wE_ix, wE_sl, wE_tup, wE_lst, wE_dnew, wE_call, wE_bi, wE_isi, wE_me, wE_lc0, wE_dc, wE_sset, wE_frz, wEs_nil, wEs_cons, wI_over, wI_rng1, wI_rng2, List.map_cons, List.map_nil, List.length_cons, List.length_nil, List.cons_append, List.nil_append, lk_0, lk_s, st_0, st_s, ix_0, ix_1, ix_2, Op2.o, Cm.o, BI.o, ME.o, ME.rv, is_o, eq_int, cmp_int, overT, nop_cmp, nop_chain, nop_and, nop_or, nop_not, nop_call, nop_bi, nop_ite, nop_ix, nop_v, nop_int, nop_op, nop_neg, nop_nop, wE_lc_cmp, wE_lc_chain, wE_lc_and, wE_lc_or, wE_lc_not, wE_lc_call, wE_lc_bi, wE_lc_ite, wE_lc_ix, wE_lc_v, List.replicate_succ, List.replicate_zero, Nat.reduceAdd, Nat.reduceSub, oT_s, oT_n, eq_io, eq_oi, is_i, is_n, Bool.xor_true, Bool.xor_false, Bool.false_xor, Bool.true_xor, Bool.not_true, Bool.not_false, mk_t, bodyC_n, bodyC_n1, bodyD_n, true_and]
        refine lc_map (α := Nat) (enc := nT) (f := fun s => nT (fst.getD s 0)) trivial (fun s hs G gg => ?_) (sz (Nat.le_trans (bs_len g.ok) (by decide))) ?_
        · obtain ⟨a, h1, h2⟩ := f.fst s (g.ok.bin s hs)
          rw [getD_of h1] at gg
          simp only [wSs_cons, wSs_nil, wS_set, wS_unp, wS_setix, wS_aug, wS_expr, wS_ret, wS_retN, wS_ife, wS_for, wS_while, wS_pass, wS_brk, wS_cont, wE_v, wE_non, wE_bl, wE_int, wE_str, wE_neg, wE_op, wE_cmp, wE_chain, wE_and, wE_or, wE_not, wE_ite, wE_ix, wE_sl, wE_tup, wE_lst, wE_dnew, wE_call, wE_bi, wE_isi, wE_me, wE_lc0, wE_dc, wE_sset, wE_frz, wEs_nil, wEs_cons, wI_over, wI_rng1, wI_rng2, List.map_cons, List.map_nil, List.length_cons, List.length_nil, List.cons_append, List.nil_append, lk_0, lk_s, st_0, st_s, ix_0, ix_1, ix_2, Op2.o, Cm.o, BI.o, ME.o, ME.rv, is_o, eq_int, cmp_int, overT, nop_cmp, nop_chain, nop_and, nop_or, nop_not, nop_call, nop_bi, nop_ite, nop_ix, nop_v, nop_int, nop_op, nop_neg, nop_nop, wE_lc_cmp, wE_lc_chain, wE_lc_and, wE_lc_or, wE_lc_not, wE_lc_call, wE_lc_bi, wE_lc_ite, wE_lc_ix, wE_lc_v, List.replicate_succ, List.replicate_zero, Nat.reduceAdd, Nat.reduceSub, oT_s, oT_n, eq_io, eq_oi, is_i, is_n, Bool.xor_true, Bool.xor_false, Bool.false_xor, Bool.true_xor, Bool.not_true, Bool.not_false, mk_t, bodyC_n, bodyC_n1, bodyD_n, ix_rn hqx h1]
          exact gg
        simp only [wSs_cons, wSs_nil, wS_set, wS_unp, wS_setix, wS_aug, wS_expr, wS_ret, wS_retN, wS_ife, wS_for, wS_while, wS_pass, wS_brk, wS_cont, wE_v, wE_non, wE_bl, wE_int, wE_str, wE_neg, wE_op, wE_cmp, wE_chain, wE_and, wE_or, wE_not, wE_ite, wE_ix, wE_sl, wE_tup, wE_lst, wE_dnew, wE_call, wE_bi, wE_isi, wE_me, wE_lc0, wE_dc, wE_sset, wE_frz, wEs_nil, wEs_cons, wI_over, wI_rng1, wI_rng2, List.map_cons, List.map_nil, List.length_cons, List.length_nil, List.cons_append, List.nil_append, lk_0, lk_s, st_0, st_s, ix_0, ix_1, ix_2, Op2.o, Cm.o, BI.o, ME.o, ME.rv, is_o, eq_int, cmp_int, overT, nop_cmp, nop_chain, nop_and, nop_or, nop_not, nop_call, nop_bi, nop_ite, nop_ix, nop_v, nop_int, nop_op, nop_neg, nop_nop, wE_lc_cmp, wE_lc_chain, wE_lc_and, wE_lc_or, wE_lc_not, wE_lc_call, wE_lc_bi, wE_lc_ite, wE_lc_ix, wE_lc_v, List.replicate_succ, List.replicate_zero, Nat.reduceAdd, Nat.reduceSub, oT_s, oT_n, eq_io, eq_oi, is_i, is_n, Bool.xor_true, Bool.xor_false, Bool.false_xor, Bool.true_xor, Bool.not_true, Bool.not_false, mk_t, bodyC_n, bodyC_n1, bodyD_n, cTuple, seqOf, t.p]
        refine lc_map (α := Nat) (enc := nT) (f := fun o => iTs (u.ls.getD o [])) trivial (fun o ho G gg => ?_) (sz (by omega)) ?_
        · have := f.own o ho
          have hlen : o < u.ls.length := by rw [g.ok.lw]; exact this
          rw [List.getD_eq_getElem?_getD, List.getElem?_eq_getElem hlen] at gg
          simp only [wSs_cons, wSs_nil, wS_set, wS_unp, wS_setix, wS_aug, wS_expr, wS_ret, wS_retN, wS_ife, wS_for, wS_while, wS_pass, wS_brk, wS_cont, wE_v, wE_non, wE_bl, wE_int, wE_str, wE_neg, wE_op, wE_cmp, wE_chain, wE_and, wE_or, wE_not, wE_ite, wE_ix, wE_sl, wE_tup, wE_lst, wE_dnew, wE_call, wE_bi, wE_isi, wE_me, wE_lc0, wE_dc, wE_sset, wE_frz, wEs_nil, wEs_cons, wI_over, wI_rng1, wI_rng2, List.map_cons, List.map_nil, List.length_cons, List.length_nil, List.cons_append, List.nil_append, lk_0, lk_s, st_0, st_s, ix_0, ix_1, ix_2, Op2.o, Cm.o, BI.o, ME.o, ME.rv, is_o, eq_int, cmp_int, overT, nop_cmp, nop_chain, nop_and, nop_or, nop_not, nop_call, nop_bi, nop_ite, nop_ix, nop_v, nop_int, nop_op, nop_neg, nop_nop, wE_lc_cmp, wE_lc_chain, wE_lc_and, wE_lc_or, wE_lc_not, wE_lc_call, wE_lc_bi, wE_lc_ite, wE_lc_ix, wE_lc_v, List.replicate_succ, List.replicate_zero, Nat.reduceAdd, Nat.reduceSub, oT_s, oT_n, eq_io, eq_oi, is_i, is_n, Bool.xor_true, Bool.xor_false, Bool.false_xor, Bool.true_xor, Bool.not_true, Bool.not_false, mk_t, bodyC_n, bodyC_n1, bodyD_n, ix_at (List.getElem?_eq_getElem hlen)]
          exact gg
        simp only [wSs_cons, wSs_nil, wS_set, wS_unp, wS_setix, wS_aug, wS_expr, wS_ret, wS_retN, wS_ife, wS_for, wS_while, wS_pass, wS_brk, wS_cont, wE_v, wE_non, wE_bl, wE_int, wE_str, wE_neg, wE_op, wE_cmp, wE_chain, wE_and, wE_or, wE_not, wE_ite, wE_ix, wE_sl, wE_tup, wE_lst, wE_dnew, wE_call, wE_bi, wE_isi, wE_me, wE_lc0, wE_dc, wE_sset, wE_frz, wEs_nil, wEs_cons, wI_over, wI_rng1, wI_rng2, List.map_cons, List.map_nil, List.length_cons, List.length_nil, List.cons_append, List.nil_append, lk_0, lk_s, st_0, st_s, ix_0, ix_1, ix_2, Op2.o, Cm.o, BI.o, ME.o, ME.rv, is_o, eq_int, cmp_int, overT, nop_cmp, nop_chain, nop_and, nop_or, nop_not, nop_call, nop_bi, nop_ite, nop_ix, nop_v, nop_int, nop_op, nop_neg, nop_nop, wE_lc_cmp, wE_lc_chain, wE_lc_and, wE_lc_or, wE_lc_not, wE_lc_call, wE_lc_bi, wE_lc_ite, wE_lc_ix, wE_lc_v, List.replicate_succ, List.replicate_zero, Nat.reduceAdd, Nat.reduceSub, oT_s, oT_n, eq_io, eq_oi, is_i, is_n, Bool.xor_true, Bool.xor_false, Bool.false_xor, Bool.true_xor, Bool.not_true, Bool.not_false, mk_t, bodyC_n, bodyC_n1, bodyD_n, t.q]
        refine ⟨sz (by simp), sz (by simp), ?_⟩
        have := fun ds' => hQ (lowW u fst ow) ow _ _ ds' good ch
        have e1 : encW (lowW u fst ow) = .tup [.tup (u.bs.map fun s => nT (fst.getD s 0)), .tup (((List.range ow.length).map (rowN u fst ow)).map nTs), .tup (ow.map fun o => iTs (u.ls.getD o []))] := by
          simp only [encW, lowW, nTs, List.map_map]
          rfl
        rw [e1] at this
        exact rtd (Kp.sub oj.kp t.sub) this
      | cons i l ih =>
        intro k x14 x15 x16 x17 x18 x19 x9 Hx e hk t
        have hlt : k < ow.length := by
          have := congrArg List.length e
          rw [List.length_range', List.length_cons] at this
          omega
        have e2 : ow.length - k = (ow.length - (k + 1)) + 1 := by omega
        rw [e2, List.range'_succ] at e
        injection e with e3 e4
        subst e3
        have hqx := t.sub q _ oj.a
        obtain ⟨o, ho⟩ : ∃ o, ow[i]? = some o := ⟨_, List.getElem?_eq_getElem hlt⟩
        have hou := f.own o (List.mem_of_getElem? ho)
        have fin : ∀ (x14 x15 x16 x17 x18 x19 : Option T), Two H1 q2 q3 (.lst (((List.range i).map (rowN u fst ow)).map nTs ++ [nTs (rowN u fst ow i)])) (.lst (((List.range i).map (rkN ow)).map nT ++ [nT (rkN ow i)])) (up (up Hx q2 (.lst (((List.range i).map (rowN u fst ow)).map nTs ++ [nTs (rowN u fst ow i)]))) q3 (.lst (((List.range i).map (rkN ow)).map nT ++ [nT (rkN ow i)]))) →
            forGo (fun _ => True) (loopB C (.n 9) b__law_lower_L1) (l.map nT) (lowD C Q)
              [some (.ref p), some (encW u), some (nT m), some (.ref q), some (.lst (ow.map nT)), x5, some (nT ow.length), some (.ref q2), some (.ref q3), some (nT i), none, some (nTs u.bs), some (.tup (u.ws.map nTs)), some (.tup (u.ls.map iTs)), x14, x15, x16, x17, x18, x19]
              (up (up Hx q2 (.lst (((List.range i).map (rowN u fst ow)).map nTs ++ [nTs (rowN u fst ow i)]))) q3 (.lst (((List.range i).map (rkN ow)).map nT ++ [nT (rkN ow i)]))) := by
          intro x14 x15 x16 x17 x18 x19 t2
          refine ih (i + 1) _ _ _ _ _ _ _ _ e4 (by omega) ?_
          rw [List.range_succ, List.map_append, List.map_append, List.map_append, List.map_append]
          exact t2
        have row : ∀ (b : Bool) (x17 x18 x19 : Option T) (rowL : List Nat) (rkv : Nat), rowL.length < 64 → nset rowL = rowN u fst ow i → rkv = rkN ow i →
            wSs C (.cons (.expr (.me .append (.v 7) (.cons (.bi .tuple (.cons (.sset true (.v 15)) .nil)) .nil))) (.cons (.expr (.me .append (.v 8) (.cons (.v 16) .nil))) .nil)) (lowT C Q l)
              [some (.ref p), some (encW u), some (nT m), some (.ref q), some (.lst (ow.map nT)), x5, some (nT ow.length), some (.ref q2), some (.ref q3), some (nT i), none, some (nTs u.bs), some (.tup (u.ws.map nTs)), some (.tup (u.ls.map iTs)), some (.bl b), some (.lst (rowL.map nT)), some (nT rkv), x17, x18, x19] Hx := by
          intro b x17 x18 x19 rowL rkv h64 er ek
          simp only [wSs_cons, wSs_nil, wS_set, wS_unp, wS_setix, wS_aug, wS_expr, wS_ret, wS_retN, wS_ife, wS_for, wS_while, wS_pass, wS_brk, wS_cont, wE_v, wE_non, wE_bl, wE_int, wE_str, wE_neg, wE_op, wE_cmp, wE_chain, wE_and, wE_or, wE_not, wE_ite, wE_ix, wE_sl, wE_tup, wE_lst, wE_dnew, wE_call, wE_bi, wE_isi, wE_me, wE_lc0, wE_dc, wE_sset, wE_frz, wEs_nil, wEs_cons, wI_over, wI_rng1, wI_rng2, List.map_cons, List.map_nil, List.length_cons, List.length_nil, List.cons_append, List.nil_append, lk_0, lk_s, st_0, st_s, ix_0, ix_1, ix_2, Op2.o, Cm.o, BI.o, ME.o, ME.rv, is_o, eq_int, cmp_int, overT, nop_cmp, nop_chain, nop_and, nop_or, nop_not, nop_call, nop_bi, nop_ite, nop_ix, nop_v, nop_int, nop_op, nop_neg, nop_nop, wE_lc_cmp, wE_lc_chain, wE_lc_and, wE_lc_or, wE_lc_not, wE_lc_call, wE_lc_bi, wE_lc_ite, wE_lc_ix, wE_lc_v, List.replicate_succ, List.replicate_zero, Nat.reduceAdd, Nat.reduceSub, oT_s, oT_n, eq_io, eq_oi, is_i, is_n, Bool.xor_true, Bool.xor_false, Bool.false_xor, Bool.true_xor, Bool.not_true, Bool.not_false, mk_t, bodyC_n, bodyC_n1, bodyD_n, sset_n, cTuple, seqOf]
          refine ⟨recv_l t.p, h64, ?_⟩
          rw [append_l t.p]
          refine ⟨sz' (by rw [List.length_map, List.length_map, List.length_range]; omega), ?_⟩
          rw [er]
          have t2 := t.setp (A' := .lst (((List.range i).map (rowN u fst ow)).map nTs ++ [nTs (rowN u fst ow i)]))
          refine ⟨recv_l t2.q, ?_⟩
          rw [append_l t2.q]
          refine ⟨sz' (by rw [List.length_map, List.length_map, List.length_range]; omega), ?_⟩
          rw [ek]
          have t3 := t2.setq (B' := .lst (((List.range i).map (rkN ow)).map nT ++ [nT (rkN ow i)]))
          exact fin _ _ _ _ _ _ t3
        have add1 : ((i : Int) + 1) = ((i + 1 : Nat) : Int) := by omega
        have doLast : lastB ow i = true → ∀ x17 x18 x19, wSs C (.cons (.set 15 (.lc true (.n 17) (.over (.ix (.v 12) (.ix (.v 4) (.v 9)))) (.ix (.v 3) (.v 17)) .nop)) .nil) { nx := wSs C (.cons (.expr (.me .append (.v 7) (.cons (.bi .tuple (.cons (.sset true (.v 15)) .nil)) .nil))) (.cons (.expr (.me .append (.v 8) (.cons (.v 16) .nil))) .nil)) (lowT C Q l), rt := (bodyEnds Q).rt, bk := wSs C lowTail (bodyEnds Q), ct := forGo (fun _ => True) (loopB C (.n 9) b__law_lower_L1) (l.map nT) (lowD C Q) }
              [some (.ref p), some (encW u), some (nT m), some (.ref q), some (.lst (ow.map nT)), x5, some (nT ow.length), some (.ref q2), some (.ref q3), some (nT i), none, some (nTs u.bs), some (.tup (u.ws.map nTs)), some (.tup (u.ls.map iTs)), some (.bl true), some (.lst [nT (i + 1)]), some (nT 0), x17, x18, x19] Hx := by
          intro hlast x17 x18 x19
          rw [wSs_cons, wS_set, wE_lc0, wI_over]
          simp only [wE_ix, wE_v, lk_0, lk_s, ix_latn ho, ix_at (nx_some hou), overT]
          refine lc_map (α := Nat) (enc := nT) (f := fun w => nT (fst.getD w 0)) trivial (fun w hw G gg => ?_) (sz (Nat.le_trans (nx_len g.ok o) (by decide))) ?_
          · obtain ⟨a, h1, h2⟩ := f.fst w (nx_lt g.ok hw)
            rw [getD_of h1] at gg
            simp only [wSs_cons, wSs_nil, wS_set, wS_unp, wS_setix, wS_aug, wS_expr, wS_ret, wS_retN, wS_ife, wS_for, wS_while, wS_pass, wS_brk, wS_cont, wE_v, wE_non, wE_bl, wE_int, wE_str, wE_neg, wE_op, wE_cmp, wE_chain, wE_and, wE_or, wE_not, wE_ite, wE_ix, wE_sl, wE_tup, wE_lst, wE_dnew, wE_call, wE_bi, wE_isi, wE_me, wE_lc0, wE_dc, wE_sset, wE_frz, wEs_nil, wEs_cons, wI_over, wI_rng1, wI_rng2, List.map_cons, List.map_nil, List.length_cons, List.length_nil, List.cons_append, List.nil_append, lk_0, lk_s, st_0, st_s, ix_0, ix_1, ix_2, Op2.o, Cm.o, BI.o, ME.o, ME.rv, is_o, eq_int, cmp_int, overT, nop_cmp, nop_chain, nop_and, nop_or, nop_not, nop_call, nop_bi, nop_ite, nop_ix, nop_v, nop_int, nop_op, nop_neg, nop_nop, wE_lc_cmp, wE_lc_chain, wE_lc_and, wE_lc_or, wE_lc_not, wE_lc_call, wE_lc_bi, wE_lc_ite, wE_lc_ix, wE_lc_v, List.replicate_succ, List.replicate_zero, Nat.reduceAdd, Nat.reduceSub, oT_s, oT_n, eq_io, eq_oi, is_i, is_n, Bool.xor_true, Bool.xor_false, Bool.false_xor, Bool.true_xor, Bool.not_true, Bool.not_false, mk_t, bodyC_n, bodyC_n1, bodyD_n, ix_rn hqx h1]
            exact gg
          · have e5 : (nx u o).map (fun w => nT (fst.getD w 0)) = ((nx u o).map fun w => fst.getD w 0).map nT := by
              rw [List.map_map]
              rfl
            rw [e5, mk_t]
            simp only [wSs_nil, st_0, st_s]
            refine row true x17 x18 x19 _ 0 (by rw [List.length_map]; have := nx_len g.ok o; omega) ?_ ?_
            · unfold rowN
              rw [if_pos hlast, getD_of ho]
            · unfold rkN
              rw [if_pos hlast]
        simp only [List.map_cons, forGo_cons, loopB_n, true_and]
        rw [b__law_lower_L1]
        rw [wSs_cons, wS_set, wE_or]
        simp only [wE_cmp, Cm.o, wE_op, Op2.o, wE_v, wE_int, wE_ix, lk_0, lk_s, st_0, st_s, add_ii, add1, eq_int, Bool.false_xor]
        by_cases c1 : i + 1 = ow.length
        · have c1' : ((i + 1 : Nat) : Int) = (ow.length : Int) := by omega
          have hlast : lastB ow i = true := by
            unfold lastB
            rw [decide_eq_true c1, Bool.true_or]
          simp only [c1', decide_true]
          rw [wSs_cons, wS_set, wE_lst]
          simp only [wEs_cons, wEs_nil, wE_op, Op2.o, wE_v, wE_int, lk_0, lk_s, st_0, st_s, add_ii, add1, mk_t, wSs_cons, wS_set, wS_ife]
          refine ⟨sz (by simp), ?_⟩
          exact doLast hlast _ _ _
        · have c1' : ¬ ((i + 1 : Nat) : Int) = (ow.length : Int) := by omega
          have hi1 : i + 1 < ow.length := by omega
          obtain ⟨o1, ho1⟩ : ∃ o1, ow[i + 1]? = some o1 := ⟨_, List.getElem?_eq_getElem hi1⟩
          simp only [c1', decide_false, ix_latn ho1, ix_latn ho, eq_int]
          by_cases c2 : o1 = o
          · have c2' : (o1 : Int) = (o : Int) := by omega
            have hlast : lastB ow i = false := by
              unfold lastB
              rw [getD_of ho, getD_of ho1, c2]
              simp [c1]
            simp only [c2', decide_true, Bool.xor_true, Bool.not_true]
            rw [wSs_cons, wS_set, wE_lst]
            simp only [wEs_cons, wEs_nil, wE_op, Op2.o, wE_v, wE_int, lk_0, lk_s, st_0, st_s, add_ii, add1, mk_t, wSs_cons, wS_set, wS_ife, wE_bi, BI.o, wE_lc_cmp, wI_rng2]
            refine ⟨sz (by simp), ?_⟩
            rw [rng_mn (by omega) (by omega)]
            refine lc_filter (α := Nat) (enc := nT) (f := nT) (p := fun j => decide (ow.getD j 0 = ow.getD i 0)) trivial (fun j hj G gg => ?_) (sz (by rw [List.length_range']; omega)) ?_
            · obtain ⟨_, hj2⟩ := List.mem_range'_1.mp hj
              have hj3 : j < ow.length := by omega
              obtain ⟨oj', hoj⟩ : ∃ o1, ow[j]? = some o1 := ⟨_, List.getElem?_eq_getElem hj3⟩
              rw [getD_of hoj, getD_of ho] at gg
              simp only [wSs_cons, wSs_nil, wS_set, wS_unp, wS_setix, wS_aug, wS_expr, wS_ret, wS_retN, wS_ife, wS_for, wS_while, wS_pass, wS_brk, wS_cont, wE_v, wE_non, wE_bl, wE_int, wE_str, wE_neg, wE_op, wE_cmp, wE_chain, wE_and, wE_or, wE_not, wE_ite, wE_ix, wE_sl, wE_tup, wE_lst, wE_dnew, wE_call, wE_bi, wE_isi, wE_me, wE_lc0, wE_dc, wE_sset, wE_frz, wEs_nil, wEs_cons, wI_over, wI_rng1, wI_rng2, List.map_cons, List.map_nil, List.length_cons, List.length_nil, List.cons_append, List.nil_append, lk_0, lk_s, st_0, st_s, ix_0, ix_1, ix_2, Op2.o, Cm.o, BI.o, ME.o, ME.rv, is_o, eq_int, cmp_int, overT, nop_cmp, nop_chain, nop_and, nop_or, nop_not, nop_call, nop_bi, nop_ite, nop_ix, nop_v, nop_int, nop_op, nop_neg, nop_nop, wE_lc_cmp, wE_lc_chain, wE_lc_and, wE_lc_or, wE_lc_not, wE_lc_call, wE_lc_bi, wE_lc_ite, wE_lc_ix, wE_lc_v, List.replicate_succ, List.replicate_zero, Nat.reduceAdd, Nat.reduceSub, oT_s, oT_n, eq_io, eq_oi, is_i, is_n, Bool.xor_true, Bool.xor_false, Bool.false_xor, Bool.true_xor, Bool.not_true, Bool.not_false, mk_t, bodyC_n, bodyC_n1, bodyD_n, ix_latn hoj, ix_latn ho]
              by_cases z : oj' = o
              · have z' : (oj' : Int) = (o : Int) := by omega
                simp only [z', decide_true]
                simpa only [z, decide_true, if_true] using gg
              · have z' : ¬ (oj' : Int) = (o : Int) := by omega
                simp only [z', decide_false]
                simpa only [z, decide_false, if_false, Bool.false_eq_true] using gg
            · simp only [mk_t, len_lmap, wSs_nil, st_0, st_s]
              refine row false _ _ _ [i + 1] _ (by simp) ?_ ?_
              · unfold rowN
                rw [if_neg (by rw [hlast]; exact Bool.false_ne_true)]
              · unfold rkN cntN
                rw [if_neg (by rw [hlast]; exact Bool.false_ne_true)]
          · have c2' : ¬ (o1 : Int) = (o : Int) := by omega
            have hlast : lastB ow i = true := by
              unfold lastB
              rw [getD_of ho, getD_of ho1]
              simp [c2]
            simp only [c2', decide_false, Bool.xor_false, Bool.true_xor, Bool.not_false]
            rw [wSs_cons, wS_set, wE_lst]
            simp only [wEs_cons, wEs_nil, wE_op, Op2.o, wE_v, wE_int, lk_0, lk_s, st_0, st_s, add_ii, add1, mk_t, wSs_cons, wS_set, wS_ife]
            refine ⟨sz (by simp), ?_⟩
            exact doLast hlast _ _ _
    exact loop (List.range ow.length) 0 none none none none none none none _ (by rw [List.range_eq_range', Nat.sub_zero]) (Nat.zero_le _) (Two.mk0 hq2 hq3)
  have first : ∀ (l fst ow : List Nat) (k : Nat) (x5 : Option T) (Hx : TH), l = List.range' k (u.ws.length - k) → k ≤ u.ws.length → FInv k m fst ow → Oj H p q (.lst (fst.map nT)) Hx →
      forGo (fun _ => True) (loopB C (.n 5) b__law_lower_L2) (l.map nT) { nx := wSs C (.cons (.set 6 (.bi .len (.cons (.v 4) .nil)))
  (.cons (.set 7 (.lst false .nil))
  (.cons (.set 8 (.lst false .nil))
  (.cons (.for_ (.n 9) (.rng1 (.v 6)) b__law_lower_L1)
  (.cons (.set 10 (.tup (.cons (.bi .tuple (.cons (.lc true (.n 5) (.over (.v 11)) (.ix (.v 3) (.v 5)) .nop) .nil)) (.cons (.bi .tuple (.cons (.v 7) .nil)) (.cons (.bi .tuple (.cons (.lc true (.n 18) (.over (.v 4)) (.ix (.v 13) (.v 18)) .nop) .nil)) .nil)))))
  (.cons (.ret (.tup (.cons (.v 10) (.cons (.bi .tuple (.cons (.v 4) .nil)) (.cons (.bi .tuple (.cons (.v 8) .nil)) .nil))))) .nil)))))) (bodyEnds Q), rt := (bodyEnds Q).rt, bk := (bodyEnds Q).bk, ct := (bodyEnds Q).ct }
        [some (.ref p), some (encW u), some (nT m), some (.ref q), some (.lst (ow.map nT)), x5, none, none, none, none, none, some (nTs u.bs), some (.tup (u.ws.map nTs)), some (.tup (u.ls.map iTs)), none, none, none, none, none, none] Hx := by
    intro l
    induction l with
    | nil =>
      intro fst ow k x5 Hx e hk f oj
      have e0 : u.ws.length - k = 0 := by
        have := congrArg List.length e
        rw [List.length_range'] at this
        exact this.symm
      have ek : k = u.ws.length := by omega
      subst ek
      simp only [List.map_nil, forGo_nil, true_and]
      exact second fst ow x5 Hx f oj
    | cons i l ih =>
      intro fst ow k x5 Hx e hk f oj
      have hlt : k < u.ws.length := by
        have := congrArg List.length e
        rw [List.length_range', List.length_cons] at this
        omega
      have e2 : u.ws.length - k = (u.ws.length - (k + 1)) + 1 := by omega
      rw [e2, List.range'_succ] at e
      injection e with e3 e4
      subst e3
      have hsm : ow.length ≤ 3600 := Nat.le_trans f.small (Nat.le_trans (Nat.mul_le_mul hm60 (Nat.le_trans (Nat.le_of_lt hlt) hus)) (by decide))
      simp only [List.map_cons, forGo_cons, loopB_n, b__law_lower_L2, wSs_cons, wSs_nil, wS_set, wS_unp, wS_setix, wS_aug, wS_expr, wS_ret, wS_retN, wS_ife, wS_for, wS_while, wS_pass, wS_brk, wS_cont, wE_v, wE_non, wE_bl, wE_int, wE_str, wE_neg, wE_op, wE_cmp, wE_chain, wE_and, wE_or, wE_not, wE_ite, wE_ix, wE_sl, wE_tup, wE_lst, wE_dnew, wE_call, wE_bi, wE_isi, wE_me, wE_lc0, wE_dc, wE_sset, wE_frz, wEs_nil, wEs_cons, wI_over, wI_rng1, wI_rng2, List.map_cons, List.map_nil, List.length_cons, List.length_nil, List.cons_append, List.nil_append, lk_0, lk_s, st_0, st_s, ix_0, ix_1, ix_2, Op2.o, Cm.o, BI.o, ME.o, ME.rv, is_o, eq_int, cmp_int, overT, nop_cmp, nop_chain, nop_and, nop_or, nop_not, nop_call, nop_bi, nop_ite, nop_ix, nop_v, nop_int, nop_op, nop_neg, nop_nop, wE_lc_cmp, wE_lc_chain, wE_lc_and, wE_lc_or, wE_lc_not, wE_lc_call, wE_lc_bi, wE_lc_ite, wE_lc_ix, wE_lc_v, List.replicate_succ, List.replicate_zero, Nat.reduceAdd, Nat.reduceSub, oT_s, oT_n, eq_io, eq_oi, is_i, is_n, Bool.xor_true, Bool.xor_false, Bool.false_xor, Bool.true_xor, Bool.not_true, Bool.not_false, mk_t, bodyC_n, bodyC_n1, bodyD_n, true_and, len_lmap, h25, mk_t]
      refine ⟨recv_l oj.a, ?_⟩
      rw [append_l oj.a]
      refine ⟨sz' (by rw [List.length_map, f.len]; omega), sz (by simp), ?_⟩
      have o2 := oj.set (A' := .lst ((fst ++ [ow.length]).map nT))
      rw [List.map_append] at o2
      refine take_j Oj.dj o2 hm0 fun v Hy hv jy => ?_
      simp only [add_ii, one_add]
      rw [mul_rep (by omega)]
      simp only [add_ll, wSs_cons, wSs_nil, wS_set, wS_unp, wS_setix, wS_aug, wS_expr, wS_ret, wS_retN, wS_ife, wS_for, wS_while, wS_pass, wS_brk, wS_cont, wE_v, wE_non, wE_bl, wE_int, wE_str, wE_neg, wE_op, wE_cmp, wE_chain, wE_and, wE_or, wE_not, wE_ite, wE_ix, wE_sl, wE_tup, wE_lst, wE_dnew, wE_call, wE_bi, wE_isi, wE_me, wE_lc0, wE_dc, wE_sset, wE_frz, wEs_nil, wEs_cons, wI_over, wI_rng1, wI_rng2, List.map_cons, List.map_nil, List.length_cons, List.length_nil, List.cons_append, List.nil_append, lk_0, lk_s, st_0, st_s, ix_0, ix_1, ix_2, Op2.o, Cm.o, BI.o, ME.o, ME.rv, is_o, eq_int, cmp_int, overT, nop_cmp, nop_chain, nop_and, nop_or, nop_not, nop_call, nop_bi, nop_ite, nop_ix, nop_v, nop_int, nop_op, nop_neg, nop_nop, wE_lc_cmp, wE_lc_chain, wE_lc_and, wE_lc_or, wE_lc_not, wE_lc_call, wE_lc_bi, wE_lc_ite, wE_lc_ix, wE_lc_v, List.replicate_succ, List.replicate_zero, Nat.reduceAdd, Nat.reduceSub, oT_s, oT_n, eq_io, eq_oi, is_i, is_n, Bool.xor_true, Bool.xor_false, Bool.false_xor, Bool.true_xor, Bool.not_true, Bool.not_false, mk_t, bodyC_n, bodyC_n1, bodyD_n]
      refine ⟨sz (by rw [List.length_map, List.length_map, List.length_replicate]; omega), ?_⟩
      rw [← List.map_append]
      exact ih (fst ++ [ow.length]) (ow ++ List.replicate (1 + v) i) (i + 1) _ Hy e4 (by omega) (f.step hv) (by rw [List.map_append]; exact jy)
  exact first (List.range u.ws.length) [] [] 0 none _ (by rw [List.range_eq_range', Nat.sub_zero]) (Nat.zero_le _) ⟨rfl, by simp, fun o ho => (nomatch ho), fun s hs => absurd hs (Nat.not_lt_zero s)⟩ (Oj.mk0 (Kp.mk0 hp) ⟨_, hp⟩ hq)
end K80
set_option maxRecDepth 100000
set_option maxHeartbeats 1000000
namespace K80
open PySem PySem.Spec L2 TL
/-! ### _law_altered -/
theorem cut_take {xs : List T} {n : Nat} (h : n ≤ xs.length) : cutT xs none (some (n : Int)) = xs.take n := by
  unfold cutT HT.sIx
  simp [show ¬ (n : Int) < 0 by omega, Nat.min_eq_left h]
theorem cut_drop {xs : List T} {n : Nat} (h : n ≤ xs.length) : cutT xs (some (n : Int)) none = xs.drop n := by
  unfold cutT HT.sIx
  simp [show ¬ (n : Int) < 0 by omega, Nat.min_eq_left h]
  rw [List.take_of_length_le (by simp)]
theorem cut_set {α : Type} {f : α → T} {l : List α} {n : Nat} {a : α} (h : n < l.length) : (cutT (l.map f) none (some (n : Int)) ++ [f a]) ++ cutT (l.map f) (some ((n + 1 : Nat) : Int)) none = (l.set n a).map f := by
  rw [cut_take (by rw [List.length_map]; omega), cut_drop (by rw [List.length_map]; omega), List.set_eq_take_append_cons_drop, if_pos h, List.map_append, List.map_cons, List.map_take, List.map_drop, List.append_assoc]
  rfl
theorem cut_len {xs : List T} {lo hi : Option Int} : (cutT xs lo hi).length ≤ xs.length := by
  unfold cutT
  rw [List.length_take, List.length_drop]
  omega
theorem Wd.Good.setbs {w : Wd} (g : w.Good) {b : List Nat} (h : ∀ x ∈ b, x < w.ws.length) (n : b.Nodup) : (Wd.mk b w.ws w.ls).Good := ⟨⟨g.ok.small, g.ok.lw, h, n, g.ok.win, g.ok.wnd⟩, g.pos, g.lit⟩
theorem Wd.Good.setws {w : Wd} (g : w.Good) {k : Nat} {row : List Nat} (h : ∀ x ∈ row, x < w.ws.length) (n : row.Nodup) : (Wd.mk w.bs (w.ws.set k row) w.ls).Good := by
  have hl : (w.ws.set k row).length = w.ws.length := List.length_set ..
  refine ⟨⟨by show (w.ws.set k row).length ≤ 60; rw [hl]; exact g.ok.small, by show w.ls.length = (w.ws.set k row).length; rw [hl]; exact g.ok.lw, fun x hx => by show x < (w.ws.set k row).length; rw [hl]; exact g.ok.bin x hx, g.ok.bnd, fun r hr t ht => ?_, fun r hr => ?_⟩, by show 0 < (w.ws.set k row).length; rw [hl]; exact g.pos, g.lit⟩
  · show t < (w.ws.set k row).length
    rw [hl]
    rcases List.mem_or_eq_of_mem_set hr with z | z
    · exact g.ok.win r z t ht
    · exact h t (z ▸ ht)
  · rcases List.mem_or_eq_of_mem_set hr with z | z
    · exact g.ok.wnd r z
    · exact z ▸ n
theorem Wd.Good.setls {w : Wd} (g : w.Good) {k : Nat} {row : List Int} (h : row.length ≤ 1000) : (Wd.mk w.bs w.ws (w.ls.set k row)).Good := by
  refine ⟨⟨g.ok.small, by show (w.ls.set k row).length = _; rw [List.length_set]; exact g.ok.lw, g.ok.bin, g.ok.bnd, g.ok.win, g.ok.wnd⟩, g.pos, fun r hr => ?_⟩
  rcases List.mem_or_eq_of_mem_set hr with z | z
  · exact g.lit r z
  · exact z ▸ h
theorem wE_slv {C : Nat → TSp} {fz : Bool} {a : E} {i : Nat} {σ : TSt} {H : TH} {Q : TL.KT} : wE C (.sl fz a .nop (.v i)) σ H Q = wE C a σ H fun x H1 => wE C (.v i) σ H1 fun t H2 => asInt t H2 fun u H3 => oSl fz x none u H3 Q := rfl
theorem wE_slo {C : Nat → TSp} {fz : Bool} {a x y : E} {o : Op2} {σ : TSt} {H : TH} {Q : TL.KT} : wE C (.sl fz a (.op o x y) .nop) σ H Q = wE C a σ H fun z H1 => wE C (.op o x y) σ H1 fun t H2 => asInt t H2 fun u H3 => oSl fz z u none H3 Q := rfl
theorem asInt_i {i : Int} {H : TH} {Q : Option Int → TH → Prop} : asInt (.int i) H Q = Q (some i) H := rfl
theorem sl_t {xs : List T} {lo hi : Option Int} {b : Bool} {H : TH} {Q : TL.KT} : oSl b (.tup xs) lo hi H Q = Q (.tup (cutT xs lo hi)) H := rfl
theorem add_tt {xs ys : List T} {b : Bool} {H : TH} {Q : TL.KT} : oAdd b (.tup xs) (.tup ys) H Q = (xs.length + ys.length ≤ sizeLine ∧ Q (.tup (xs ++ ys)) H) := rfl
theorem sset_t {l : List Nat} {H : TH} {Q : TL.KT} : ssetT true (.tup (l.map nT)) H Q = (l.length < 64 ∧ Q (.lst ((nset l).map nT)) H) := by
  have hi : asInts (l.map nT) = some (ofN l) := by
    rw [← ints_ofN]
    exact asInts_map _
  have hl : (ofN l).length = l.length := List.length_map ..
  simp only [ssetT, seqOf, hi, hl, mk_t, nset_T]
def sp_law_altered : TSp := fun ts H Q => ∃ (p : Addr) (ds : List Int) (lo u : Wd) (sn rk : List (Option Int)), ts = [.ref p, encW u, encW lo, oTs sn, oTs rk] ∧ H p = some (.lst (ds.map .int)) ∧ u.Good ∧ lo.Good ∧ Ctx lo u sn rk ∧
  ∀ (lo' u' : Wd) (sn' rk' : List (Option Int)) (ds' : List Int), u'.Good → lo'.Good → Ctx lo' u' sn' rk' → Q (.tup [encW u', encW lo', oTs sn', oTs rk']) (up H p (.lst (ds'.map .int)))
theorem w_law_altered {C : Nat → TSp} (h25 : C 25 = sp_take) (ts : List T) (H : TH) (Q : TL.KT) (h : sp_law_altered ts H Q) : wSs C b__law_altered (bodyEnds Q) (start0 n__law_altered ts) H := by
  obtain ⟨p, ds, lo, u, sn, rk, rfl, hp, gu, gl, c, hQ⟩ := h
  have hus := gu.ok.small
  have hls := gl.ok.small
  have hup := gu.pos
  have hlp := gl.pos
  have hsn := c.sn
  have hrk := c.rk
  have hll := gl.ok.lw
  have k0 : Kp H p H := Kp.mk0 hp
  simp only [b__law_altered, start0, n__law_altered, wSs_cons, wSs_nil, wS_set, wS_unp, wS_setix, wS_aug, wS_expr, wS_ret, wS_retN, wS_ife, wS_for, wS_while, wS_pass, wS_brk, wS_cont, wE_v, wE_non, wE_bl, wE_int, wE_str, wE_neg, wE_op, wE_cmp, wE_chain, wE_and, wE_or, wE_not, wE_ite, wE_ix, wE_tup, wE_lst, wE_dnew, wE_call, wE_bi, wE_isi, wE_me, wE_lc0, wE_dc, wE_sset, wE_frz, wEs_nil, wEs_cons, wI_over, wI_rng1, wI_rng2, List.map_cons, List.map_nil, List.length_cons, List.length_nil, List.cons_append, List.nil_append, lk_0, lk_s, st_0, st_s, ix_0, ix_1, ix_2, Op2.o, Cm.o, BI.o, ME.o, ME.rv, is_o, eq_int, cmp_int, overT, nop_cmp, nop_chain, nop_and, nop_or, nop_not, nop_call, nop_bi, nop_ite, nop_ix, nop_v, nop_int, nop_op, nop_neg, nop_nop, wE_lc_cmp, wE_lc_chain, wE_lc_and, wE_lc_or, wE_lc_not, wE_lc_call, wE_lc_bi, wE_lc_ite, wE_lc_ix, wE_lc_v, List.replicate_succ, List.replicate_zero, Nat.reduceAdd, Nat.reduceSub, oT_s, oT_n, eq_io, eq_oi, is_i, is_n, Bool.xor_true, Bool.xor_false, Bool.false_xor, Bool.true_xor, Bool.not_true, Bool.not_false, mk_t, bodyC_n, bodyC_n1, bodyD_n, Tg.put, putAll, len_map, h25]
  refine take_j Kp.dj k0 hlp fun at_ H1 hat k1 => ?_
  refine (rng_n (n := 2) (by decide)).mpr ?_
  refine lc_takes (n := 2) Kp.dj h25 hlp (by decide) k1 (fun x Hx Q => by simp only [wSs_cons, wSs_nil, wS_set, wS_unp, wS_setix, wS_aug, wS_expr, wS_ret, wS_retN, wS_ife, wS_for, wS_while, wS_pass, wS_brk, wS_cont, wE_v, wE_non, wE_bl, wE_int, wE_str, wE_neg, wE_op, wE_cmp, wE_chain, wE_and, wE_or, wE_not, wE_ite, wE_ix, wE_tup, wE_lst, wE_dnew, wE_call, wE_bi, wE_isi, wE_me, wE_lc0, wE_dc, wE_sset, wE_frz, wEs_nil, wEs_cons, wI_over, wI_rng1, wI_rng2, List.map_cons, List.map_nil, List.length_cons, List.length_nil, List.cons_append, List.nil_append, lk_0, lk_s, st_0, st_s, ix_0, ix_1, ix_2, Op2.o, Cm.o, BI.o, ME.o, ME.rv, is_o, eq_int, cmp_int, overT, nop_cmp, nop_chain, nop_and, nop_or, nop_not, nop_call, nop_bi, nop_ite, nop_ix, nop_v, nop_int, nop_op, nop_neg, nop_nop, wE_lc_cmp, wE_lc_chain, wE_lc_and, wE_lc_or, wE_lc_not, wE_lc_call, wE_lc_bi, wE_lc_ite, wE_lc_ix, wE_lc_v, List.replicate_succ, List.replicate_zero, Nat.reduceAdd, Nat.reduceSub, oT_s, oT_n, eq_io, eq_oi, is_i, is_n, Bool.xor_true, Bool.xor_false, Bool.false_xor, Bool.true_xor, Bool.not_true, Bool.not_false, mk_t, bodyC_n, bodyC_n1, bodyD_n]) (fun x Hx Q => by simp only [wSs_cons, wSs_nil, wS_set, wS_unp, wS_setix, wS_aug, wS_expr, wS_ret, wS_retN, wS_ife, wS_for, wS_while, wS_pass, wS_brk, wS_cont, wE_v, wE_non, wE_bl, wE_int, wE_str, wE_neg, wE_op, wE_cmp, wE_chain, wE_and, wE_or, wE_not, wE_ite, wE_ix, wE_tup, wE_lst, wE_dnew, wE_call, wE_bi, wE_isi, wE_me, wE_lc0, wE_dc, wE_sset, wE_frz, wEs_nil, wEs_cons, wI_over, wI_rng1, wI_rng2, List.map_cons, List.map_nil, List.length_cons, List.length_nil, List.cons_append, List.nil_append, lk_0, lk_s, st_0, st_s, ix_0, ix_1, ix_2, Op2.o, Cm.o, BI.o, ME.o, ME.rv, is_o, eq_int, cmp_int, overT, nop_cmp, nop_chain, nop_and, nop_or, nop_not, nop_call, nop_bi, nop_ite, nop_ix, nop_v, nop_int, nop_op, nop_neg, nop_nop, wE_lc_cmp, wE_lc_chain, wE_lc_and, wE_lc_or, wE_lc_not, wE_lc_call, wE_lc_bi, wE_lc_ite, wE_lc_ix, wE_lc_v, List.replicate_succ, List.replicate_zero, Nat.reduceAdd, Nat.reduceSub, oT_s, oT_n, eq_io, eq_oi, is_i, is_n, Bool.xor_true, Bool.xor_false, Bool.false_xor, Bool.true_xor, Bool.not_true, Bool.not_false, mk_t, bodyC_n, bodyC_n1, bodyD_n, len_map]) fun row H2 hrow hV k2 => ?_
  simp only [mk_t, wSs_cons, wSs_nil, wS_set, wS_unp, wS_setix, wS_aug, wS_expr, wS_ret, wS_retN, wS_ife, wS_for, wS_while, wS_pass, wS_brk, wS_cont, wE_v, wE_non, wE_bl, wE_int, wE_str, wE_neg, wE_op, wE_cmp, wE_chain, wE_and, wE_or, wE_not, wE_ite, wE_ix, wE_tup, wE_lst, wE_dnew, wE_call, wE_bi, wE_isi, wE_me, wE_lc0, wE_dc, wE_sset, wE_frz, wEs_nil, wEs_cons, wI_over, wI_rng1, wI_rng2, List.map_cons, List.map_nil, List.length_cons, List.length_nil, List.cons_append, List.nil_append, lk_0, lk_s, st_0, st_s, ix_0, ix_1, ix_2, Op2.o, Cm.o, BI.o, ME.o, ME.rv, is_o, eq_int, cmp_int, overT, nop_cmp, nop_chain, nop_and, nop_or, nop_not, nop_call, nop_bi, nop_ite, nop_ix, nop_v, nop_int, nop_op, nop_neg, nop_nop, wE_lc_cmp, wE_lc_chain, wE_lc_and, wE_lc_or, wE_lc_not, wE_lc_call, wE_lc_bi, wE_lc_ite, wE_lc_ix, wE_lc_v, List.replicate_succ, List.replicate_zero, Nat.reduceAdd, Nat.reduceSub, oT_s, oT_n, eq_io, eq_oi, is_i, is_n, Bool.xor_true, Bool.xor_false, Bool.false_xor, Bool.true_xor, Bool.not_true, Bool.not_false, mk_t, bodyC_n, bodyC_n1, bodyD_n, sset_n, cTuple, seqOf, len_map]
  refine ⟨by omega, ?_⟩
  refine take_j Kp.dj k2 hup fun v H3 hv k3 => ?_
  try simp only [wSs_cons, wSs_nil, wS_set, wS_unp, wS_setix, wS_aug, wS_expr, wS_ret, wS_retN, wS_ife, wS_for, wS_while, wS_pass, wS_brk, wS_cont, wE_v, wE_non, wE_bl, wE_int, wE_str, wE_neg, wE_op, wE_cmp, wE_chain, wE_and, wE_or, wE_not, wE_ite, wE_ix, wE_tup, wE_lst, wE_dnew, wE_call, wE_bi, wE_isi, wE_me, wE_lc0, wE_dc, wE_sset, wE_frz, wEs_nil, wEs_cons, wI_over, wI_rng1, wI_rng2, List.map_cons, List.map_nil, List.length_cons, List.length_nil, List.cons_append, List.nil_append, lk_0, lk_s, st_0, st_s, ix_0, ix_1, ix_2, Op2.o, Cm.o, BI.o, ME.o, ME.rv, is_o, eq_int, cmp_int, overT, nop_cmp, nop_chain, nop_and, nop_or, nop_not, nop_call, nop_bi, nop_ite, nop_ix, nop_v, nop_int, nop_op, nop_neg, nop_nop, wE_lc_cmp, wE_lc_chain, wE_lc_and, wE_lc_or, wE_lc_not, wE_lc_call, wE_lc_bi, wE_lc_ite, wE_lc_ix, wE_lc_v, List.replicate_succ, List.replicate_zero, Nat.reduceAdd, Nat.reduceSub, oT_s, oT_n, eq_io, eq_oi, is_i, is_n, Bool.xor_true, Bool.xor_false, Bool.false_xor, Bool.true_xor, Bool.not_true, Bool.not_false, mk_t, bodyC_n, bodyC_n1, bodyD_n]
  refine ⟨sz (by decide), ?_⟩
  refine take_j (m := 5) Kp.dj k3 (by decide) fun i5 H4 hi5 k4 => ?_
  have e5 : [T.non, .int (-1), .int (u.ws.length : Int), nT v, .int 0] = [none, some (-1), some (u.ws.length : Int), some (v : Int), some 0].map oT := rfl
  have hL : [none, some (-1), some (u.ws.length : Int), some (v : Int), some (0 : Int)][i5]? = some ([none, some (-1), some (u.ws.length : Int), some (v : Int), some (0 : Int)][i5]'(by simpa using hi5)) := List.getElem?_eq_getElem _
  rw [e5, ix_latn hL]
  generalize [none, some (-1), some (u.ws.length : Int), some (v : Int), some (0 : Int)][i5]'_ = other
  refine take_j (m := 7) Kp.dj k4 (by decide) fun st H5 hst k5 => ?_
  have nrow : (nset row).Nodup := nset_nd row
  have lrow : ∀ x ∈ nset row, x < lo.ws.length := fun x hx => hV x (mem_nset.mp hx)
  have hat1 : ((at_ : Int) + 1) = ((at_ + 1 : Nat) : Int) := by omega
  have z4 : [encW u, encW lo, oTs sn, oTs rk].length = 4 := rfl
  by_cases s0 : st = 0
  · subst s0
    simp only [Int.natCast_zero, decide_true, wSs_cons, wSs_nil, wS_set, wS_unp, wS_setix, wS_aug, wS_expr, wS_ret, wS_retN, wS_ife, wS_for, wS_while, wS_pass, wS_brk, wS_cont, wE_v, wE_non, wE_bl, wE_int, wE_str, wE_neg, wE_op, wE_cmp, wE_chain, wE_and, wE_or, wE_not, wE_ite, wE_ix, wE_tup, wE_lst, wE_dnew, wE_call, wE_bi, wE_isi, wE_me, wE_lc0, wE_dc, wE_sset, wE_frz, wEs_nil, wEs_cons, wI_over, wI_rng1, wI_rng2, List.map_cons, List.map_nil, List.length_cons, List.length_nil, List.cons_append, List.nil_append, lk_0, lk_s, st_0, st_s, ix_0, ix_1, ix_2, Op2.o, Cm.o, BI.o, ME.o, ME.rv, is_o, eq_int, cmp_int, overT, nop_cmp, nop_chain, nop_and, nop_or, nop_not, nop_call, nop_bi, nop_ite, nop_ix, nop_v, nop_int, nop_op, nop_neg, nop_nop, wE_lc_cmp, wE_lc_chain, wE_lc_and, wE_lc_or, wE_lc_not, wE_lc_call, wE_lc_bi, wE_lc_ite, wE_lc_ix, wE_lc_v, List.replicate_succ, List.replicate_zero, Nat.reduceAdd, Nat.reduceSub, oT_s, oT_n, eq_io, eq_oi, is_i, is_n, Bool.xor_true, Bool.xor_false, Bool.false_xor, Bool.true_xor, Bool.not_true, Bool.not_false, mk_t, bodyC_n, bodyC_n1, bodyD_n]
    refine ⟨sz (by decide), sz (by decide), ?_⟩
    exact rtd k5 fun ds' => hQ ⟨nset row, lo.ws, lo.ls⟩ u sn rk ds' gu (gl.setbs lrow nrow) ⟨(gl.setbs lrow nrow).ok, c.oku, c.sn, c.rk⟩
  have s0' : ¬ (st : Int) = 0 := by omega
  simp only [eq_int, Bool.false_xor, s0', decide_false]
  by_cases s1 : st = 1
  · have s1' : (st : Int) = 1 := by omega
    simp only [s1', decide_true, wSs_cons, wSs_nil, wS_set, wS_unp, wS_setix, wS_aug, wS_expr, wS_ret, wS_retN, wS_ife, wS_for, wS_while, wS_pass, wS_brk, wS_cont, wE_v, wE_non, wE_bl, wE_int, wE_str, wE_neg, wE_op, wE_cmp, wE_chain, wE_and, wE_or, wE_not, wE_ite, wE_ix, wE_tup, wE_lst, wE_dnew, wE_call, wE_bi, wE_isi, wE_me, wE_lc0, wE_dc, wE_sset, wE_frz, wEs_nil, wEs_cons, wI_over, wI_rng1, wI_rng2, List.map_cons, List.map_nil, List.length_cons, List.length_nil, List.cons_append, List.nil_append, lk_0, lk_s, st_0, st_s, ix_0, ix_1, ix_2, Op2.o, Cm.o, BI.o, ME.o, ME.rv, is_o, eq_int, cmp_int, overT, nop_cmp, nop_chain, nop_and, nop_or, nop_not, nop_call, nop_bi, nop_ite, nop_ix, nop_v, nop_int, nop_op, nop_neg, nop_nop, wE_lc_cmp, wE_lc_chain, wE_lc_and, wE_lc_or, wE_lc_not, wE_lc_call, wE_lc_bi, wE_lc_ite, wE_lc_ix, wE_lc_v, List.replicate_succ, List.replicate_zero, Nat.reduceAdd, Nat.reduceSub, oT_s, oT_n, eq_io, eq_oi, is_i, is_n, Bool.xor_true, Bool.xor_false, Bool.false_xor, Bool.true_xor, Bool.not_true, Bool.not_false, mk_t, bodyC_n, bodyC_n1, bodyD_n, wE_slv, wE_slo, asInt_i, sl_t, add_ii, hat1, add_tt]
    have h1 := cut_len (xs := lo.ws.map nTs) (lo := none) (hi := some (at_ : Int))
    have h2 := cut_len (xs := lo.ws.map nTs) (lo := some ((at_ + 1 : Nat) : Int)) (hi := none)
    rw [List.length_map] at h1 h2
    refine ⟨sz (by decide), sz (by (try simp only [List.length_append, List.length_cons, List.length_nil, List.length_map]); omega), sz (by (try simp only [List.length_append, List.length_cons, List.length_nil, List.length_map]); omega), sz (by decide), sz (by decide), ?_⟩
    have e := cut_set (f := nTs) (l := lo.ws) (n := at_) (a := nset row) hat
    have g := gl.setws (k := at_) lrow nrow
    have := fun ds' => hQ ⟨lo.bs, lo.ws.set at_ (nset row), lo.ls⟩ u sn rk ds' gu g ⟨g.ok, c.oku, by show sn.length = (lo.ws.set at_ (nset row)).length; rw [List.length_set]; exact c.sn, by show rk.length = (lo.ws.set at_ (nset row)).length; rw [List.length_set]; exact c.rk⟩
    unfold encW at this
    simp only [← e] at this
    exact rtd k5 this
  have s1' : ¬ (st : Int) = 1 := by omega
  simp only [eq_int, Bool.false_xor, s1', decide_false]
  by_cases s2 : st = 2
  · have s2' : (st : Int) = 2 := by omega
    have hl' : at_ < lo.ls.length := by omega
    have hli : lo.ls[at_]? = some lo.ls[at_] := List.getElem?_eq_getElem hl'
    have hln := gl.lit _ (List.getElem_mem hl')
    simp only [s2', decide_true, wSs_cons, wSs_nil, wS_set, wS_unp, wS_setix, wS_aug, wS_expr, wS_ret, wS_retN, wS_ife, wS_for, wS_while, wS_pass, wS_brk, wS_cont, wE_v, wE_non, wE_bl, wE_int, wE_str, wE_neg, wE_op, wE_cmp, wE_chain, wE_and, wE_or, wE_not, wE_ite, wE_ix, wE_tup, wE_lst, wE_dnew, wE_call, wE_bi, wE_isi, wE_me, wE_lc0, wE_dc, wE_sset, wE_frz, wEs_nil, wEs_cons, wI_over, wI_rng1, wI_rng2, List.map_cons, List.map_nil, List.length_cons, List.length_nil, List.cons_append, List.nil_append, lk_0, lk_s, st_0, st_s, ix_0, ix_1, ix_2, Op2.o, Cm.o, BI.o, ME.o, ME.rv, is_o, eq_int, cmp_int, overT, nop_cmp, nop_chain, nop_and, nop_or, nop_not, nop_call, nop_bi, nop_ite, nop_ix, nop_v, nop_int, nop_op, nop_neg, nop_nop, wE_lc_cmp, wE_lc_chain, wE_lc_and, wE_lc_or, wE_lc_not, wE_lc_call, wE_lc_bi, wE_lc_ite, wE_lc_ix, wE_lc_v, List.replicate_succ, List.replicate_zero, Nat.reduceAdd, Nat.reduceSub, oT_s, oT_n, eq_io, eq_oi, is_i, is_n, Bool.xor_true, Bool.xor_false, Bool.false_xor, Bool.true_xor, Bool.not_true, Bool.not_false, mk_t, bodyC_n, bodyC_n1, bodyD_n, ix_at hli]
    refine lc_map (α := Int) (enc := T.int) (f := fun b => .int (1 - b)) trivial (fun b hb G gg => ?_) (sz (by omega)) ?_
    · simp only [wSs_cons, wSs_nil, wS_set, wS_unp, wS_setix, wS_aug, wS_expr, wS_ret, wS_retN, wS_ife, wS_for, wS_while, wS_pass, wS_brk, wS_cont, wE_v, wE_non, wE_bl, wE_int, wE_str, wE_neg, wE_op, wE_cmp, wE_chain, wE_and, wE_or, wE_not, wE_ite, wE_ix, wE_tup, wE_lst, wE_dnew, wE_call, wE_bi, wE_isi, wE_me, wE_lc0, wE_dc, wE_sset, wE_frz, wEs_nil, wEs_cons, wI_over, wI_rng1, wI_rng2, List.map_cons, List.map_nil, List.length_cons, List.length_nil, List.cons_append, List.nil_append, lk_0, lk_s, st_0, st_s, ix_0, ix_1, ix_2, Op2.o, Cm.o, BI.o, ME.o, ME.rv, is_o, eq_int, cmp_int, overT, nop_cmp, nop_chain, nop_and, nop_or, nop_not, nop_call, nop_bi, nop_ite, nop_ix, nop_v, nop_int, nop_op, nop_neg, nop_nop, wE_lc_cmp, wE_lc_chain, wE_lc_and, wE_lc_or, wE_lc_not, wE_lc_call, wE_lc_bi, wE_lc_ite, wE_lc_ix, wE_lc_v, List.replicate_succ, List.replicate_zero, Nat.reduceAdd, Nat.reduceSub, oT_s, oT_n, eq_io, eq_oi, is_i, is_n, Bool.xor_true, Bool.xor_false, Bool.false_xor, Bool.true_xor, Bool.not_true, Bool.not_false, mk_t, bodyC_n, bodyC_n1, bodyD_n, sub_ii]
      exact gg
    have e0 : lo.ls[at_].map (fun b => T.int (1 - b)) = (lo.ls[at_].map fun b => 1 - b).map T.int := by
      rw [List.map_map]
      rfl
    rw [e0]
    simp only [mk_t, wSs_cons, wSs_nil, wS_set, wS_unp, wS_setix, wS_aug, wS_expr, wS_ret, wS_retN, wS_ife, wS_for, wS_while, wS_pass, wS_brk, wS_cont, wE_v, wE_non, wE_bl, wE_int, wE_str, wE_neg, wE_op, wE_cmp, wE_chain, wE_and, wE_or, wE_not, wE_ite, wE_ix, wE_tup, wE_lst, wE_dnew, wE_call, wE_bi, wE_isi, wE_me, wE_lc0, wE_dc, wE_sset, wE_frz, wEs_nil, wEs_cons, wI_over, wI_rng1, wI_rng2, List.map_cons, List.map_nil, List.length_cons, List.length_nil, List.cons_append, List.nil_append, lk_0, lk_s, st_0, st_s, ix_0, ix_1, ix_2, Op2.o, Cm.o, BI.o, ME.o, ME.rv, is_o, eq_int, cmp_int, overT, nop_cmp, nop_chain, nop_and, nop_or, nop_not, nop_call, nop_bi, nop_ite, nop_ix, nop_v, nop_int, nop_op, nop_neg, nop_nop, wE_lc_cmp, wE_lc_chain, wE_lc_and, wE_lc_or, wE_lc_not, wE_lc_call, wE_lc_bi, wE_lc_ite, wE_lc_ix, wE_lc_v, List.replicate_succ, List.replicate_zero, Nat.reduceAdd, Nat.reduceSub, oT_s, oT_n, eq_io, eq_oi, is_i, is_n, Bool.xor_true, Bool.xor_false, Bool.false_xor, Bool.true_xor, Bool.not_true, Bool.not_false, mk_t, bodyC_n, bodyC_n1, bodyD_n, cTuple, seqOf, wE_slv, wE_slo, asInt_i, sl_t, add_ii, hat1, add_tt]
    have h1 := cut_len (xs := lo.ls.map iTs) (lo := none) (hi := some (at_ : Int))
    have h2 := cut_len (xs := lo.ls.map iTs) (lo := some ((at_ + 1 : Nat) : Int)) (hi := none)
    rw [List.length_map] at h1 h2
    refine ⟨sz (by decide), sz (by (try simp only [List.length_append, List.length_cons, List.length_nil, List.length_map]); omega), sz (by (try simp only [List.length_append, List.length_cons, List.length_nil, List.length_map]); omega), sz (by decide), sz (by decide), ?_⟩
    have e := cut_set (f := iTs) (l := lo.ls) (n := at_) (a := lo.ls[at_].map fun b => 1 - b) hl'
    have g := gl.setls (k := at_) (row := lo.ls[at_].map fun b => 1 - b) (by rw [List.length_map]; exact hln)
    have := fun ds' => hQ ⟨lo.bs, lo.ws, lo.ls.set at_ (lo.ls[at_].map fun b => 1 - b)⟩ u sn rk ds' gu g ⟨g.ok, c.oku, c.sn, c.rk⟩
    unfold encW at this
    simp only [← e] at this
    exact rtd k5 this
  have s2' : ¬ (st : Int) = 2 := by omega
  simp only [eq_int, Bool.false_xor, s2', decide_false]
  by_cases s3 : st = 3
  · have s3' : (st : Int) = 3 := by omega
    simp only [s3', decide_true, wSs_cons, wSs_nil, wS_set, wS_unp, wS_setix, wS_aug, wS_expr, wS_ret, wS_retN, wS_ife, wS_for, wS_while, wS_pass, wS_brk, wS_cont, wE_v, wE_non, wE_bl, wE_int, wE_str, wE_neg, wE_op, wE_cmp, wE_chain, wE_and, wE_or, wE_not, wE_ite, wE_ix, wE_tup, wE_lst, wE_dnew, wE_call, wE_bi, wE_isi, wE_me, wE_lc0, wE_dc, wE_sset, wE_frz, wEs_nil, wEs_cons, wI_over, wI_rng1, wI_rng2, List.map_cons, List.map_nil, List.length_cons, List.length_nil, List.cons_append, List.nil_append, lk_0, lk_s, st_0, st_s, ix_0, ix_1, ix_2, Op2.o, Cm.o, BI.o, ME.o, ME.rv, is_o, eq_int, cmp_int, overT, nop_cmp, nop_chain, nop_and, nop_or, nop_not, nop_call, nop_bi, nop_ite, nop_ix, nop_v, nop_int, nop_op, nop_neg, nop_nop, wE_lc_cmp, wE_lc_chain, wE_lc_and, wE_lc_or, wE_lc_not, wE_lc_call, wE_lc_bi, wE_lc_ite, wE_lc_ix, wE_lc_v, List.replicate_succ, List.replicate_zero, Nat.reduceAdd, Nat.reduceSub, oT_s, oT_n, eq_io, eq_oi, is_i, is_n, Bool.xor_true, Bool.xor_false, Bool.false_xor, Bool.true_xor, Bool.not_true, Bool.not_false, mk_t, bodyC_n, bodyC_n1, bodyD_n, wE_slv, wE_slo, asInt_i, sl_t, add_ii, hat1, add_tt]
    have h1 := cut_len (xs := sn.map oT) (lo := none) (hi := some (at_ : Int))
    have h2 := cut_len (xs := sn.map oT) (lo := some ((at_ + 1 : Nat) : Int)) (hi := none)
    rw [List.length_map] at h1 h2
    refine ⟨sz (by decide), sz (by (try simp only [List.length_append, List.length_cons, List.length_nil, List.length_map]); omega), sz (by (try simp only [List.length_append, List.length_cons, List.length_nil, List.length_map]); omega), sz (by decide), ?_⟩
    have e := cut_set (f := oT) (l := sn) (n := at_) (a := other) (by omega)
    have := fun ds' => hQ lo u (sn.set at_ other) rk ds' gu gl ⟨c.okl, c.oku, by rw [List.length_set]; exact c.sn, c.rk⟩
    simp only [oTs, ← e] at this
    exact rtd k5 this
  have s3' : ¬ (st : Int) = 3 := by omega
  simp only [eq_int, Bool.false_xor, s3', decide_false]
  by_cases s4 : st = 4
  · have s4' : (st : Int) = 4 := by omega
    simp only [s4', decide_true, wSs_cons, wSs_nil, wS_set, wS_unp, wS_setix, wS_aug, wS_expr, wS_ret, wS_retN, wS_ife, wS_for, wS_while, wS_pass, wS_brk, wS_cont, wE_v, wE_non, wE_bl, wE_int, wE_str, wE_neg, wE_op, wE_cmp, wE_chain, wE_and, wE_or, wE_not, wE_ite, wE_ix, wE_tup, wE_lst, wE_dnew, wE_call, wE_bi, wE_isi, wE_me, wE_lc0, wE_dc, wE_sset, wE_frz, wEs_nil, wEs_cons, wI_over, wI_rng1, wI_rng2, List.map_cons, List.map_nil, List.length_cons, List.length_nil, List.cons_append, List.nil_append, lk_0, lk_s, st_0, st_s, ix_0, ix_1, ix_2, Op2.o, Cm.o, BI.o, ME.o, ME.rv, is_o, eq_int, cmp_int, overT, nop_cmp, nop_chain, nop_and, nop_or, nop_not, nop_call, nop_bi, nop_ite, nop_ix, nop_v, nop_int, nop_op, nop_neg, nop_nop, wE_lc_cmp, wE_lc_chain, wE_lc_and, wE_lc_or, wE_lc_not, wE_lc_call, wE_lc_bi, wE_lc_ite, wE_lc_ix, wE_lc_v, List.replicate_succ, List.replicate_zero, Nat.reduceAdd, Nat.reduceSub, oT_s, oT_n, eq_io, eq_oi, is_i, is_n, Bool.xor_true, Bool.xor_false, Bool.false_xor, Bool.true_xor, Bool.not_true, Bool.not_false, mk_t, bodyC_n, bodyC_n1, bodyD_n, wE_slv, wE_slo, asInt_i, sl_t, mk_t]
    refine ⟨sz (by decide), ?_⟩
    refine take_j (m := 4) Kp.dj k5 (by decide) fun i4 H6 hi4 k6 => ?_
    have e4 : [T.non, .int (-1), .int 0, .int 5] = [none, some (-1), some (0 : Int), some 5].map oT := rfl
    have hL4 : [none, some (-1), some (0 : Int), some (5 : Int)][i4]? = some ([none, some (-1), some (0 : Int), some (5 : Int)][i4]'(by simpa using hi4)) := List.getElem?_eq_getElem _
    rw [e4, ix_latn hL4]
    generalize [none, some (-1), some (0 : Int), some (5 : Int)][i4]'_ = r4
    simp only [add_ii, hat1, add_tt, wSs_cons, wSs_nil, wS_set, wS_unp, wS_setix, wS_aug, wS_expr, wS_ret, wS_retN, wS_ife, wS_for, wS_while, wS_pass, wS_brk, wS_cont, wE_v, wE_non, wE_bl, wE_int, wE_str, wE_neg, wE_op, wE_cmp, wE_chain, wE_and, wE_or, wE_not, wE_ite, wE_ix, wE_tup, wE_lst, wE_dnew, wE_call, wE_bi, wE_isi, wE_me, wE_lc0, wE_dc, wE_sset, wE_frz, wEs_nil, wEs_cons, wI_over, wI_rng1, wI_rng2, List.map_cons, List.map_nil, List.length_cons, List.length_nil, List.cons_append, List.nil_append, lk_0, lk_s, st_0, st_s, ix_0, ix_1, ix_2, Op2.o, Cm.o, BI.o, ME.o, ME.rv, is_o, eq_int, cmp_int, overT, nop_cmp, nop_chain, nop_and, nop_or, nop_not, nop_call, nop_bi, nop_ite, nop_ix, nop_v, nop_int, nop_op, nop_neg, nop_nop, wE_lc_cmp, wE_lc_chain, wE_lc_and, wE_lc_or, wE_lc_not, wE_lc_call, wE_lc_bi, wE_lc_ite, wE_lc_ix, wE_lc_v, List.replicate_succ, List.replicate_zero, Nat.reduceAdd, Nat.reduceSub, oT_s, oT_n, eq_io, eq_oi, is_i, is_n, Bool.xor_true, Bool.xor_false, Bool.false_xor, Bool.true_xor, Bool.not_true, Bool.not_false, mk_t, bodyC_n, bodyC_n1, bodyD_n, asInt_i, sl_t]
    have h1 := cut_len (xs := rk.map oT) (lo := none) (hi := some (at_ : Int))
    have h2 := cut_len (xs := rk.map oT) (lo := some ((at_ + 1 : Nat) : Int)) (hi := none)
    rw [List.length_map] at h1 h2
    refine ⟨sz (by decide), sz (by (try simp only [List.length_append, List.length_cons, List.length_nil, List.length_map]); omega), sz (by (try simp only [List.length_append, List.length_cons, List.length_nil, List.length_map]); omega), sz (by decide), ?_⟩
    have e := cut_set (f := oT) (l := rk) (n := at_) (a := r4) (by omega)
    have := fun ds' => hQ lo u sn (rk.set at_ r4) ds' gu gl ⟨c.okl, c.oku, c.sn, by rw [List.length_set]; exact c.rk⟩
    simp only [oTs, ← e] at this
    exact rtd k6 this
  have s4' : ¬ (st : Int) = 4 := by omega
  simp only [s4', decide_false, wSs_cons, wSs_nil, wS_set, wS_unp, wS_setix, wS_aug, wS_expr, wS_ret, wS_retN, wS_ife, wS_for, wS_while, wS_pass, wS_brk, wS_cont, wE_v, wE_non, wE_bl, wE_int, wE_str, wE_neg, wE_op, wE_cmp, wE_chain, wE_and, wE_or, wE_not, wE_ite, wE_ix, wE_tup, wE_lst, wE_dnew, wE_call, wE_bi, wE_isi, wE_me, wE_lc0, wE_dc, wE_sset, wE_frz, wEs_nil, wEs_cons, wI_over, wI_rng1, wI_rng2, List.map_cons, List.map_nil, List.length_cons, List.length_nil, List.cons_append, List.nil_append, lk_0, lk_s, st_0, st_s, ix_0, ix_1, ix_2, Op2.o, Cm.o, BI.o, ME.o, ME.rv, is_o, eq_int, cmp_int, overT, nop_cmp, nop_chain, nop_and, nop_or, nop_not, nop_call, nop_bi, nop_ite, nop_ix, nop_v, nop_int, nop_op, nop_neg, nop_nop, wE_lc_cmp, wE_lc_chain, wE_lc_and, wE_lc_or, wE_lc_not, wE_lc_call, wE_lc_bi, wE_lc_ite, wE_lc_ix, wE_lc_v, List.replicate_succ, List.replicate_zero, Nat.reduceAdd, Nat.reduceSub, oT_s, oT_n, eq_io, eq_oi, is_i, is_n, Bool.xor_true, Bool.xor_false, Bool.false_xor, Bool.true_xor, Bool.not_true, Bool.not_false, mk_t, bodyC_n, bodyC_n1, bodyD_n, len_map]
  refine take_j Kp.dj k5 hup fun own H6 hown k6 => ?_
  try simp only [wSs_cons, wSs_nil, wS_set, wS_unp, wS_setix, wS_aug, wS_expr, wS_ret, wS_retN, wS_ife, wS_for, wS_while, wS_pass, wS_brk, wS_cont, wE_v, wE_non, wE_bl, wE_int, wE_str, wE_neg, wE_op, wE_cmp, wE_chain, wE_and, wE_or, wE_not, wE_ite, wE_ix, wE_tup, wE_lst, wE_dnew, wE_call, wE_bi, wE_isi, wE_me, wE_lc0, wE_dc, wE_sset, wE_frz, wEs_nil, wEs_cons, wI_over, wI_rng1, wI_rng2, List.map_cons, List.map_nil, List.length_cons, List.length_nil, List.cons_append, List.nil_append, lk_0, lk_s, st_0, st_s, ix_0, ix_1, ix_2, Op2.o, Cm.o, BI.o, ME.o, ME.rv, is_o, eq_int, cmp_int, overT, nop_cmp, nop_chain, nop_and, nop_or, nop_not, nop_call, nop_bi, nop_ite, nop_ix, nop_v, nop_int, nop_op, nop_neg, nop_nop, wE_lc_cmp, wE_lc_chain, wE_lc_and, wE_lc_or, wE_lc_not, wE_lc_call, wE_lc_bi, wE_lc_ite, wE_lc_ix, wE_lc_v, List.replicate_succ, List.replicate_zero, Nat.reduceAdd, Nat.reduceSub, oT_s, oT_n, eq_io, eq_oi, is_i, is_n, Bool.xor_true, Bool.xor_false, Bool.false_xor, Bool.true_xor, Bool.not_true, Bool.not_false, mk_t, bodyC_n, bodyC_n1, bodyD_n, ix_at (nx_some hown), len_map]
  refine take_j Kp.dj k6 hup fun x H7 hx k7 => ?_
  have hnx := nx_len gu.ok own
  have em : (nx u own).map nT ++ [nT x] = (nx u own ++ [x]).map nT := by
    rw [List.map_append]
    rfl
  try simp only [wSs_cons, wSs_nil, wS_set, wS_unp, wS_setix, wS_aug, wS_expr, wS_ret, wS_retN, wS_ife, wS_for, wS_while, wS_pass, wS_brk, wS_cont, wE_v, wE_non, wE_bl, wE_int, wE_str, wE_neg, wE_op, wE_cmp, wE_chain, wE_and, wE_or, wE_not, wE_ite, wE_ix, wE_tup, wE_lst, wE_dnew, wE_call, wE_bi, wE_isi, wE_me, wE_lc0, wE_dc, wE_sset, wE_frz, wEs_nil, wEs_cons, wI_over, wI_rng1, wI_rng2, List.map_cons, List.map_nil, List.length_cons, List.length_nil, List.cons_append, List.nil_append, lk_0, lk_s, st_0, st_s, ix_0, ix_1, ix_2, Op2.o, Cm.o, BI.o, ME.o, ME.rv, is_o, eq_int, cmp_int, overT, nop_cmp, nop_chain, nop_and, nop_or, nop_not, nop_call, nop_bi, nop_ite, nop_ix, nop_v, nop_int, nop_op, nop_neg, nop_nop, wE_lc_cmp, wE_lc_chain, wE_lc_and, wE_lc_or, wE_lc_not, wE_lc_call, wE_lc_bi, wE_lc_ite, wE_lc_ix, wE_lc_v, List.replicate_succ, List.replicate_zero, Nat.reduceAdd, Nat.reduceSub, oT_s, oT_n, eq_io, eq_oi, is_i, is_n, Bool.xor_true, Bool.xor_false, Bool.false_xor, Bool.true_xor, Bool.not_true, Bool.not_false, mk_t, bodyC_n, bodyC_n1, bodyD_n, add_tt, em, sset_t, cTuple, seqOf]
  refine ⟨sz (by decide), sz (by (try simp only [List.length_append, List.length_cons, List.length_nil, List.length_map]); omega), by simp; omega, ?_⟩
  have hown1 : ((own : Int) + 1) = ((own + 1 : Nat) : Int) := by omega
  by_cases s5 : st = 5
  · have s5' : (st : Int) = 5 := by omega
    simp only [s5', decide_true, wSs_cons, wSs_nil, wS_set, wS_unp, wS_setix, wS_aug, wS_expr, wS_ret, wS_retN, wS_ife, wS_for, wS_while, wS_pass, wS_brk, wS_cont, wE_v, wE_non, wE_bl, wE_int, wE_str, wE_neg, wE_op, wE_cmp, wE_chain, wE_and, wE_or, wE_not, wE_ite, wE_ix, wE_tup, wE_lst, wE_dnew, wE_call, wE_bi, wE_isi, wE_me, wE_lc0, wE_dc, wE_sset, wE_frz, wEs_nil, wEs_cons, wI_over, wI_rng1, wI_rng2, List.map_cons, List.map_nil, List.length_cons, List.length_nil, List.cons_append, List.nil_append, lk_0, lk_s, st_0, st_s, ix_0, ix_1, ix_2, Op2.o, Cm.o, BI.o, ME.o, ME.rv, is_o, eq_int, cmp_int, overT, nop_cmp, nop_chain, nop_and, nop_or, nop_not, nop_call, nop_bi, nop_ite, nop_ix, nop_v, nop_int, nop_op, nop_neg, nop_nop, wE_lc_cmp, wE_lc_chain, wE_lc_and, wE_lc_or, wE_lc_not, wE_lc_call, wE_lc_bi, wE_lc_ite, wE_lc_ix, wE_lc_v, List.replicate_succ, List.replicate_zero, Nat.reduceAdd, Nat.reduceSub, oT_s, oT_n, eq_io, eq_oi, is_i, is_n, Bool.xor_true, Bool.xor_false, Bool.false_xor, Bool.true_xor, Bool.not_true, Bool.not_false, mk_t, bodyC_n, bodyC_n1, bodyD_n, wE_slv, wE_slo, asInt_i, sl_t, add_ii, hown1, add_tt]
    have h1 := cut_len (xs := u.ws.map nTs) (lo := none) (hi := some (own : Int))
    have h2 := cut_len (xs := u.ws.map nTs) (lo := some ((own + 1 : Nat) : Int)) (hi := none)
    rw [List.length_map] at h1 h2
    refine ⟨sz (by decide), sz (by (try simp only [List.length_append, List.length_cons, List.length_nil, List.length_map]); omega), sz (by (try simp only [List.length_append, List.length_cons, List.length_nil, List.length_map]); omega), sz (by decide), sz (by decide), ?_⟩
    have e := cut_set (f := nTs) (l := u.ws) (n := own) (a := nset (nx u own ++ [x])) hown
    have g := gu.setws (k := own) (row := nset (nx u own ++ [x])) (fun y hy => by
      rcases List.mem_append.mp (mem_nset.mp hy) with z | z
      · exact nx_lt gu.ok z
      · rw [List.mem_singleton.mp z]
        exact hx) (nset_nd _)
    have := fun ds' => hQ lo ⟨u.bs, u.ws.set own (nset (nx u own ++ [x])), u.ls⟩ sn rk ds' g gl ⟨c.okl, g.ok, c.sn, c.rk⟩
    unfold encW at this
    simp only [← e] at this
    exact rtd k7 this
  have s5' : ¬ (st : Int) = 5 := by omega
  have hb := bs_len gu.ok
  have em2 : u.bs.map nT ++ [nT own] = (u.bs ++ [own]).map nT := by
    rw [List.map_append]
    rfl
  simp only [s5', decide_false, wSs_cons, wSs_nil, wS_set, wS_unp, wS_setix, wS_aug, wS_expr, wS_ret, wS_retN, wS_ife, wS_for, wS_while, wS_pass, wS_brk, wS_cont, wE_v, wE_non, wE_bl, wE_int, wE_str, wE_neg, wE_op, wE_cmp, wE_chain, wE_and, wE_or, wE_not, wE_ite, wE_ix, wE_tup, wE_lst, wE_dnew, wE_call, wE_bi, wE_isi, wE_me, wE_lc0, wE_dc, wE_sset, wE_frz, wEs_nil, wEs_cons, wI_over, wI_rng1, wI_rng2, List.map_cons, List.map_nil, List.length_cons, List.length_nil, List.cons_append, List.nil_append, lk_0, lk_s, st_0, st_s, ix_0, ix_1, ix_2, Op2.o, Cm.o, BI.o, ME.o, ME.rv, is_o, eq_int, cmp_int, overT, nop_cmp, nop_chain, nop_and, nop_or, nop_not, nop_call, nop_bi, nop_ite, nop_ix, nop_v, nop_int, nop_op, nop_neg, nop_nop, wE_lc_cmp, wE_lc_chain, wE_lc_and, wE_lc_or, wE_lc_not, wE_lc_call, wE_lc_bi, wE_lc_ite, wE_lc_ix, wE_lc_v, List.replicate_succ, List.replicate_zero, Nat.reduceAdd, Nat.reduceSub, oT_s, oT_n, eq_io, eq_oi, is_i, is_n, Bool.xor_true, Bool.xor_false, Bool.false_xor, Bool.true_xor, Bool.not_true, Bool.not_false, mk_t, bodyC_n, bodyC_n1, bodyD_n, add_tt, em2, sset_t, cTuple, seqOf]
  refine ⟨sz (by decide), sz (by (try simp only [List.length_append, List.length_cons, List.length_nil, List.length_map]); omega), by simp; omega, sz (by decide), sz (by decide), ?_⟩
  have g := gu.setbs (b := nset (u.bs ++ [own])) (fun y hy => by
    rcases List.mem_append.mp (mem_nset.mp hy) with z | z
    · exact gu.ok.bin y z
    · rw [List.mem_singleton.mp z]
      exact hown) (nset_nd _)
  exact rtd k7 fun ds' => hQ lo ⟨nset (u.bs ++ [own]), u.ws, u.ls⟩ sn rk ds' g gl ⟨c.okl, g.ok, c.sn, c.rk⟩
end K80
set_option maxRecDepth 100000
set_option maxHeartbeats 2000000
namespace K80
open PySem PySem.Spec L2 TL
theorem flat_encB1 (b : Brc) : flatD 1 (encB b) := by
  cases b with
  | beg s =>
    refine ⟨by simp, fun x hx => ?_⟩
    simp only [List.mem_cons, List.not_mem_nil, or_false] at hx
    rcases hx with e | e
    · rw [e]
      show PyData.strOk _ = true
      decide +kernel
    · rw [e]
      exact trivial
  | uns s =>
    refine ⟨by simp, fun x hx => ?_⟩
    simp only [List.mem_cons, List.not_mem_nil, or_false] at hx
    rcases hx with e | e
    · rw [e]
      show PyData.strOk _ = true
      decide +kernel
    · rw [e]
      exact trivial
  | lit s =>
    refine ⟨by simp, fun x hx => ?_⟩
    simp only [List.mem_cons, List.not_mem_nil, or_false] at hx
    rcases hx with e | e
    · rw [e]
      show PyData.strOk _ = true
      decide +kernel
    · rw [e]
      exact trivial
  | way s t =>
    refine ⟨by simp, fun x hx => ?_⟩
    simp only [List.mem_cons, List.not_mem_nil, or_false] at hx
    rcases hx with e | e | e
    · rw [e]
      show PyData.strOk _ = true
      decide +kernel
    · rw [e]
      exact trivial
    · rw [e]
      exact trivial
  | nxt s t =>
    refine ⟨by simp, fun x hx => ?_⟩
    simp only [List.mem_cons, List.not_mem_nil, or_false] at hx
    rcases hx with e | e | e
    · rw [e]
      show PyData.strOk _ = true
      decide +kernel
    · rw [e]
      exact trivial
    · rw [e]
      exact trivial

def Brc.code : Brc → Nat × Nat × Nat
  | .beg s => (0, s, 0)
  | .uns s => (1, s, 0)
  | .lit s => (2, s, 0)
  | .way s t => (3, s, t)
  | .nxt s t => (4, s, t)
def Brc.un : Nat × Nat × Nat → Brc
  | (0, s, _) => .beg s
  | (1, s, _) => .uns s
  | (2, s, _) => .lit s
  | (3, s, t) => .way s t
  | (_, s, t) => .nxt s t
theorem Brc.un_code (b : Brc) : Brc.un b.code = b := by cases b <;> rfl
instance : DecidableEq Brc := fun a b => if h : a.code = b.code then isTrue (by rw [← Brc.un_code a, h, Brc.un_code]) else isFalse fun e => h (by rw [e])
theorem lc_takesX {C : Nat → TSp} {H : TH} {p : Addr} {m i : Nat} {J : TH → Prop} {ed em : E} {σ : TSt} {K : List T → TH → Prop} {xs : List T} (dj : DJ p J) (hC : C 25 = sp_take) (hm : 0 < m) (hn : xs.length ≤ 1000) (hJ : J H)
    (hd : ∀ x Hx Q, wE C ed (σ.set i (some x)) Hx Q = Q (.ref p) Hx) (he : ∀ x Hx Q, wE C em (σ.set i (some x)) Hx Q = Q (nT m) Hx)
    (hK : ∀ (l : List Nat) (Hy : TH), l.length = xs.length → J Hy → K (l.map nT) Hy) :
    lcGo (fun _ => True) (bodyC (.n i) none (wE C (.call 25 (.cons ed (.cons em .nil)))) σ) xs [] H K := by
  refine lc_inv0 J (fun v : Nat => v < m) nT (fun x _ Hx G hx g => ?_) (sz (by omega)) hJ fun l Hy hl hV hy => hK l Hy hl hy
  rw [bodyC_n]
  simp only [wE_call, wEs_cons, wEs_nil, hd, he, hC]
  exact take_j dj hx hm fun v Hy hv hy => g v Hy hv hy
theorem ix_3 {a b c d : T} {r : List T} {H : TH} {Q : TL.KT} : oIx (.tup (a :: b :: c :: d :: r)) (.int 3) H Q = Q d H := ix_lit (atI_nat (j := 3) rfl)
def spLaw : TSp := fun ts H Q => ∃ ns : List Int, ts = [.scr (ns.map T.int)] ∧ ns.length ≤ 63 ∧ ∀ H', Q (.bl true) H'
def lawTail : Ss := (.cons (.set 4 (.tup (.cons (.tup (.cons (.int 0) .nil)) (.cons (.tup (.cons (.tup (.cons (.int 0) (.cons (.int 1) .nil))) (.cons (.tup (.cons (.int 0) .nil)) .nil))) (.cons (.tup (.cons (.tup (.cons (.int 0) .nil)) (.cons (.tup (.cons (.int 1) .nil)) .nil))) .nil)))))
  (.cons (.set 5 (.tup (.cons (.tup (.cons (.int 0) .nil)) (.cons (.tup (.cons (.tup (.cons (.int 1) .nil)) (.cons (.tup (.cons (.int 0) (.cons (.int 2) .nil))) (.cons (.tup (.cons (.int 3) .nil)) (.cons (.tup (.cons (.int 0) .nil)) .nil))))) (.cons (.tup (.cons (.tup (.cons (.int 0) .nil)) (.cons (.tup (.cons (.int 0) .nil)) (.cons (.tup (.cons (.int 1) .nil)) (.cons (.tup (.cons (.int 1) .nil)) .nil))))) .nil)))))
  (.cons (.ife (.or (.not (.call 37 (.cons (.v 4) (.cons (.v 5) (.cons (.tup (.cons (.int 0) (.cons (.int 0) (.cons (.int 1) (.cons (.int 1) .nil))))) (.cons (.tup (.cons (.int 0) (.cons (.int 0) (.cons (.int 1) (.cons (.int 0) .nil))))) .nil)))))) (.not (.call 26 (.cons (.call 16 (.cons (.v 5) (.cons (.v 4) (.cons (.tup (.cons (.int 0) (.cons (.int 0) (.cons (.int 1) (.cons (.int 1) .nil))))) (.cons (.tup (.cons (.int 0) (.cons (.int 0) (.cons (.int 1) (.cons (.int 0) .nil))))) .nil))))) (.cons (.bl true) .nil))))) (.cons (.ret (.bl false))
  .nil) .nil)
  (.cons (.set 6 (.lst false (.cons (.call 15 (.cons (.v 5) (.cons (.v 4) (.cons (.tup (.cons (.int 0) (.cons (.int 0) (.cons (.int 1) (.cons (.int 1) .nil))))) (.cons (.tup (.cons (.int 0) (.cons (.int 0) (.cons (.int 0) (.cons (.int 0) .nil))))) .nil))))) (.cons (.call 15 (.cons (.v 5) (.cons (.v 4) (.cons (.tup (.cons (.int 0) (.cons (.int 0) (.cons (.int 1) (.cons (.int 0) .nil))))) (.cons (.tup (.cons (.int 0) (.cons (.int 0) (.cons (.int 0) (.cons (.int 0) .nil))))) .nil))))) .nil))))
  (.cons (.expr (.me .append (.v 6) (.cons (.call 15 (.cons (.v 5) (.cons (.v 4) (.cons (.tup (.cons (.int 1) (.cons (.int 0) (.cons (.int 1) (.cons (.int 1) .nil))))) (.cons (.tup (.cons (.int 0) (.cons (.int 0) (.cons (.int 1) (.cons (.int 0) .nil))))) .nil))))) .nil)))
  (.cons (.ife (.or (.not (.call 26 (.cons (.bi .tuple (.cons (.v 6) .nil)) (.cons (.tup (.cons (.tup (.cons (.str "way") (.cons (.int 2) (.cons (.int 3) .nil)))) (.cons (.tup (.cons (.str "lights") (.cons (.int 3) .nil))) (.cons (.tup (.cons (.str "begin") (.cons (.int 0) .nil))) .nil)))) .nil)))) (.not (.call 26 (.cons (.call 23 (.cons (.v 5) (.cons (.v 4) (.cons (.tup (.cons (.int 0) (.cons (.int 0) (.cons (.int 1) (.cons (.int 1) .nil))))) .nil)))) (.cons (.tup (.cons (.int 0) (.cons (.int 0) (.cons (.int 1) (.cons (.int 0) .nil))))) .nil))))) (.cons (.ret (.bl false))
  .nil) .nil)
  (.cons (.set 7 (.tup (.cons (.tup (.cons (.int 0) .nil)) (.cons (.tup (.cons (.tup (.cons (.int 1) .nil)) (.cons (.tup (.cons (.int 0) .nil)) .nil))) (.cons (.tup (.cons (.tup (.cons (.int 0) .nil)) (.cons (.tup (.cons (.int 0) .nil)) .nil))) .nil)))))
  (.cons (.ife (.or (.not (.call 26 (.cons (.call 15 (.cons (.v 7) (.cons (.v 4) (.cons (.tup (.cons (.int 0) (.cons (.int 0) .nil))) (.cons (.tup (.cons (.int 0) (.cons (.int 0) .nil))) .nil))))) (.cons (.tup (.cons (.str "next") (.cons (.int 0) (.cons (.int 1) .nil)))) .nil)))) (.not (.call 26 (.cons (.call 18 (.cons (.v 7) (.cons (.v 4) (.cons (.tup (.cons (.int 0) (.cons (.int 0) .nil))) (.cons (.tup (.cons (.int 0) (.cons (.int 0) .nil))) .nil))))) (.cons (.bl true) .nil))))) (.cons (.ret (.bl false))
  .nil) .nil)
  (.cons (.ret (.call 26 (.cons (.call 15 (.cons (.v 7) (.cons (.tup (.cons (.tup (.cons (.int 0) (.cons (.int 1) .nil))) (.cons (.ix (.v 4) (.int 1)) (.cons (.ix (.v 4) (.int 2)) .nil)))) (.cons (.tup (.cons (.int 0) (.cons (.int 0) .nil))) (.cons (.tup (.cons (.int 0) (.cons (.int 0) .nil))) .nil))))) (.cons (.tup (.cons (.str "unseen") (.cons (.int 1) .nil))) .nil))))
  .nil)))))))))
theorem oN_tup (l : List Nat) : (T.tup (l.map nT)) = oTs (oN l) := by
  show _ = T.tup ((oN l).map oT)
  rw [oN_T]
def uE : Wd := ⟨[0], [[0, 1], [0]], [[0], [1]]⟩
def loE : Wd := ⟨[0], [[1], [0, 2], [3], [0]], [[0], [0], [1], [1]]⟩
def onE : Wd := ⟨[0], [[1], [0]], [[0], [0]]⟩
def u2E : Wd := ⟨[0, 1], [[0, 1], [0]], [[0], [1]]⟩
theorem uE_ok : uE.Ok := ⟨by decide, by decide, by decide, by decide, by decide, by decide⟩
theorem loE_ok : loE.Ok := ⟨by decide, by decide, by decide, by decide, by decide, by decide⟩
theorem onE_ok : onE.Ok := ⟨by decide, by decide, by decide, by decide, by decide, by decide⟩
theorem u2E_ok : u2E.Ok := ⟨by decide, by decide, by decide, by decide, by decide, by decide⟩
abbrev sE : List (Option Int) := [some 0, some 0, some 1, some 1]
abbrev rE : List (Option Int) := [some 0, some 0, some 1, some 0]
abbrev zE : List (Option Int) := [some 0, some 0, some 0, some 0]
theorem ev1 : breaches loE uE sE rE = [] := by decide +kernel
theorem headB_of {l : List Brc} {b : Brc} (h : l.head? = some b) : headB l = encB b := by
  cases l with
  | nil => cases h
  | cons a l =>
    cases h
    rfl
theorem ev2 : headB (breaches loE uE sE zE) = encB (.way 2 3) := headB_of (by decide +kernel)
theorem ev3 : headB (breaches loE uE rE zE) = encB (.lit 3) := headB_of (by decide +kernel)
theorem ev4 : headB (breaches loE uE [some 1, some 0, some 1, some 1] rE) = encB (.beg 0) := headB_of (by decide +kernel)
theorem ev5 : lsr loE uE sE = some rE := by decide +kernel
theorem ev6 : headB (breaches onE uE [some 0, some 0] [some 0, some 0]) = encB (.nxt 0 1) := headB_of (by decide +kernel)
theorem ev7 : isWithin onE uE [some 0, some 0] [some 0, some 0] = true := by decide +kernel
theorem ev8 : headB (breaches onE u2E [some 0, some 0] [some 0, some 0]) = encB (.uns 1) := headB_of (by decide +kernel)
theorem w_lawTail {C : Nat → TSp} (h15 : C 15 = sp_first_breach) (h16 : C 16 = sp_judge_in_step) (h18 : C 18 = sp_judge_within_step) (h23 : C 23 = sp_least_step_ranks) (h26 : C 26 = sp_same 2) (h37 : C 37 = sp_law_is_judged)
    (H : TH) (Q : TL.KT) (q : ∀ H', Q (.bl true) H') (x0 x1 x2 x3 x4 x5 x6 x7 x8 x9 x10 x11 x12 x13 x14 x15 x16 x17 x18 : Option T) : wSs C lawTail (bodyEnds Q) [x0, x1, x2, x3, x4, x5, x6, x7, x8, x9, x10, x11, x12, x13, x14, x15, x16, x17, x18] H := by
  have z1 : 1 ≤ sizeLine := sz (by decide)
  have z2 : 2 ≤ sizeLine := sz (by decide)
  have z3 : 3 ≤ sizeLine := sz (by decide)
  have z4 : 4 ≤ sizeLine := sz (by decide)
  simp only [lawTail, wSs_cons, wSs_nil, wS_set, wS_unp, wS_setix, wS_aug, wS_expr, wS_ret, wS_retN, wS_ife, wS_for, wS_while, wS_pass, wS_brk, wS_cont, wE_v, wE_non, wE_bl, wE_int, wE_str, wE_neg, wE_op, wE_cmp, wE_chain, wE_and, wE_or, wE_not, wE_ite, wE_ix, wE_tup, wE_lst, wE_dnew, wE_call, wE_bi, wE_isi, wE_me, wE_lc0, wE_dc, wE_sset, wE_frz, wEs_nil, wEs_cons, wI_over, wI_rng1, wI_rng2, List.map_cons, List.map_nil, List.length_cons, List.length_nil, List.cons_append, List.nil_append, lk_0, lk_s, st_0, st_s, ix_0, ix_1, ix_2, Op2.o, Cm.o, BI.o, ME.o, ME.rv, is_o, eq_int, cmp_int, overT, nop_cmp, nop_chain, nop_and, nop_or, nop_not, nop_call, nop_bi, nop_ite, nop_ix, nop_v, nop_int, nop_op, nop_neg, nop_nop, wE_lc_cmp, wE_lc_chain, wE_lc_and, wE_lc_or, wE_lc_not, wE_lc_call, wE_lc_bi, wE_lc_ite, wE_lc_ix, wE_lc_v, List.replicate_succ, List.replicate_zero, Nat.reduceAdd, Nat.reduceSub, oT_s, oT_n, eq_io, eq_oi, is_i, is_n, Bool.xor_true, Bool.xor_false, Bool.false_xor, Bool.true_xor, Bool.not_true, Bool.not_false, mk_t, bodyC_n, bodyC_n1, bodyD_n, h15, h16, h18, h23, h26, h37, z1, z2, z3, z4, true_and, mk_f, cTuple, seqOf]
  refine ⟨loE, uE, sE, rE, rfl, ⟨loE_ok, uE_ok, rfl, rfl⟩, by decide, ?_⟩
  simp only [Bool.not_true]
  refine ⟨loE, uE, sE, rE, rfl, ⟨loE_ok, uE_ok, rfl, rfl⟩, ?_⟩
  simp only [ev1, decide_true]
  refine ⟨_, rfl, trivial, ?_⟩
  simp only [Bool.not_true]
  refine ⟨loE, uE, sE, zE, rfl, ⟨loE_ok, uE_ok, rfl, rfl⟩, ?_⟩
  refine ⟨loE, uE, rE, zE, rfl, ⟨loE_ok, uE_ok, rfl, rfl⟩, fun p hp => ⟨recv_l up_same, loE, uE, [some 1, some 0, some 1, some 1], rE, rfl, ⟨loE_ok, uE_ok, rfl, rfl⟩, ?_⟩⟩
  refine (append_l up_same).mpr ⟨sz' (by simp), ?_⟩
  simp only [up_up, up_same, ev2, ev3, ev4, List.cons_append, List.nil_append]
  refine ⟨T.tup [encB (.way 2 3), encB (.lit 3), encB (.beg 0)], rfl, ⟨by simp, fun x hx => ?_⟩, ?_⟩
  · simp only [List.mem_cons, List.not_mem_nil, or_false] at hx
    rcases hx with e | e | e
    · rw [e]; exact flat_encB1 _
    · rw [e]; exact flat_encB1 _
    · rw [e]; exact flat_encB1 _
  simp only [Bool.not_true]
  refine ⟨loE, uE, sE, sE, rfl, ⟨loE_ok, uE_ok, rfl, rfl⟩, ?_⟩
  simp only [ev5, oTsO]
  refine ⟨oTs rE, rfl, flat_oTs (by decide), ?_⟩
  simp only [Bool.not_true]
  refine ⟨onE, uE, [some 0, some 0], [some 0, some 0], rfl, ⟨onE_ok, uE_ok, rfl, rfl⟩, ?_⟩
  simp only [ev6]
  refine ⟨encB (.nxt 0 1), rfl, flat_encB _, ?_⟩
  simp only [Bool.not_true]
  refine ⟨onE, uE, [some 0, some 0], [some 0, some 0], rfl, ⟨onE_ok, uE_ok, rfl, rfl⟩, ?_⟩
  simp only [ev7]
  refine ⟨_, rfl, trivial, ?_⟩
  simp only [Bool.not_true]
  refine ⟨onE, u2E, [some 0, some 0], [some 0, some 0], rfl, ⟨onE_ok, u2E_ok, rfl, rfl⟩, ?_⟩
  simp only [ev8]
  exact ⟨encB (.uns 1), rfl, flat_encB _, rtn (q _)⟩
end K80
set_option maxRecDepth 100000
set_option maxHeartbeats 2000000
namespace K80
open PySem PySem.Spec L2 TL
theorem two_add {v : Nat} : (2 : Int) + (v : Int) = ((2 + v : Nat) : Int) := by omega
theorem silent_same {u lo : Wd} {ow rk : List Nat} {fst : Nat → Nat} (c : Chain u lo ow rk fst) {s t : Nat} (hs : s ∈ stt lo) (ht : t ∈ stt lo) {H : TH} {Q : TL.KT}
    (q : ∀ b, Q (.bl b) H) : sp_is_silent_way [encW u, oTs (oN ow), nT s, nT t] H Q := by
  obtain ⟨a, ha, hau⟩ := c.get hs
  obtain ⟨b, hb, _⟩ := c.get ht
  refine ⟨u, oN ow, s, t, a, nx u a, some (b : Int), rfl, ?_, nx_some hau, ?_, q _⟩
  · unfold oN
    rw [List.getElem?_map, ha]
    rfl
  · unfold oN
    rw [List.getElem?_map, hb]
    rfl
theorem w_law {C : Nat → TSp} (h4 : C 4 = sp_is_silent_way) (h15 : C 15 = sp_first_breach) (h16 : C 16 = sp_judge_in_step) (h18 : C 18 = sp_judge_within_step) (h23 : C 23 = sp_least_step_ranks) (h24 : C 24 = sp_draws) (h25 : C 25 = sp_take) (h26 : C 26 = sp_same 2)
    (h27 : C 27 = sp_law_world) (h28 : C 28 = sp_law_come_to) (h29 : C 29 = sp_law_lower) (h32 : C 32 = sp_law_breaches) (h34 : C 34 = sp_is_silent_way) (h36 : C 36 = sp_law_altered) (h37 : C 37 = sp_law_is_judged)
    (ts : List T) (H : TH) (Q : TL.KT) (h : spLaw ts H Q) : wSs C b_law (bodyEnds Q) (start0 n_law ts) H := by
  obtain ⟨ns, rfl, hns, q⟩ := h
  rw [b_law]
  simp only [start0, n_law, wSs_cons, wS_set, wE_call, wEs_cons, wEs_nil, wE_v, wE_int, List.map_cons, List.map_nil, List.length_cons, List.length_nil, List.cons_append, List.nil_append, lk_0, lk_s, st_0, st_s, List.replicate_succ, List.replicate_zero, Nat.reduceAdd, Nat.reduceSub, h24, h25]
  refine ⟨ns, 320, rfl, by omega, by decide, fun p ds hp => ?_⟩
  have hp0 : (up H p (.lst (ds.map .int))) p = some (.lst (ds.map .int)) := up_same
  have k0 : Kp (up H p (.lst (ds.map .int))) p (up H p (.lst (ds.map .int))) := Kp.mk0 hp0
  generalize up H p (.lst (ds.map .int)) = H0 at hp0 k0 ⊢
  refine take_j (m := 3) Kp.dj k0 (by decide) fun many H1 hmany k1 => ?_
  simp only [wS_for, wI_rng1, wE_int, st_0, st_s]
  refine (rng_n (n := 2) (by decide)).mpr ?_
  have tail : ∀ (Hx : TH) (x0 x1 x2 x3 x4 x5 x6 x7 x8 x9 x10 x11 x12 x13 x14 x15 x16 x17 x18 : Option T), wSs C lawTail (bodyEnds Q) [x0, x1, x2, x3, x4, x5, x6, x7, x8, x9, x10, x11, x12, x13, x14, x15, x16, x17, x18] Hx := fun Hx => w_lawTail h15 h16 h18 h23 h26 h37 Hx Q q
  -- the altered ones
  have alt : ∀ (r : List Nat) (lo u : Wd) (sn rk : List (Option Int)) (x0 x2 x3 x6 x7 x8 x9 x10 x11 x12 x15 x16 x17 x18 : Option T) (Hx : TH) (D : TEnds), u.Good → lo.Good → Ctx lo u sn rk → Kp H0 p Hx →
      (∀ x10 x16 Hy, Kp H0 p Hy → D.nx [x0, some (.ref p), x2, x3, some (encW u), some (encW lo), x6, x7, x8, x9, x10, x11, x12, some (oTs sn), some (oTs rk), x15, x16, x17, x18] Hy) →
      forGo (fun _ => True) (loopB C (.n 10) b_law_L1) (r.map nT) D [x0, some (.ref p), x2, x3, some (encW u), some (encW lo), x6, x7, x8, x9, x10, x11, x12, some (oTs sn), some (oTs rk), x15, x16, x17, x18] Hx := by
    intro r
    induction r with
    | nil =>
      intro lo u sn rk x0 x2 x3 x6 x7 x8 x9 x10 x11 x12 x15 x16 x17 x18 Hx D _ _ _ k hn
      simp only [List.map_nil, forGo_nil, true_and]
      exact hn _ _ _ k
    | cons i r ih =>
      intro lo u sn rk x0 x2 x3 x6 x7 x8 x9 x10 x11 x12 x15 x16 x17 x18 Hx D gu gl c k hn
      simp only [List.map_cons, forGo_cons, loopB_n, b_law_L1, wSs_cons, wSs_nil, wS_set, wS_unp, wS_setix, wS_aug, wS_expr, wS_ret, wS_retN, wS_ife, wS_for, wS_while, wS_pass, wS_brk, wS_cont, wE_v, wE_non, wE_bl, wE_int, wE_str, wE_neg, wE_op, wE_cmp, wE_chain, wE_and, wE_or, wE_not, wE_ite, wE_ix, wE_tup, wE_lst, wE_dnew, wE_call, wE_bi, wE_isi, wE_me, wE_lc0, wE_dc, wE_sset, wE_frz, wEs_nil, wEs_cons, wI_over, wI_rng1, wI_rng2, List.map_cons, List.map_nil, List.length_cons, List.length_nil, List.cons_append, List.nil_append, lk_0, lk_s, st_0, st_s, ix_0, ix_1, ix_2, Op2.o, Cm.o, BI.o, ME.o, ME.rv, is_o, eq_int, cmp_int, overT, nop_cmp, nop_chain, nop_and, nop_or, nop_not, nop_call, nop_bi, nop_ite, nop_ix, nop_v, nop_int, nop_op, nop_neg, nop_nop, wE_lc_cmp, wE_lc_chain, wE_lc_and, wE_lc_or, wE_lc_not, wE_lc_call, wE_lc_bi, wE_lc_ite, wE_lc_ix, wE_lc_v, List.replicate_succ, List.replicate_zero, Nat.reduceAdd, Nat.reduceSub, oT_s, oT_n, eq_io, eq_oi, is_i, is_n, Bool.xor_true, Bool.xor_false, Bool.false_xor, Bool.true_xor, Bool.not_true, Bool.not_false, mk_t, bodyC_n, bodyC_n1, bodyD_n, true_and, h36, h37]
      obtain ⟨ds1, e1⟩ := k.ds
      refine ⟨p, ds1, lo, u, sn, rk, rfl, e1, gu, gl, c, fun lo' u' sn' rk' ds' gu' gl' c' => ?_⟩
      simp only [ix_0, ix_1, ix_2, ix_3]
      refine ⟨lo', u', sn', rk', rfl, c', gl'.pos, ?_⟩
      simp only [Bool.not_true]
      exact ih lo u sn rk _ _ _ _ _ _ _ _ _ _ _ _ _ _ _ D gu gl c (Kp.dj.set _ ds' k) hn
  -- the silent ways
  have sil2 : ∀ (r : List Nat) (lo u : Wd) (ow rk : List Nat) (fst : Nat → Nat) (s : Nat) (x0 x2 x3 x6 x7 x8 x10 x11 x12 x14 x15 x16 x17 x18 : Option T) (Hx : TH) (D : TEnds), Chain u lo ow rk fst → s ∈ stt lo → (∀ t ∈ r, t ∈ stt lo) →
      (∀ x15, D.nx [x0, some (.ref p), x2, x3, some (encW u), some (encW lo), x6, x7, x8, some (nT s), x10, x11, x12, some (oTs (oN ow)), x14, x15, x16, x17, x18] Hx) →
      forGo (fun _ => True) (loopB C (.n 15) b_law_L2) (r.map nT) D [x0, some (.ref p), x2, x3, some (encW u), some (encW lo), x6, x7, x8, some (nT s), x10, x11, x12, some (oTs (oN ow)), x14, x15, x16, x17, x18] Hx := by
    intro r
    induction r with
    | nil =>
      intro lo u ow rk fst s x0 x2 x3 x6 x7 x8 x10 x11 x12 x14 x15 x16 x17 x18 Hx D _ _ _ hn
      simp only [List.map_nil, forGo_nil, true_and]
      exact hn _
    | cons t r ih =>
      intro lo u ow rk fst s x0 x2 x3 x6 x7 x8 x10 x11 x12 x14 x15 x16 x17 x18 Hx D c hs hr hn
      have ht := hr t List.mem_cons_self
      obtain ⟨a, ha, hau⟩ := c.get hs
      obtain ⟨b, hb, _⟩ := c.get ht
      have e1 : (oN ow)[s]? = some (some (a : Int)) := by
        unfold oN
        rw [List.getElem?_map, ha]
        rfl
      have e2 : (oN ow)[t]? = some (some (b : Int)) := by
        unfold oN
        rw [List.getElem?_map, hb]
        rfl
      simp only [List.map_cons, forGo_cons, loopB_n, b_law_L2, wSs_cons, wSs_nil, wS_set, wS_unp, wS_setix, wS_aug, wS_expr, wS_ret, wS_retN, wS_ife, wS_for, wS_while, wS_pass, wS_brk, wS_cont, wE_v, wE_non, wE_bl, wE_int, wE_str, wE_neg, wE_op, wE_cmp, wE_chain, wE_and, wE_or, wE_not, wE_ite, wE_ix, wE_tup, wE_lst, wE_dnew, wE_call, wE_bi, wE_isi, wE_me, wE_lc0, wE_dc, wE_sset, wE_frz, wEs_nil, wEs_cons, wI_over, wI_rng1, wI_rng2, List.map_cons, List.map_nil, List.length_cons, List.length_nil, List.cons_append, List.nil_append, lk_0, lk_s, st_0, st_s, ix_0, ix_1, ix_2, Op2.o, Cm.o, BI.o, ME.o, ME.rv, is_o, eq_int, cmp_int, overT, nop_cmp, nop_chain, nop_and, nop_or, nop_not, nop_call, nop_bi, nop_ite, nop_ix, nop_v, nop_int, nop_op, nop_neg, nop_nop, wE_lc_cmp, wE_lc_chain, wE_lc_and, wE_lc_or, wE_lc_not, wE_lc_call, wE_lc_bi, wE_lc_ite, wE_lc_ix, wE_lc_v, List.replicate_succ, List.replicate_zero, Nat.reduceAdd, Nat.reduceSub, oT_s, oT_n, eq_io, eq_oi, is_i, is_n, Bool.xor_true, Bool.xor_false, Bool.false_xor, Bool.true_xor, Bool.not_true, Bool.not_false, mk_t, bodyC_n, bodyC_n1, bodyD_n, true_and, h4, h34, h26]
      refine ⟨u, oN ow, s, t, a, nx u a, some (b : Int), rfl, e1, nx_some hau, e2, u, oN ow, s, t, a, nx u a, some (b : Int), rfl, e1, nx_some hau, e2, _, rfl, trivial, ?_⟩
      simp only [Bool.not_true]
      exact ih lo u ow rk fst s _ _ _ _ _ _ _ _ _ _ _ _ _ _ Hx D c hs (fun a ha => hr a (List.mem_cons_of_mem _ ha)) hn
  have sil3 : ∀ (r : List Nat) (lo u : Wd) (ow rk : List Nat) (fst : Nat → Nat) (x0 x2 x3 x6 x7 x8 x9 x10 x11 x12 x14 x15 x16 x17 x18 : Option T) (Hx : TH) (D : TEnds), lo.Ok → Chain u lo ow rk fst → (∀ t ∈ r, t ∈ stt lo) →
      (∀ x9 x15, D.nx [x0, some (.ref p), x2, x3, some (encW u), some (encW lo), x6, x7, x8, x9, x10, x11, x12, some (oTs (oN ow)), x14, x15, x16, x17, x18] Hx) →
      forGo (fun _ => True) (loopB C (.n 9) b_law_L3) (r.map nT) D [x0, some (.ref p), x2, x3, some (encW u), some (encW lo), x6, x7, x8, x9, x10, x11, x12, some (oTs (oN ow)), x14, x15, x16, x17, x18] Hx := by
    intro r
    induction r with
    | nil =>
      intro lo u ow rk fst x0 x2 x3 x6 x7 x8 x9 x10 x11 x12 x14 x15 x16 x17 x18 Hx D _ _ _ hn
      simp only [List.map_nil, forGo_nil, true_and]
      exact hn _ _
    | cons s r ih =>
      intro lo u ow rk fst x0 x2 x3 x6 x7 x8 x9 x10 x11 x12 x14 x15 x16 x17 x18 Hx D ok c hr hn
      have hs := hr s List.mem_cons_self
      simp only [List.map_cons, forGo_cons, loopB_n, b_law_L3, wSs_cons, wSs_nil, wS_set, wS_unp, wS_setix, wS_aug, wS_expr, wS_ret, wS_retN, wS_ife, wS_for, wS_while, wS_pass, wS_brk, wS_cont, wE_v, wE_non, wE_bl, wE_int, wE_str, wE_neg, wE_op, wE_cmp, wE_chain, wE_and, wE_or, wE_not, wE_ite, wE_ix, wE_tup, wE_lst, wE_dnew, wE_call, wE_bi, wE_isi, wE_me, wE_lc0, wE_dc, wE_sset, wE_frz, wEs_nil, wEs_cons, wI_over, wI_rng1, wI_rng2, List.map_cons, List.map_nil, List.length_cons, List.length_nil, List.cons_append, List.nil_append, lk_0, lk_s, st_0, st_s, ix_0, ix_1, ix_2, Op2.o, Cm.o, BI.o, ME.o, ME.rv, is_o, eq_int, cmp_int, overT, nop_cmp, nop_chain, nop_and, nop_or, nop_not, nop_call, nop_bi, nop_ite, nop_ix, nop_v, nop_int, nop_op, nop_neg, nop_nop, wE_lc_cmp, wE_lc_chain, wE_lc_and, wE_lc_or, wE_lc_not, wE_lc_call, wE_lc_bi, wE_lc_ite, wE_lc_ix, wE_lc_v, List.replicate_succ, List.replicate_zero, Nat.reduceAdd, Nat.reduceSub, oT_s, oT_n, eq_io, eq_oi, is_i, is_n, Bool.xor_true, Bool.xor_false, Bool.false_xor, Bool.true_xor, Bool.not_true, Bool.not_false, mk_t, bodyC_n, bodyC_n1, bodyD_n, true_and, ix_at (nx_some (stt_lt hs))]
      refine sil2 (nx lo s) lo u ow rk fst s _ _ _ _ _ _ _ _ _ _ _ _ _ _ Hx _ c hs (fun t ht => stt_step ok hs ht) fun x15 => ?_
      simp only [wSs_cons, wSs_nil, wS_set, wS_unp, wS_setix, wS_aug, wS_expr, wS_ret, wS_retN, wS_ife, wS_for, wS_while, wS_pass, wS_brk, wS_cont, wE_v, wE_non, wE_bl, wE_int, wE_str, wE_neg, wE_op, wE_cmp, wE_chain, wE_and, wE_or, wE_not, wE_ite, wE_ix, wE_tup, wE_lst, wE_dnew, wE_call, wE_bi, wE_isi, wE_me, wE_lc0, wE_dc, wE_sset, wE_frz, wEs_nil, wEs_cons, wI_over, wI_rng1, wI_rng2, List.map_cons, List.map_nil, List.length_cons, List.length_nil, List.cons_append, List.nil_append, lk_0, lk_s, st_0, st_s, ix_0, ix_1, ix_2, Op2.o, Cm.o, BI.o, ME.o, ME.rv, is_o, eq_int, cmp_int, overT, nop_cmp, nop_chain, nop_and, nop_or, nop_not, nop_call, nop_bi, nop_ite, nop_ix, nop_v, nop_int, nop_op, nop_neg, nop_nop, wE_lc_cmp, wE_lc_chain, wE_lc_and, wE_lc_or, wE_lc_not, wE_lc_call, wE_lc_bi, wE_lc_ite, wE_lc_ix, wE_lc_v, List.replicate_succ, List.replicate_zero, Nat.reduceAdd, Nat.reduceSub, oT_s, oT_n, eq_io, eq_oi, is_i, is_n, Bool.xor_true, Bool.xor_false, Bool.false_xor, Bool.true_xor, Bool.not_true, Bool.not_false, mk_t, bodyC_n, bodyC_n1, bodyD_n]
      exact ih lo u ow rk fst _ _ _ _ _ _ _ _ _ _ _ _ _ _ _ Hx D ok c (fun a ha => hr a (List.mem_cons_of_mem _ ha)) hn
  have turns : ∀ (r : List Nat) (x0 x3 x4 x5 x6 x7 x8 x9 x10 x11 x12 x13 x14 x15 x16 x17 x18 : Option T) (Hx : TH) (D : TEnds), (∀ t ∈ r, t < 2) → Kp H0 p Hx →
      (∀ Hy x0 x1 x2 x3 x4 x5 x6 x7 x8 x9 x10 x11 x12 x13 x14 x15 x16 x17 x18, D.nx [x0, x1, x2, x3, x4, x5, x6, x7, x8, x9, x10, x11, x12, x13, x14, x15, x16, x17, x18] Hy) →
      forGo (fun _ => True) (loopB C (.n 3) b_law_L4) (r.map nT) D [x0, some (.ref p), some (nT many), x3, x4, x5, x6, x7, x8, x9, x10, x11, x12, x13, x14, x15, x16, x17, x18] Hx := by
    intro r
    induction r with
    | nil =>
      intro x0 x3 x4 x5 x6 x7 x8 x9 x10 x11 x12 x13 x14 x15 x16 x17 x18 Hx D _ k hn
      simp only [List.map_nil, forGo_nil, true_and]
      exact hn ..
    | cons turn r ih =>
      intro x0 x3 x4 x5 x6 x7 x8 x9 x10 x11 x12 x13 x14 x15 x16 x17 x18 Hx D hr k hn
      have htu := hr turn List.mem_cons_self
      simp only [List.map_cons, forGo_cons, loopB_n, b_law_L4, wSs_cons, wSs_nil, wS_set, wS_unp, wS_setix, wS_aug, wS_expr, wS_ret, wS_retN, wS_ife, wS_for, wS_while, wS_pass, wS_brk, wS_cont, wE_v, wE_non, wE_bl, wE_int, wE_str, wE_neg, wE_op, wE_cmp, wE_chain, wE_and, wE_or, wE_not, wE_ite, wE_ix, wE_tup, wE_lst, wE_dnew, wE_call, wE_bi, wE_isi, wE_me, wE_lc0, wE_dc, wE_sset, wE_frz, wEs_nil, wEs_cons, wI_over, wI_rng1, wI_rng2, List.map_cons, List.map_nil, List.length_cons, List.length_nil, List.cons_append, List.nil_append, lk_0, lk_s, st_0, st_s, ix_0, ix_1, ix_2, Op2.o, Cm.o, BI.o, ME.o, ME.rv, is_o, eq_int, cmp_int, overT, nop_cmp, nop_chain, nop_and, nop_or, nop_not, nop_call, nop_bi, nop_ite, nop_ix, nop_v, nop_int, nop_op, nop_neg, nop_nop, wE_lc_cmp, wE_lc_chain, wE_lc_and, wE_lc_or, wE_lc_not, wE_lc_call, wE_lc_bi, wE_lc_ite, wE_lc_ix, wE_lc_v, List.replicate_succ, List.replicate_zero, Nat.reduceAdd, Nat.reduceSub, oT_s, oT_n, eq_io, eq_oi, is_i, is_n, Bool.xor_true, Bool.xor_false, Bool.false_xor, Bool.true_xor, Bool.not_true, Bool.not_false, mk_t, bodyC_n, bodyC_n1, bodyD_n, true_and, h25, h27, h29, h32, h37, h28, len_map]
      refine take_j (m := 4) Kp.dj k (by decide) fun v Ha hv ka => ?_
      simp only [add_ii, one_add, two_add]
      obtain ⟨da, ea⟩ := ka.ds
      refine ⟨p, da, 1 + v, many, 2 + turn, rfl, ea, by omega, by omega, by omega, by omega, by omega, fun u da' gu hu => ?_⟩
      have kb := Kp.dj.set _ da' ka
      obtain ⟨db, eb⟩ := kb.ds
      refine ⟨p, db, u, 3, rfl, eb, gu, by decide, by decide, by omega, fun lo ow rk fst dc gl c => ?_⟩
      have kc := Kp.dj.set _ dc kb
      simp only [Tg.put, putAll, wSs_cons, wSs_nil, wS_set, wS_unp, wS_setix, wS_aug, wS_expr, wS_ret, wS_retN, wS_ife, wS_for, wS_while, wS_pass, wS_brk, wS_cont, wE_v, wE_non, wE_bl, wE_int, wE_str, wE_neg, wE_op, wE_cmp, wE_chain, wE_and, wE_or, wE_not, wE_ite, wE_ix, wE_tup, wE_lst, wE_dnew, wE_call, wE_bi, wE_isi, wE_me, wE_lc0, wE_dc, wE_sset, wE_frz, wEs_nil, wEs_cons, wI_over, wI_rng1, wI_rng2, List.map_cons, List.map_nil, List.length_cons, List.length_nil, List.cons_append, List.nil_append, lk_0, lk_s, st_0, st_s, ix_0, ix_1, ix_2, Op2.o, Cm.o, BI.o, ME.o, ME.rv, is_o, eq_int, cmp_int, overT, nop_cmp, nop_chain, nop_and, nop_or, nop_not, nop_call, nop_bi, nop_ite, nop_ix, nop_v, nop_int, nop_op, nop_neg, nop_nop, wE_lc_cmp, wE_lc_chain, wE_lc_and, wE_lc_or, wE_lc_not, wE_lc_call, wE_lc_bi, wE_lc_ite, wE_lc_ix, wE_lc_v, List.replicate_succ, List.replicate_zero, Nat.reduceAdd, Nat.reduceSub, oT_s, oT_n, eq_io, eq_oi, is_i, is_n, Bool.xor_true, Bool.xor_false, Bool.false_xor, Bool.true_xor, Bool.not_true, Bool.not_false, mk_t, bodyC_n, bodyC_n1, bodyD_n]
      have hrk := c.rl
      have how := c.len
      have hsm := gl.ok.small
      refine lc_map (α := Nat) (enc := nT) (f := fun r => nT (r + 1)) trivial (fun r hr G gg => ?_) (sz (by omega)) ?_
      · simp only [wSs_cons, wSs_nil, wS_set, wS_unp, wS_setix, wS_aug, wS_expr, wS_ret, wS_retN, wS_ife, wS_for, wS_while, wS_pass, wS_brk, wS_cont, wE_v, wE_non, wE_bl, wE_int, wE_str, wE_neg, wE_op, wE_cmp, wE_chain, wE_and, wE_or, wE_not, wE_ite, wE_ix, wE_tup, wE_lst, wE_dnew, wE_call, wE_bi, wE_isi, wE_me, wE_lc0, wE_dc, wE_sset, wE_frz, wEs_nil, wEs_cons, wI_over, wI_rng1, wI_rng2, List.map_cons, List.map_nil, List.length_cons, List.length_nil, List.cons_append, List.nil_append, lk_0, lk_s, st_0, st_s, ix_0, ix_1, ix_2, Op2.o, Cm.o, BI.o, ME.o, ME.rv, is_o, eq_int, cmp_int, overT, nop_cmp, nop_chain, nop_and, nop_or, nop_not, nop_call, nop_bi, nop_ite, nop_ix, nop_v, nop_int, nop_op, nop_neg, nop_nop, wE_lc_cmp, wE_lc_chain, wE_lc_and, wE_lc_or, wE_lc_not, wE_lc_call, wE_lc_bi, wE_lc_ite, wE_lc_ix, wE_lc_v, List.replicate_succ, List.replicate_zero, Nat.reduceAdd, Nat.reduceSub, oT_s, oT_n, eq_io, eq_oi, is_i, is_n, Bool.xor_true, Bool.xor_false, Bool.false_xor, Bool.true_xor, Bool.not_true, Bool.not_false, mk_t, bodyC_n, bodyC_n1, bodyD_n, add_ii]
        exact gg
      have em : rk.map (fun r => nT (r + 1)) = (rk.map fun r => r + 1).map nT := by
        rw [List.map_map]
        rfl
      rw [em]
      simp only [mk_t, wSs_cons, wSs_nil, wS_set, wS_unp, wS_setix, wS_aug, wS_expr, wS_ret, wS_retN, wS_ife, wS_for, wS_while, wS_pass, wS_brk, wS_cont, wE_v, wE_non, wE_bl, wE_int, wE_str, wE_neg, wE_op, wE_cmp, wE_chain, wE_and, wE_or, wE_not, wE_ite, wE_ix, wE_tup, wE_lst, wE_dnew, wE_call, wE_bi, wE_isi, wE_me, wE_lc0, wE_dc, wE_sset, wE_frz, wEs_nil, wEs_cons, wI_over, wI_rng1, wI_rng2, List.map_cons, List.map_nil, List.length_cons, List.length_nil, List.cons_append, List.nil_append, lk_0, lk_s, st_0, st_s, ix_0, ix_1, ix_2, Op2.o, Cm.o, BI.o, ME.o, ME.rv, is_o, eq_int, cmp_int, overT, nop_cmp, nop_chain, nop_and, nop_or, nop_not, nop_call, nop_bi, nop_ite, nop_ix, nop_v, nop_int, nop_op, nop_neg, nop_nop, wE_lc_cmp, wE_lc_chain, wE_lc_and, wE_lc_or, wE_lc_not, wE_lc_call, wE_lc_bi, wE_lc_ite, wE_lc_ix, wE_lc_v, List.replicate_succ, List.replicate_zero, Nat.reduceAdd, Nat.reduceSub, oT_s, oT_n, eq_io, eq_oi, is_i, is_n, Bool.xor_true, Bool.xor_false, Bool.false_xor, Bool.true_xor, Bool.not_true, Bool.not_false, mk_t, bodyC_n, bodyC_n1, bodyD_n, cTuple, seqOf, oN_tup]
      have cx := c.ctx gl.ok gu.ok
      have cx2 := c.up.ctx gl.ok gu.ok
      refine ⟨lo, u, oN ow, oN rk, oTs (oN rk), rfl, cx, IxR.tup, ?_⟩
      simp only [gt0, c.good gl.ok gu.ok, decide_true, Bool.not_true]
      refine ⟨lo, u, oN ow, oN rk, rfl, cx, gl.pos, ?_⟩
      simp only [Bool.not_true]
      refine ⟨lo, u, oN ow, oN (rk.map fun r => r + 1), rfl, cx2, gl.pos, ?_⟩
      simp only [Bool.not_true]
      refine ⟨lo, congrArg (fun x => [encW lo, x]) (oN_tup lo.bs).symm, gl.ok, ?_⟩
      refine sil3 (stt lo) lo u ow rk fst _ _ _ _ _ _ _ _ _ _ _ _ _ _ _ _ _ gl.ok c (fun t ht => ht) fun x9 x15 => ?_
      simp only [wSs_cons, wS_for, wI_rng1, wE_int]
      refine (rng_n (n := 5) (by decide)).mpr ?_
      refine alt (List.range 5) lo u (oN ow) (oN rk) _ _ _ _ _ _ _ _ _ _ _ _ _ _ _ _ gu gl cx kc fun x10 x16 Hd kd => ?_
      simp only [wSs_cons, wSs_nil, wS_set, wS_unp, wS_setix, wS_aug, wS_expr, wS_ret, wS_retN, wS_ife, wS_for, wS_while, wS_pass, wS_brk, wS_cont, wE_v, wE_non, wE_bl, wE_int, wE_str, wE_neg, wE_op, wE_cmp, wE_chain, wE_and, wE_or, wE_not, wE_ite, wE_ix, wE_tup, wE_lst, wE_dnew, wE_call, wE_bi, wE_isi, wE_me, wE_lc0, wE_dc, wE_sset, wE_frz, wEs_nil, wEs_cons, wI_over, wI_rng1, wI_rng2, List.map_cons, List.map_nil, List.length_cons, List.length_nil, List.cons_append, List.nil_append, lk_0, lk_s, st_0, st_s, ix_0, ix_1, ix_2, Op2.o, Cm.o, BI.o, ME.o, ME.rv, is_o, eq_int, cmp_int, overT, nop_cmp, nop_chain, nop_and, nop_or, nop_not, nop_call, nop_bi, nop_ite, nop_ix, nop_v, nop_int, nop_op, nop_neg, nop_nop, wE_lc_cmp, wE_lc_chain, wE_lc_and, wE_lc_or, wE_lc_not, wE_lc_call, wE_lc_bi, wE_lc_ite, wE_lc_ix, wE_lc_v, List.replicate_succ, List.replicate_zero, Nat.reduceAdd, Nat.reduceSub, oT_s, oT_n, eq_io, eq_oi, is_i, is_n, Bool.xor_true, Bool.xor_false, Bool.false_xor, Bool.true_xor, Bool.not_true, Bool.not_false, mk_t, bodyC_n, bodyC_n1, bodyD_n, h25, h27, h37, len_map]
      refine take_j (m := 4) Kp.dj kd (by decide) fun v2 He hv2 ke => ?_
      simp only [add_ii, one_add]
      obtain ⟨de, ee⟩ := ke.ds
      refine ⟨p, de, 1 + v2, many, 2, rfl, ee, by omega, by omega, by omega, by decide, by decide, fun ot df go ho => ?_⟩
      have kf := Kp.dj.set _ df ke
      have hup := gu.pos
      simp only [wSs_cons, wSs_nil, wS_set, wS_unp, wS_setix, wS_aug, wS_expr, wS_ret, wS_retN, wS_ife, wS_for, wS_while, wS_pass, wS_brk, wS_cont, wE_v, wE_non, wE_bl, wE_int, wE_str, wE_neg, wE_op, wE_cmp, wE_chain, wE_and, wE_or, wE_not, wE_ite, wE_ix, wE_tup, wE_lst, wE_dnew, wE_call, wE_bi, wE_isi, wE_me, wE_lc0, wE_dc, wE_sset, wE_frz, wEs_nil, wEs_cons, wI_over, wI_rng1, wI_rng2, List.map_cons, List.map_nil, List.length_cons, List.length_nil, List.cons_append, List.nil_append, lk_0, lk_s, st_0, st_s, ix_0, ix_1, ix_2, Op2.o, Cm.o, BI.o, ME.o, ME.rv, is_o, eq_int, cmp_int, overT, nop_cmp, nop_chain, nop_and, nop_or, nop_not, nop_call, nop_bi, nop_ite, nop_ix, nop_v, nop_int, nop_op, nop_neg, nop_nop, wE_lc_cmp, wE_lc_chain, wE_lc_and, wE_lc_or, wE_lc_not, wE_lc_call, wE_lc_bi, wE_lc_ite, wE_lc_ix, wE_lc_v, List.replicate_succ, List.replicate_zero, Nat.reduceAdd, Nat.reduceSub, oT_s, oT_n, eq_io, eq_oi, is_i, is_n, Bool.xor_true, Bool.xor_false, Bool.false_xor, Bool.true_xor, Bool.not_true, Bool.not_false, mk_t, bodyC_n, bodyC_n1, bodyD_n]
      refine lc_takesX Kp.dj h25 hup (by rw [List.length_map]; omega) kf (fun x Hx Q => by simp only [wSs_cons, wSs_nil, wS_set, wS_unp, wS_setix, wS_aug, wS_expr, wS_ret, wS_retN, wS_ife, wS_for, wS_while, wS_pass, wS_brk, wS_cont, wE_v, wE_non, wE_bl, wE_int, wE_str, wE_neg, wE_op, wE_cmp, wE_chain, wE_and, wE_or, wE_not, wE_ite, wE_ix, wE_tup, wE_lst, wE_dnew, wE_call, wE_bi, wE_isi, wE_me, wE_lc0, wE_dc, wE_sset, wE_frz, wEs_nil, wEs_cons, wI_over, wI_rng1, wI_rng2, List.map_cons, List.map_nil, List.length_cons, List.length_nil, List.cons_append, List.nil_append, lk_0, lk_s, st_0, st_s, ix_0, ix_1, ix_2, Op2.o, Cm.o, BI.o, ME.o, ME.rv, is_o, eq_int, cmp_int, overT, nop_cmp, nop_chain, nop_and, nop_or, nop_not, nop_call, nop_bi, nop_ite, nop_ix, nop_v, nop_int, nop_op, nop_neg, nop_nop, wE_lc_cmp, wE_lc_chain, wE_lc_and, wE_lc_or, wE_lc_not, wE_lc_call, wE_lc_bi, wE_lc_ite, wE_lc_ix, wE_lc_v, List.replicate_succ, List.replicate_zero, Nat.reduceAdd, Nat.reduceSub, oT_s, oT_n, eq_io, eq_oi, is_i, is_n, Bool.xor_true, Bool.xor_false, Bool.false_xor, Bool.true_xor, Bool.not_true, Bool.not_false, mk_t, bodyC_n, bodyC_n1, bodyD_n]) (fun x Hx Q => by simp only [wSs_cons, wSs_nil, wS_set, wS_unp, wS_setix, wS_aug, wS_expr, wS_ret, wS_retN, wS_ife, wS_for, wS_while, wS_pass, wS_brk, wS_cont, wE_v, wE_non, wE_bl, wE_int, wE_str, wE_neg, wE_op, wE_cmp, wE_chain, wE_and, wE_or, wE_not, wE_ite, wE_ix, wE_tup, wE_lst, wE_dnew, wE_call, wE_bi, wE_isi, wE_me, wE_lc0, wE_dc, wE_sset, wE_frz, wEs_nil, wEs_cons, wI_over, wI_rng1, wI_rng2, List.map_cons, List.map_nil, List.length_cons, List.length_nil, List.cons_append, List.nil_append, lk_0, lk_s, st_0, st_s, ix_0, ix_1, ix_2, Op2.o, Cm.o, BI.o, ME.o, ME.rv, is_o, eq_int, cmp_int, overT, nop_cmp, nop_chain, nop_and, nop_or, nop_not, nop_call, nop_bi, nop_ite, nop_ix, nop_v, nop_int, nop_op, nop_neg, nop_nop, wE_lc_cmp, wE_lc_chain, wE_lc_and, wE_lc_or, wE_lc_not, wE_lc_call, wE_lc_bi, wE_lc_ite, wE_lc_ix, wE_lc_v, List.replicate_succ, List.replicate_zero, Nat.reduceAdd, Nat.reduceSub, oT_s, oT_n, eq_io, eq_oi, is_i, is_n, Bool.xor_true, Bool.xor_false, Bool.false_xor, Bool.true_xor, Bool.not_true, Bool.not_false, mk_t, bodyC_n, bodyC_n1, bodyD_n, len_map]) fun ml Hg hml kg => ?_
      simp only [mk_t, wSs_cons, wSs_nil, wS_set, wS_unp, wS_setix, wS_aug, wS_expr, wS_ret, wS_retN, wS_ife, wS_for, wS_while, wS_pass, wS_brk, wS_cont, wE_v, wE_non, wE_bl, wE_int, wE_str, wE_neg, wE_op, wE_cmp, wE_chain, wE_and, wE_or, wE_not, wE_ite, wE_ix, wE_tup, wE_lst, wE_dnew, wE_call, wE_bi, wE_isi, wE_me, wE_lc0, wE_dc, wE_sset, wE_frz, wEs_nil, wEs_cons, wI_over, wI_rng1, wI_rng2, List.map_cons, List.map_nil, List.length_cons, List.length_nil, List.cons_append, List.nil_append, lk_0, lk_s, st_0, st_s, ix_0, ix_1, ix_2, Op2.o, Cm.o, BI.o, ME.o, ME.rv, is_o, eq_int, cmp_int, overT, nop_cmp, nop_chain, nop_and, nop_or, nop_not, nop_call, nop_bi, nop_ite, nop_ix, nop_v, nop_int, nop_op, nop_neg, nop_nop, wE_lc_cmp, wE_lc_chain, wE_lc_and, wE_lc_or, wE_lc_not, wE_lc_call, wE_lc_bi, wE_lc_ite, wE_lc_ix, wE_lc_v, List.replicate_succ, List.replicate_zero, Nat.reduceAdd, Nat.reduceSub, oT_s, oT_n, eq_io, eq_oi, is_i, is_n, Bool.xor_true, Bool.xor_false, Bool.false_xor, Bool.true_xor, Bool.not_true, Bool.not_false, mk_t, bodyC_n, bodyC_n1, bodyD_n, cTuple, seqOf]
      refine lc_takesX (m := 3) Kp.dj h25 (by decide) (by rw [List.length_map]; omega) kg (fun x Hx Q => by simp only [wSs_cons, wSs_nil, wS_set, wS_unp, wS_setix, wS_aug, wS_expr, wS_ret, wS_retN, wS_ife, wS_for, wS_while, wS_pass, wS_brk, wS_cont, wE_v, wE_non, wE_bl, wE_int, wE_str, wE_neg, wE_op, wE_cmp, wE_chain, wE_and, wE_or, wE_not, wE_ite, wE_ix, wE_tup, wE_lst, wE_dnew, wE_call, wE_bi, wE_isi, wE_me, wE_lc0, wE_dc, wE_sset, wE_frz, wEs_nil, wEs_cons, wI_over, wI_rng1, wI_rng2, List.map_cons, List.map_nil, List.length_cons, List.length_nil, List.cons_append, List.nil_append, lk_0, lk_s, st_0, st_s, ix_0, ix_1, ix_2, Op2.o, Cm.o, BI.o, ME.o, ME.rv, is_o, eq_int, cmp_int, overT, nop_cmp, nop_chain, nop_and, nop_or, nop_not, nop_call, nop_bi, nop_ite, nop_ix, nop_v, nop_int, nop_op, nop_neg, nop_nop, wE_lc_cmp, wE_lc_chain, wE_lc_and, wE_lc_or, wE_lc_not, wE_lc_call, wE_lc_bi, wE_lc_ite, wE_lc_ix, wE_lc_v, List.replicate_succ, List.replicate_zero, Nat.reduceAdd, Nat.reduceSub, oT_s, oT_n, eq_io, eq_oi, is_i, is_n, Bool.xor_true, Bool.xor_false, Bool.false_xor, Bool.true_xor, Bool.not_true, Bool.not_false, mk_t, bodyC_n, bodyC_n1, bodyD_n]) (fun x Hx Q => rfl) fun rl Hh hrl kh => ?_
      simp only [mk_t, wSs_cons, wSs_nil, wS_set, wS_unp, wS_setix, wS_aug, wS_expr, wS_ret, wS_retN, wS_ife, wS_for, wS_while, wS_pass, wS_brk, wS_cont, wE_v, wE_non, wE_bl, wE_int, wE_str, wE_neg, wE_op, wE_cmp, wE_chain, wE_and, wE_or, wE_not, wE_ite, wE_ix, wE_tup, wE_lst, wE_dnew, wE_call, wE_bi, wE_isi, wE_me, wE_lc0, wE_dc, wE_sset, wE_frz, wEs_nil, wEs_cons, wI_over, wI_rng1, wI_rng2, List.map_cons, List.map_nil, List.length_cons, List.length_nil, List.cons_append, List.nil_append, lk_0, lk_s, st_0, st_s, ix_0, ix_1, ix_2, Op2.o, Cm.o, BI.o, ME.o, ME.rv, is_o, eq_int, cmp_int, overT, nop_cmp, nop_chain, nop_and, nop_or, nop_not, nop_call, nop_bi, nop_ite, nop_ix, nop_v, nop_int, nop_op, nop_neg, nop_nop, wE_lc_cmp, wE_lc_chain, wE_lc_and, wE_lc_or, wE_lc_not, wE_lc_call, wE_lc_bi, wE_lc_ite, wE_lc_ix, wE_lc_v, List.replicate_succ, List.replicate_zero, Nat.reduceAdd, Nat.reduceSub, oT_s, oT_n, eq_io, eq_oi, is_i, is_n, Bool.xor_true, Bool.xor_false, Bool.false_xor, Bool.true_xor, Bool.not_true, Bool.not_false, mk_t, bodyC_n, bodyC_n1, bodyD_n, cTuple, seqOf, oN_tup]
      rw [List.length_map] at hml hrl
      refine ⟨ot, u, oN ml, oN rl, rfl, ⟨go.ok, gu.ok, by unfold oN; rw [List.length_map, hml], by unfold oN; rw [List.length_map, hrl]⟩, go.pos, ?_⟩
      simp only [Bool.not_true]
      exact ih _ _ _ _ _ _ _ _ _ _ _ _ _ _ _ _ _ _ D (fun t ht => hr t (List.mem_cons_of_mem _ ht)) kh hn
  exact turns (List.range 2) _ _ _ _ _ _ _ _ _ _ _ _ _ _ _ _ _ _ _ (fun t ht => List.mem_range.mp ht) k1 fun Hy x0 x1 x2 x3 x4 x5 x6 x7 x8 x9 x10 x11 x12 x13 x14 x15 x16 x17 x18 => tail Hy x0 x1 x2 x3 x4 x5 x6 x7 x8 x9 x10 x11 x12 x13 x14 x15 x16 x17 x18
end K80
set_option maxRecDepth 100000
namespace K80
open PySem PySem.Spec L2 TL
/-! ### the program's top -/
/-- the def stands there as the text says -/
structure DefIn (K : PySem.W.Frag) (x : Str) (st : Stmt) : Prop where
  ex : ∃ (f : Addr) (od an : Option Addr) (sl : Array (Option Value)) (oc kV dc pm cd ct : Value), PySem.W.nsIn K mainGlobals x = some (some (.ref f)) ∧
    K.lookup f = some ⟨oc, od, .func (PySem.W.fnOf x x (defArgs st) (defBody st) (defScope st) .none kV dc pm an cd ct), sl⟩ ∧ PySem.W.codeIn K cd x = true ∧ PySem.W.keepIn K (.ref f) = true
theorem DefIn.of {K : PySem.W.Frag} {x : Str} {st : Stmt} {f : Addr} {od an : Option Addr} {sl : Array (Option Value)} {oc kV dc pm cd ct : Value} (a : PySem.W.nsIn K mainGlobals x = some (some (.ref f)))
    (l : K.lookup f = some ⟨oc, od, .func (PySem.W.fnOf x x (defArgs st) (defBody st) (defScope st) .none kV dc pm an cd ct), sl⟩) (c : PySem.W.codeIn K cd x = true) (k : PySem.W.keepIn K (.ref f) = true) : DefIn K x st := ⟨f, od, an, sl, oc, kV, dc, pm, cd, ct, a, l, c, k⟩
theorem def_in {P : Program} {w : World} {K : PySem.W.Frag} {h : Heap} {mg : Str → Option Value} {base : Heap} {x : Str} {st : Stmt} {N ps Fs : List Str} {L : Nat} {sp : TSp} {C : Nat → TSp} (b : Ss)
    (X : K.In h) (G : h.Ns mainGlobals mg) (D : DefIn K x st) (bd : ∀ f fd, Fun K x x st f fd → Binds K fd ps []) (S : FnScope N ps (defScope st)) (T : Top K mg)
    (hc : ∀ i y, Fs[i]? = some y → DefAt P w K mg base L y (C i)) (ok : okSs ⟨N, Fs⟩ (defScope st) b (defBody st) = true) (len : ∀ ts H Q, sp ts H Q → ts.length = ps.length) (hw : ∀ ts H Q, sp ts H Q → wSs C b (bodyEnds Q) (start0 N ts) H) :
    DefAt P w K mg base (L + 1) x sp := by
  obtain ⟨f, od, an, sl, oc, kV, dc, pm, cd, ct, hn, lk, hcd, hk⟩ := D.ex
  have F := fun_mk lk hcd hk
  exact def_ok b F S T (PySem.W.mg_of X G hn) (bd _ _ F) hc ok len hw
/-- a def promises nothing where nothing is asked -/
theorem def_no {P : Program} {w : World} {K : PySem.W.Frag} {h : Heap} {mg : Str → Option Value} {base : Heap} {x : Str} {st : Stmt} {N ps : List Str} {L : Nat}
    (X : K.In h) (G : h.Ns mainGlobals mg) (D : DefIn K x st) (bd : ∀ f fd, Fun K x x st f fd → Binds K fd ps []) (S : FnScope N ps (defScope st)) : DefAt P w K mg base (L + 1) x fun _ _ _ => False := by
  obtain ⟨f, od, an, sl, oc, kV, dc, pm, cd, ct, hn, lk, hcd, hk⟩ := D.ex
  have F := fun_mk lk hcd hk
  exact ⟨L + 1, f, _, ps, Nat.le_refl _, F.ok S (fun vs H Q E q => by
    obtain ⟨_, _, _, _, _, _, q, _⟩ := q
    exact q.elim) (fun _ _ _ _ _ _ _ _ _ q => by
    obtain ⟨_, _, _, _, _, _, q, _⟩ := q
    exact q.elim), PySem.W.mg_of X G hn, F.kp, bd _ _ F⟩
structure AllIn (K : PySem.W.Frag) : Prop where
  d0 : DefIn K (Str.ofString "states_come_to") s_states_come_to
  d1 : DefIn K (Str.ofString "rows_gone_on") s_rows_gone_on
  d2 : DefIn K (Str.ofString "shortest_way") s_shortest_way
  d3 : DefIn K (Str.ofString "is_seen_there") s_is_seen_there
  d4 : DefIn K (Str.ofString "is_silent_way") s_is_silent_way
  d5 : DefIn K (Str.ofString "does_begin_see") s_does_begin_see
  d6 : DefIn K (Str.ofString "are_lights_seen") s_are_lights_seen
  d7 : DefIn K (Str.ofString "is_way_seen") s_is_way_seen
  d8 : DefIn K (Str.ofString "states_seeing") s_states_seeing
  d9 : DefIn K (Str.ofString "states_by_seen") s_states_by_seen
  d10 : DefIn K (Str.ofString "does_next_come") s_does_next_come
  d11 : DefIn K (Str.ofString "wrong_begins") s_wrong_begins
  d12 : DefIn K (Str.ofString "wrong_ways") s_wrong_ways
  d13 : DefIn K (Str.ofString "wrong_next") s_wrong_next
  d14 : DefIn K (Str.ofString "breaches_within") s_breaches_within
  d15 : DefIn K (Str.ofString "first_breach") s_first_breach
  d16 : DefIn K (Str.ofString "judge_in_step") s_judge_in_step
  d17 : DefIn K (Str.ofString "lower_begins_see") s_lower_begins_see
  d18 : DefIn K (Str.ofString "judge_within_step") s_judge_within_step
  d19 : DefIn K (Str.ofString "at_states_come_to") s_at_states_come_to
  d20 : DefIn K (Str.ofString "silent_ways_from") s_silent_ways_from
  d21 : DefIn K (Str.ofString "rank_by_silent") s_rank_by_silent
  d22 : DefIn K (Str.ofString "longest_silent_rows") s_longest_silent_rows
  d23 : DefIn K (Str.ofString "least_step_ranks") s_least_step_ranks
  d24 : DefIn K (Str.ofString "_law_draws") s__law_draws
  d25 : DefIn K (Str.ofString "_law_take") s__law_take
  d26 : DefIn K (Str.ofString "_law_same") s__law_same
  d27 : DefIn K (Str.ofString "_law_world") s__law_world
  d28 : DefIn K (Str.ofString "_law_come_to") s__law_come_to
  d29 : DefIn K (Str.ofString "_law_lower") s__law_lower
  d30 : DefIn K (Str.ofString "_law_sees") s__law_sees
  d31 : DefIn K (Str.ofString "_law_comes") s__law_comes
  d32 : DefIn K (Str.ofString "_law_breaches") s__law_breaches
  d33 : DefIn K (Str.ofString "_law_is_within") s__law_is_within
  d34 : DefIn K (Str.ofString "_law_silent") s__law_silent
  d35 : DefIn K (Str.ofString "_law_step_ranks") s__law_step_ranks
  d36 : DefIn K (Str.ofString "_law_altered") s__law_altered
  d37 : DefIn K (Str.ofString "_law_is_judged") s__law_is_judged
  d38 : DefIn K (Str.ofString "law") s_law
  z : ∀ x ∈ bltNames, PySem.W.nsIn K mainGlobals x = some none
end K80
set_option maxRecDepth 100000
namespace K80
open PySem PySem.Spec L2 TL
def CC : Nat → TSp
  | 0 => sp_states_come_to
  | 1 => sp_rows_gone_on
  | 2 => sp_shortest_way
  | 3 => sp_is_seen_there
  | 4 => sp_is_silent_way
  | 5 => sp_does_begin_see
  | 6 => sp_are_lights_seen
  | 7 => sp_is_way_seen
  | 8 => sp_states_seeing
  | 9 => sp_states_by_seen
  | 10 => sp_does_next_come
  | 11 => sp_wrong_begins
  | 12 => sp_wrong_ways
  | 13 => sp_wrong_next
  | 14 => sp_breaches_within
  | 15 => sp_first_breach
  | 16 => sp_judge_in_step
  | 17 => sp_lower_begins_see
  | 18 => sp_judge_within_step
  | 19 => sp_at_states_come_to
  | 20 => sp_silent_ways_from
  | 21 => sp_rank_by_silent
  | 22 => sp_longest_silent_rows
  | 23 => sp_least_step_ranks
  | 24 => sp_draws
  | 25 => sp_take
  | 26 => sp_same 2
  | 27 => sp_law_world
  | 28 => sp_law_come_to
  | 29 => sp_law_lower
  | 30 => sp_states_seeing
  | 31 => sp_law_comes
  | 32 => sp_law_breaches
  | 33 => sp_judge_within_step
  | 34 => sp_is_silent_way
  | 35 => sp_law_step_ranks
  | 36 => sp_law_altered
  | 37 => sp_law_is_judged
  | _ => fun _ _ _ => False
def CS (d : Nat) : Nat → TSp := fun k => if k = 26 then sp_same d else CC k
theorem kk_states_come_to : okSs ⟨n_states_come_to, fNames.take 0⟩ (defScope s_states_come_to) b_states_come_to (defBody s_states_come_to) = true := by decide +kernel
theorem bd_states_come_to {K : PySem.W.Frag} {f : Addr} {fd : FuncData} (F : Fun K (Str.ofString "states_come_to") (Str.ofString "states_come_to") s_states_come_to f fd) : Binds K fd p_states_come_to [] := F.binds fun _ _ _ _ _ _ us hl => match us, hl with
  | [_], _ => rfl
theorem kk_rows_gone_on : okSs ⟨n_rows_gone_on, fNames.take 1⟩ (defScope s_rows_gone_on) b_rows_gone_on (defBody s_rows_gone_on) = true := by decide +kernel
theorem bd_rows_gone_on {K : PySem.W.Frag} {f : Addr} {fd : FuncData} (F : Fun K (Str.ofString "rows_gone_on") (Str.ofString "rows_gone_on") s_rows_gone_on f fd) : Binds K fd p_rows_gone_on [] := F.binds fun _ _ _ _ _ _ us hl => match us, hl with
  | [_, _, _, _], _ => rfl
theorem kk_shortest_way : okSs ⟨n_shortest_way, fNames.take 2⟩ (defScope s_shortest_way) b_shortest_way (defBody s_shortest_way) = true := by decide +kernel
theorem bd_shortest_way {K : PySem.W.Frag} {f : Addr} {fd : FuncData} (F : Fun K (Str.ofString "shortest_way") (Str.ofString "shortest_way") s_shortest_way f fd) : Binds K fd p_shortest_way [] := F.binds fun _ _ _ _ _ _ us hl => match us, hl with
  | [_, _, _, _], _ => rfl
theorem kk_is_seen_there : okSs ⟨n_is_seen_there, fNames.take 3⟩ (defScope s_is_seen_there) b_is_seen_there (defBody s_is_seen_there) = true := by decide +kernel
theorem bd_is_seen_there {K : PySem.W.Frag} {f : Addr} {fd : FuncData} (F : Fun K (Str.ofString "is_seen_there") (Str.ofString "is_seen_there") s_is_seen_there f fd) : Binds K fd p_is_seen_there [] := F.binds fun _ _ _ _ _ _ us hl => match us, hl with
  | [_, _], _ => rfl
theorem kk_is_silent_way : okSs ⟨n_is_silent_way, fNames.take 4⟩ (defScope s_is_silent_way) b_is_silent_way (defBody s_is_silent_way) = true := by decide +kernel
theorem bd_is_silent_way {K : PySem.W.Frag} {f : Addr} {fd : FuncData} (F : Fun K (Str.ofString "is_silent_way") (Str.ofString "is_silent_way") s_is_silent_way f fd) : Binds K fd p_is_silent_way [] := F.binds fun _ _ _ _ _ _ us hl => match us, hl with
  | [_, _, _, _], _ => rfl
theorem kk_does_begin_see : okSs ⟨n_does_begin_see, fNames.take 5⟩ (defScope s_does_begin_see) b_does_begin_see (defBody s_does_begin_see) = true := by decide +kernel
theorem bd_does_begin_see {K : PySem.W.Frag} {f : Addr} {fd : FuncData} (F : Fun K (Str.ofString "does_begin_see") (Str.ofString "does_begin_see") s_does_begin_see f fd) : Binds K fd p_does_begin_see [] := F.binds fun _ _ _ _ _ _ us hl => match us, hl with
  | [_, _, _], _ => rfl
theorem kk_are_lights_seen : okSs ⟨n_are_lights_seen, fNames.take 6⟩ (defScope s_are_lights_seen) b_are_lights_seen (defBody s_are_lights_seen) = true := by decide +kernel
theorem bd_are_lights_seen {K : PySem.W.Frag} {f : Addr} {fd : FuncData} (F : Fun K (Str.ofString "are_lights_seen") (Str.ofString "are_lights_seen") s_are_lights_seen f fd) : Binds K fd p_are_lights_seen [] := F.binds fun _ _ _ _ _ _ us hl => match us, hl with
  | [_, _, _, _, _], _ => rfl
theorem kk_is_way_seen : okSs ⟨n_is_way_seen, fNames.take 7⟩ (defScope s_is_way_seen) b_is_way_seen (defBody s_is_way_seen) = true := by decide +kernel
theorem bd_is_way_seen {K : PySem.W.Frag} {f : Addr} {fd : FuncData} (F : Fun K (Str.ofString "is_way_seen") (Str.ofString "is_way_seen") s_is_way_seen f fd) : Binds K fd p_is_way_seen [] := F.binds fun _ _ _ _ _ _ us hl => match us, hl with
  | [_, _, _, _, _], _ => rfl
theorem kk_states_seeing : okSs ⟨n_states_seeing, fNames.take 8⟩ (defScope s_states_seeing) b_states_seeing (defBody s_states_seeing) = true := by decide +kernel
theorem bd_states_seeing {K : PySem.W.Frag} {f : Addr} {fd : FuncData} (F : Fun K (Str.ofString "states_seeing") (Str.ofString "states_seeing") s_states_seeing f fd) : Binds K fd p_states_seeing [] := F.binds fun _ _ _ _ _ _ us hl => match us, hl with
  | [_, _, _], _ => rfl
theorem kk_states_by_seen : okSs ⟨n_states_by_seen, fNames.take 9⟩ (defScope s_states_by_seen) b_states_by_seen (defBody s_states_by_seen) = true := by decide +kernel
theorem bd_states_by_seen {K : PySem.W.Frag} {f : Addr} {fd : FuncData} (F : Fun K (Str.ofString "states_by_seen") (Str.ofString "states_by_seen") s_states_by_seen f fd) : Binds K fd p_states_by_seen [] := F.binds fun _ _ _ _ _ _ us hl => match us, hl with
  | [_, _], _ => rfl
theorem kk_does_next_come : okSs ⟨n_does_next_come, fNames.take 10⟩ (defScope s_does_next_come) b_does_next_come (defBody s_does_next_come) = true := by decide +kernel
theorem bd_does_next_come {K : PySem.W.Frag} {f : Addr} {fd : FuncData} (F : Fun K (Str.ofString "does_next_come") (Str.ofString "does_next_come") s_does_next_come f fd) : Binds K fd p_does_next_come [] := F.binds fun _ _ _ _ _ _ us hl => match us, hl with
  | [_, _, _, _, _], _ => rfl
theorem kk_wrong_begins : okSs ⟨n_wrong_begins, fNames.take 11⟩ (defScope s_wrong_begins) b_wrong_begins (defBody s_wrong_begins) = true := by decide +kernel
theorem bd_wrong_begins {K : PySem.W.Frag} {f : Addr} {fd : FuncData} (F : Fun K (Str.ofString "wrong_begins") (Str.ofString "wrong_begins") s_wrong_begins f fd) : Binds K fd p_wrong_begins [] := F.binds fun _ _ _ _ _ _ us hl => match us, hl with
  | [_, _, _], _ => rfl
theorem kk_wrong_ways : okSs ⟨n_wrong_ways, fNames.take 12⟩ (defScope s_wrong_ways) b_wrong_ways (defBody s_wrong_ways) = true := by decide +kernel
theorem bd_wrong_ways {K : PySem.W.Frag} {f : Addr} {fd : FuncData} (F : Fun K (Str.ofString "wrong_ways") (Str.ofString "wrong_ways") s_wrong_ways f fd) : Binds K fd p_wrong_ways [] := F.binds fun _ _ _ _ _ _ us hl => match us, hl with
  | [_, _, _, _, _], _ => rfl
theorem kk_wrong_next : okSs ⟨n_wrong_next, fNames.take 13⟩ (defScope s_wrong_next) b_wrong_next (defBody s_wrong_next) = true := by decide +kernel
theorem bd_wrong_next {K : PySem.W.Frag} {f : Addr} {fd : FuncData} (F : Fun K (Str.ofString "wrong_next") (Str.ofString "wrong_next") s_wrong_next f fd) : Binds K fd p_wrong_next [] := F.binds fun _ _ _ _ _ _ us hl => match us, hl with
  | [_, _, _, _], _ => rfl
theorem kk_breaches_within : okSs ⟨n_breaches_within, fNames.take 14⟩ (defScope s_breaches_within) b_breaches_within (defBody s_breaches_within) = true := by decide +kernel
theorem bd_breaches_within {K : PySem.W.Frag} {f : Addr} {fd : FuncData} (F : Fun K (Str.ofString "breaches_within") (Str.ofString "breaches_within") s_breaches_within f fd) : Binds K fd p_breaches_within [] := F.binds fun _ _ _ _ _ _ us hl => match us, hl with
  | [_, _, _, _], _ => rfl
theorem kk_first_breach : okSs ⟨n_first_breach, fNames.take 15⟩ (defScope s_first_breach) b_first_breach (defBody s_first_breach) = true := by decide +kernel
theorem bd_first_breach {K : PySem.W.Frag} {f : Addr} {fd : FuncData} (F : Fun K (Str.ofString "first_breach") (Str.ofString "first_breach") s_first_breach f fd) : Binds K fd p_first_breach [] := F.binds fun _ _ _ _ _ _ us hl => match us, hl with
  | [_, _, _, _], _ => rfl
theorem kk_judge_in_step : okSs ⟨n_judge_in_step, fNames.take 16⟩ (defScope s_judge_in_step) b_judge_in_step (defBody s_judge_in_step) = true := by decide +kernel
theorem bd_judge_in_step {K : PySem.W.Frag} {f : Addr} {fd : FuncData} (F : Fun K (Str.ofString "judge_in_step") (Str.ofString "judge_in_step") s_judge_in_step f fd) : Binds K fd p_judge_in_step [] := F.binds fun _ _ _ _ _ _ us hl => match us, hl with
  | [_, _, _, _], _ => rfl
theorem kk_lower_begins_see : okSs ⟨n_lower_begins_see, fNames.take 17⟩ (defScope s_lower_begins_see) b_lower_begins_see (defBody s_lower_begins_see) = true := by decide +kernel
theorem bd_lower_begins_see {K : PySem.W.Frag} {f : Addr} {fd : FuncData} (F : Fun K (Str.ofString "lower_begins_see") (Str.ofString "lower_begins_see") s_lower_begins_see f fd) : Binds K fd p_lower_begins_see [] := F.binds fun _ _ _ _ _ _ us hl => match us, hl with
  | [_, _, _], _ => rfl
theorem kk_judge_within_step : okSs ⟨n_judge_within_step, fNames.take 18⟩ (defScope s_judge_within_step) b_judge_within_step (defBody s_judge_within_step) = true := by decide +kernel
theorem bd_judge_within_step {K : PySem.W.Frag} {f : Addr} {fd : FuncData} (F : Fun K (Str.ofString "judge_within_step") (Str.ofString "judge_within_step") s_judge_within_step f fd) : Binds K fd p_judge_within_step [] := F.binds fun _ _ _ _ _ _ us hl => match us, hl with
  | [_, _, _, _], _ => rfl
theorem kk_at_states_come_to : okSs ⟨n_at_states_come_to, fNames.take 19⟩ (defScope s_at_states_come_to) b_at_states_come_to (defBody s_at_states_come_to) = true := by decide +kernel
theorem bd_at_states_come_to {K : PySem.W.Frag} {f : Addr} {fd : FuncData} (F : Fun K (Str.ofString "at_states_come_to") (Str.ofString "at_states_come_to") s_at_states_come_to f fd) : Binds K fd p_at_states_come_to [] := F.binds fun _ _ _ _ _ _ us hl => match us, hl with
  | [_, _], _ => rfl
theorem kk_silent_ways_from : okSs ⟨n_silent_ways_from, fNames.take 20⟩ (defScope s_silent_ways_from) b_silent_ways_from (defBody s_silent_ways_from) = true := by decide +kernel
theorem bd_silent_ways_from {K : PySem.W.Frag} {f : Addr} {fd : FuncData} (F : Fun K (Str.ofString "silent_ways_from") (Str.ofString "silent_ways_from") s_silent_ways_from f fd) : Binds K fd p_silent_ways_from [] := F.binds fun _ _ _ _ _ _ us hl => match us, hl with
  | [_, _, _, _], _ => rfl
theorem kk_rank_by_silent : okSs ⟨n_rank_by_silent, fNames.take 21⟩ (defScope s_rank_by_silent) b_rank_by_silent (defBody s_rank_by_silent) = true := by decide +kernel
theorem bd_rank_by_silent {K : PySem.W.Frag} {f : Addr} {fd : FuncData} (F : Fun K (Str.ofString "rank_by_silent") (Str.ofString "rank_by_silent") s_rank_by_silent f fd) : Binds K fd p_rank_by_silent [] := F.binds fun _ _ _ _ _ _ us hl => match us, hl with
  | [_, _], _ => rfl
theorem kk_longest_silent_rows : okSs ⟨n_longest_silent_rows, fNames.take 22⟩ (defScope s_longest_silent_rows) b_longest_silent_rows (defBody s_longest_silent_rows) = true := by decide +kernel
theorem bd_longest_silent_rows {K : PySem.W.Frag} {f : Addr} {fd : FuncData} (F : Fun K (Str.ofString "longest_silent_rows") (Str.ofString "longest_silent_rows") s_longest_silent_rows f fd) : Binds K fd p_longest_silent_rows [] := F.binds fun _ _ _ _ _ _ us hl => match us, hl with
  | [_, _, _, _], _ => rfl
theorem kk_least_step_ranks : okSs ⟨n_least_step_ranks, fNames.take 23⟩ (defScope s_least_step_ranks) b_least_step_ranks (defBody s_least_step_ranks) = true := by decide +kernel
theorem bd_least_step_ranks {K : PySem.W.Frag} {f : Addr} {fd : FuncData} (F : Fun K (Str.ofString "least_step_ranks") (Str.ofString "least_step_ranks") s_least_step_ranks f fd) : Binds K fd p_least_step_ranks [] := F.binds fun _ _ _ _ _ _ us hl => match us, hl with
  | [_, _, _], _ => rfl
theorem kk__law_draws : okSs ⟨n__law_draws, fNames.take 24⟩ (defScope s__law_draws) b__law_draws (defBody s__law_draws) = true := by decide +kernel
theorem bd__law_draws {K : PySem.W.Frag} {f : Addr} {fd : FuncData} (F : Fun K (Str.ofString "_law_draws") (Str.ofString "_law_draws") s__law_draws f fd) : Binds K fd p__law_draws [] := F.binds fun _ _ _ _ _ _ us hl => match us, hl with
  | [_, _], _ => rfl
theorem kk__law_take : okSs ⟨n__law_take, fNames.take 25⟩ (defScope s__law_take) b__law_take (defBody s__law_take) = true := by decide +kernel
theorem bd__law_take {K : PySem.W.Frag} {f : Addr} {fd : FuncData} (F : Fun K (Str.ofString "_law_take") (Str.ofString "_law_take") s__law_take f fd) : Binds K fd p__law_take [] := F.binds fun _ _ _ _ _ _ us hl => match us, hl with
  | [_, _], _ => rfl
theorem kk__law_same : okSs ⟨n__law_same, fNames.take 27⟩ (defScope s__law_same) b__law_same (defBody s__law_same) = true := by decide +kernel
theorem bd__law_same {K : PySem.W.Frag} {f : Addr} {fd : FuncData} (F : Fun K (Str.ofString "_law_same") (Str.ofString "_law_same") s__law_same f fd) : Binds K fd p__law_same [] := F.binds fun _ _ _ _ _ _ us hl => match us, hl with
  | [_, _], _ => rfl
theorem kk__law_world : okSs ⟨n__law_world, fNames.take 27⟩ (defScope s__law_world) b__law_world (defBody s__law_world) = true := by decide +kernel
theorem bd__law_world {K : PySem.W.Frag} {f : Addr} {fd : FuncData} (F : Fun K (Str.ofString "_law_world") (Str.ofString "_law_world") s__law_world f fd) : Binds K fd p__law_world [] := F.binds fun _ _ _ _ _ _ us hl => match us, hl with
  | [_, _, _, _], _ => rfl
theorem kk__law_come_to : okSs ⟨n__law_come_to, fNames.take 28⟩ (defScope s__law_come_to) b__law_come_to (defBody s__law_come_to) = true := by decide +kernel
theorem bd__law_come_to {K : PySem.W.Frag} {f : Addr} {fd : FuncData} (F : Fun K (Str.ofString "_law_come_to") (Str.ofString "_law_come_to") s__law_come_to f fd) : Binds K fd p__law_come_to [] := F.binds fun _ _ _ _ _ _ us hl => match us, hl with
  | [_, _], _ => rfl
theorem kk__law_lower : okSs ⟨n__law_lower, fNames.take 29⟩ (defScope s__law_lower) b__law_lower (defBody s__law_lower) = true := by decide +kernel
theorem bd__law_lower {K : PySem.W.Frag} {f : Addr} {fd : FuncData} (F : Fun K (Str.ofString "_law_lower") (Str.ofString "_law_lower") s__law_lower f fd) : Binds K fd p__law_lower [] := F.binds fun _ _ _ _ _ _ us hl => match us, hl with
  | [_, _, _], _ => rfl
theorem kk__law_sees : okSs ⟨n__law_sees, fNames.take 30⟩ (defScope s__law_sees) b__law_sees (defBody s__law_sees) = true := by decide +kernel
theorem bd__law_sees {K : PySem.W.Frag} {f : Addr} {fd : FuncData} (F : Fun K (Str.ofString "_law_sees") (Str.ofString "_law_sees") s__law_sees f fd) : Binds K fd p__law_sees [] := F.binds fun _ _ _ _ _ _ us hl => match us, hl with
  | [_, _, _], _ => rfl
theorem kk__law_comes : okSs ⟨n__law_comes, fNames.take 31⟩ (defScope s__law_comes) b__law_comes (defBody s__law_comes) = true := by decide +kernel
theorem bd__law_comes {K : PySem.W.Frag} {f : Addr} {fd : FuncData} (F : Fun K (Str.ofString "_law_comes") (Str.ofString "_law_comes") s__law_comes f fd) : Binds K fd p__law_comes [] := F.binds fun _ _ _ _ _ _ us hl => match us, hl with
  | [_, _, _, _, _], _ => rfl
theorem kk__law_breaches : okSs ⟨n__law_breaches, fNames.take 32⟩ (defScope s__law_breaches) b__law_breaches (defBody s__law_breaches) = true := by decide +kernel
theorem bd__law_breaches {K : PySem.W.Frag} {f : Addr} {fd : FuncData} (F : Fun K (Str.ofString "_law_breaches") (Str.ofString "_law_breaches") s__law_breaches f fd) : Binds K fd p__law_breaches [] := F.binds fun _ _ _ _ _ _ us hl => match us, hl with
  | [_, _, _, _], _ => rfl
theorem kk__law_is_within : okSs ⟨n__law_is_within, fNames.take 33⟩ (defScope s__law_is_within) b__law_is_within (defBody s__law_is_within) = true := by decide +kernel
theorem bd__law_is_within {K : PySem.W.Frag} {f : Addr} {fd : FuncData} (F : Fun K (Str.ofString "_law_is_within") (Str.ofString "_law_is_within") s__law_is_within f fd) : Binds K fd p__law_is_within [] := F.binds fun _ _ _ _ _ _ us hl => match us, hl with
  | [_, _, _, _], _ => rfl
theorem kk__law_silent : okSs ⟨n__law_silent, fNames.take 34⟩ (defScope s__law_silent) b__law_silent (defBody s__law_silent) = true := by decide +kernel
theorem bd__law_silent {K : PySem.W.Frag} {f : Addr} {fd : FuncData} (F : Fun K (Str.ofString "_law_silent") (Str.ofString "_law_silent") s__law_silent f fd) : Binds K fd p__law_silent [] := F.binds fun _ _ _ _ _ _ us hl => match us, hl with
  | [_, _, _, _], _ => rfl
theorem kk__law_step_ranks : okSs ⟨n__law_step_ranks, fNames.take 35⟩ (defScope s__law_step_ranks) b__law_step_ranks (defBody s__law_step_ranks) = true := by decide +kernel
theorem bd__law_step_ranks {K : PySem.W.Frag} {f : Addr} {fd : FuncData} (F : Fun K (Str.ofString "_law_step_ranks") (Str.ofString "_law_step_ranks") s__law_step_ranks f fd) : Binds K fd p__law_step_ranks [] := F.binds fun _ _ _ _ _ _ us hl => match us, hl with
  | [_, _, _], _ => rfl
theorem kk__law_altered : okSs ⟨n__law_altered, fNames.take 36⟩ (defScope s__law_altered) b__law_altered (defBody s__law_altered) = true := by decide +kernel
theorem bd__law_altered {K : PySem.W.Frag} {f : Addr} {fd : FuncData} (F : Fun K (Str.ofString "_law_altered") (Str.ofString "_law_altered") s__law_altered f fd) : Binds K fd p__law_altered [] := F.binds fun _ _ _ _ _ _ us hl => match us, hl with
  | [_, _, _, _, _], _ => rfl
theorem kk__law_is_judged : okSs ⟨n__law_is_judged, fNames.take 37⟩ (defScope s__law_is_judged) b__law_is_judged (defBody s__law_is_judged) = true := by decide +kernel
theorem bd__law_is_judged {K : PySem.W.Frag} {f : Addr} {fd : FuncData} (F : Fun K (Str.ofString "_law_is_judged") (Str.ofString "_law_is_judged") s__law_is_judged f fd) : Binds K fd p__law_is_judged [] := F.binds fun _ _ _ _ _ _ us hl => match us, hl with
  | [_, _, _, _], _ => rfl
theorem kk_law : okSs ⟨n_law, fNames.take 38⟩ (defScope s_law) b_law (defBody s_law) = true := by decide +kernel
theorem bd_law {K : PySem.W.Frag} {f : Addr} {fd : FuncData} (F : Fun K (Str.ofString "law") (Str.ofString "law") s_law f fd) : Binds K fd p_law [] := F.binds fun _ _ _ _ _ _ us hl => match us, hl with
  | [_], _ => rfl
section
variable {P : Program} {w : World} {K : PySem.W.Frag} {h : Heap} {mg : Str → Option Value} {base : Heap}
def Env (P : Program) (w : World) (K : PySem.W.Frag) (mg : Str → Option Value) (base : Heap) (j L : Nat) (C : Nat → TSp) : Prop := ∀ i y, (fNames.take j)[i]? = some y → DefAt P w K mg base L y (C i)
theorem at_states_come_to (X : K.In h) (G : h.Ns mainGlobals mg) (A : AllIn K) (T : Top K mg) {L : Nat} (e : Env P w K mg base 0 L CC) : DefAt P w K mg base (L + 1) (Str.ofString "states_come_to") (sp_states_come_to) :=
  def_in (C := CC) b_states_come_to X G A.d0 (fun _ _ F => bd_states_come_to F) c_states_come_to T e kk_states_come_to (fun ts H Q h => by
      repeat obtain ⟨_, h⟩ := h
      subst_vars
      rfl) fun ts H Q h => w_states_come_to ts H Q h
theorem at_rows_gone_on (X : K.In h) (G : h.Ns mainGlobals mg) (A : AllIn K) (T : Top K mg) {L : Nat} (e : Env P w K mg base 1 L CC) : DefAt P w K mg base (L + 1) (Str.ofString "rows_gone_on") (sp_rows_gone_on) :=
  def_in (C := CC) b_rows_gone_on X G A.d1 (fun _ _ F => bd_rows_gone_on F) c_rows_gone_on T e kk_rows_gone_on (fun ts H Q h => by
      repeat obtain ⟨_, h⟩ := h
      subst_vars
      rfl) fun ts H Q h => w_rows_gone_on ts H Q h
theorem at_shortest_way (X : K.In h) (G : h.Ns mainGlobals mg) (A : AllIn K) (T : Top K mg) {L : Nat} (e : Env P w K mg base 2 L CC) : DefAt P w K mg base (L + 1) (Str.ofString "shortest_way") (sp_shortest_way) :=
  def_in (C := CC) b_shortest_way X G A.d2 (fun _ _ F => bd_shortest_way F) c_shortest_way T e kk_shortest_way (fun ts H Q h => by
      repeat obtain ⟨_, h⟩ := h
      subst_vars
      rfl) fun ts H Q h => w_shortest_way rfl ts H Q h
theorem at_is_seen_there (X : K.In h) (G : h.Ns mainGlobals mg) (A : AllIn K) (T : Top K mg) {L : Nat} (e : Env P w K mg base 3 L CC) : DefAt P w K mg base (L + 1) (Str.ofString "is_seen_there") (sp_is_seen_there) :=
  def_in (C := CC) b_is_seen_there X G A.d3 (fun _ _ F => bd_is_seen_there F) c_is_seen_there T e kk_is_seen_there (fun ts H Q h => by
      repeat obtain ⟨_, h⟩ := h
      subst_vars
      rfl) fun ts H Q h => w_is_seen_there ts H Q h
theorem at_is_silent_way (X : K.In h) (G : h.Ns mainGlobals mg) (A : AllIn K) (T : Top K mg) {L : Nat} (e : Env P w K mg base 4 L CC) : DefAt P w K mg base (L + 1) (Str.ofString "is_silent_way") (sp_is_silent_way) :=
  def_in (C := CC) b_is_silent_way X G A.d4 (fun _ _ F => bd_is_silent_way F) c_is_silent_way T e kk_is_silent_way (fun ts H Q h => by
      repeat obtain ⟨_, h⟩ := h
      subst_vars
      rfl) fun ts H Q h => w_is_silent_way ts H Q h
theorem at_does_begin_see (X : K.In h) (G : h.Ns mainGlobals mg) (A : AllIn K) (T : Top K mg) {L : Nat} (e : Env P w K mg base 5 L CC) : DefAt P w K mg base (L + 1) (Str.ofString "does_begin_see") (sp_does_begin_see) :=
  def_in (C := CC) b_does_begin_see X G A.d5 (fun _ _ F => bd_does_begin_see F) c_does_begin_see T e kk_does_begin_see (fun ts H Q h => by
      repeat obtain ⟨_, h⟩ := h
      subst_vars
      rfl) fun ts H Q h => w_does_begin_see ts H Q h
theorem at_are_lights_seen (X : K.In h) (G : h.Ns mainGlobals mg) (A : AllIn K) (T : Top K mg) {L : Nat} (e : Env P w K mg base 6 L CC) : DefAt P w K mg base (L + 1) (Str.ofString "are_lights_seen") (sp_are_lights_seen) :=
  def_in (C := CC) b_are_lights_seen X G A.d6 (fun _ _ F => bd_are_lights_seen F) c_are_lights_seen T e kk_are_lights_seen (fun ts H Q h => by
      repeat obtain ⟨_, h⟩ := h
      subst_vars
      rfl) fun ts H Q h => w_are_lights_seen rfl ts H Q h
theorem at_is_way_seen (X : K.In h) (G : h.Ns mainGlobals mg) (A : AllIn K) (T : Top K mg) {L : Nat} (e : Env P w K mg base 7 L CC) : DefAt P w K mg base (L + 1) (Str.ofString "is_way_seen") (sp_is_way_seen) :=
  def_in (C := CC) b_is_way_seen X G A.d7 (fun _ _ F => bd_is_way_seen F) c_is_way_seen T e kk_is_way_seen (fun ts H Q h => by
      repeat obtain ⟨_, h⟩ := h
      subst_vars
      rfl) fun ts H Q h => w_is_way_seen ts H Q h
theorem at_states_seeing (X : K.In h) (G : h.Ns mainGlobals mg) (A : AllIn K) (T : Top K mg) {L : Nat} (e : Env P w K mg base 8 L CC) : DefAt P w K mg base (L + 1) (Str.ofString "states_seeing") (sp_states_seeing) :=
  def_in (C := CC) b_states_seeing X G A.d8 (fun _ _ F => bd_states_seeing F) c_states_seeing T e kk_states_seeing (fun ts H Q h => by
      repeat obtain ⟨_, h⟩ := h
      subst_vars
      rfl) fun ts H Q h => w_states_seeing ts H Q h
theorem at_states_by_seen (X : K.In h) (G : h.Ns mainGlobals mg) (A : AllIn K) (T : Top K mg) {L : Nat} (e : Env P w K mg base 9 L CC) : DefAt P w K mg base (L + 1) (Str.ofString "states_by_seen") (sp_states_by_seen) :=
  def_in (C := CC) b_states_by_seen X G A.d9 (fun _ _ F => bd_states_by_seen F) c_states_by_seen T e kk_states_by_seen (fun ts H Q h => by
      repeat obtain ⟨_, h⟩ := h
      subst_vars
      rfl) fun ts H Q h => w_states_by_seen ts H Q h
theorem at_does_next_come (X : K.In h) (G : h.Ns mainGlobals mg) (A : AllIn K) (T : Top K mg) {L : Nat} (e : Env P w K mg base 10 L CC) : DefAt P w K mg base (L + 1) (Str.ofString "does_next_come") (sp_does_next_come) :=
  def_in (C := CC) b_does_next_come X G A.d10 (fun _ _ F => bd_does_next_come F) c_does_next_come T e kk_does_next_come (fun ts H Q h => by
      repeat obtain ⟨_, h⟩ := h
      subst_vars
      rfl) fun ts H Q h => w_does_next_come rfl ts H Q h
theorem at_wrong_begins (X : K.In h) (G : h.Ns mainGlobals mg) (A : AllIn K) (T : Top K mg) {L : Nat} (e : Env P w K mg base 11 L CC) : DefAt P w K mg base (L + 1) (Str.ofString "wrong_begins") (sp_wrong_begins) :=
  def_in (C := CC) b_wrong_begins X G A.d11 (fun _ _ F => bd_wrong_begins F) c_wrong_begins T e kk_wrong_begins (fun ts H Q h => by
      repeat obtain ⟨_, h⟩ := h
      subst_vars
      rfl) fun ts H Q h => w_wrong_begins rfl rfl ts H Q h
theorem at_wrong_ways (X : K.In h) (G : h.Ns mainGlobals mg) (A : AllIn K) (T : Top K mg) {L : Nat} (e : Env P w K mg base 12 L CC) : DefAt P w K mg base (L + 1) (Str.ofString "wrong_ways") (sp_wrong_ways) :=
  def_in (C := CC) b_wrong_ways X G A.d12 (fun _ _ F => bd_wrong_ways F) c_wrong_ways T e kk_wrong_ways (fun ts H Q h => by
      repeat obtain ⟨_, h⟩ := h
      subst_vars
      rfl) fun ts H Q h => w_wrong_ways rfl ts H Q h
theorem at_wrong_next (X : K.In h) (G : h.Ns mainGlobals mg) (A : AllIn K) (T : Top K mg) {L : Nat} (e : Env P w K mg base 13 L CC) : DefAt P w K mg base (L + 1) (Str.ofString "wrong_next") (sp_wrong_next) :=
  def_in (C := CC) b_wrong_next X G A.d13 (fun _ _ F => bd_wrong_next F) c_wrong_next T e kk_wrong_next (fun ts H Q h => by
      repeat obtain ⟨_, h⟩ := h
      subst_vars
      rfl) fun ts H Q h => w_wrong_next rfl rfl ts H Q h
theorem at_breaches_within (X : K.In h) (G : h.Ns mainGlobals mg) (A : AllIn K) (T : Top K mg) {L : Nat} (e : Env P w K mg base 14 L CC) : DefAt P w K mg base (L + 1) (Str.ofString "breaches_within") (sp_breaches_within) :=
  def_in (C := CC) b_breaches_within X G A.d14 (fun _ _ F => bd_breaches_within F) c_breaches_within T e kk_breaches_within (fun ts H Q h => by
      repeat obtain ⟨_, h⟩ := h
      subst_vars
      rfl) fun ts H Q h => w_breaches_within rfl rfl rfl rfl ts H Q h
theorem at_first_breach (X : K.In h) (G : h.Ns mainGlobals mg) (A : AllIn K) (T : Top K mg) {L : Nat} (e : Env P w K mg base 15 L CC) : DefAt P w K mg base (L + 1) (Str.ofString "first_breach") (sp_first_breach) :=
  def_in (C := CC) b_first_breach X G A.d15 (fun _ _ F => bd_first_breach F) c_first_breach T e kk_first_breach (fun ts H Q h => by
      repeat obtain ⟨_, h⟩ := h
      subst_vars
      rfl) fun ts H Q h => w_first_breach rfl rfl rfl ts H Q h
theorem at_judge_in_step (X : K.In h) (G : h.Ns mainGlobals mg) (A : AllIn K) (T : Top K mg) {L : Nat} (e : Env P w K mg base 16 L CC) : DefAt P w K mg base (L + 1) (Str.ofString "judge_in_step") (sp_judge_in_step) :=
  def_in (C := CC) b_judge_in_step X G A.d16 (fun _ _ F => bd_judge_in_step F) c_judge_in_step T e kk_judge_in_step (fun ts H Q h => by
      repeat obtain ⟨_, h⟩ := h
      subst_vars
      rfl) fun ts H Q h => w_judge_in_step rfl ts H Q h
theorem at_lower_begins_see (X : K.In h) (G : h.Ns mainGlobals mg) (A : AllIn K) (T : Top K mg) {L : Nat} (e : Env P w K mg base 17 L CC) : DefAt P w K mg base (L + 1) (Str.ofString "lower_begins_see") (sp_lower_begins_see) :=
  def_in (C := CC) b_lower_begins_see X G A.d17 (fun _ _ F => bd_lower_begins_see F) c_lower_begins_see T e kk_lower_begins_see (fun ts H Q h => by
      repeat obtain ⟨_, h⟩ := h
      subst_vars
      rfl) fun ts H Q h => w_lower_begins_see rfl ts H Q h
theorem at_judge_within_step (X : K.In h) (G : h.Ns mainGlobals mg) (A : AllIn K) (T : Top K mg) {L : Nat} (e : Env P w K mg base 18 L CC) : DefAt P w K mg base (L + 1) (Str.ofString "judge_within_step") (sp_judge_within_step) :=
  def_in (C := CC) b_judge_within_step X G A.d18 (fun _ _ F => bd_judge_within_step F) c_judge_within_step T e kk_judge_within_step (fun ts H Q h => by
      repeat obtain ⟨_, h⟩ := h
      subst_vars
      rfl) fun ts H Q h => w_judge_within_step rfl rfl rfl rfl ts H Q h
theorem at_at_states_come_to (X : K.In h) (G : h.Ns mainGlobals mg) (A : AllIn K) (T : Top K mg) {L : Nat} (e : Env P w K mg base 19 L CC) : DefAt P w K mg base (L + 1) (Str.ofString "at_states_come_to") (sp_at_states_come_to) :=
  def_in (C := CC) b_at_states_come_to X G A.d19 (fun _ _ F => bd_at_states_come_to F) c_at_states_come_to T e kk_at_states_come_to (fun ts H Q h => by
      repeat obtain ⟨_, h⟩ := h
      subst_vars
      rfl) fun ts H Q h => w_at_states_come_to ts H Q h
theorem at_silent_ways_from (X : K.In h) (G : h.Ns mainGlobals mg) (A : AllIn K) (T : Top K mg) {L : Nat} (e : Env P w K mg base 20 L CC) : DefAt P w K mg base (L + 1) (Str.ofString "silent_ways_from") (sp_silent_ways_from) :=
  def_in (C := CC) b_silent_ways_from X G A.d20 (fun _ _ F => bd_silent_ways_from F) c_silent_ways_from T e kk_silent_ways_from (fun ts H Q h => by
      repeat obtain ⟨_, h⟩ := h
      subst_vars
      rfl) fun ts H Q h => w_silent_ways_from rfl ts H Q h
theorem at_rank_by_silent (X : K.In h) (G : h.Ns mainGlobals mg) (A : AllIn K) (T : Top K mg) {L : Nat} (e : Env P w K mg base 21 L CC) : DefAt P w K mg base (L + 1) (Str.ofString "rank_by_silent") (sp_rank_by_silent) :=
  def_in (C := CC) b_rank_by_silent X G A.d21 (fun _ _ F => bd_rank_by_silent F) c_rank_by_silent T e kk_rank_by_silent (fun ts H Q h => by
      repeat obtain ⟨_, h⟩ := h
      subst_vars
      rfl) fun ts H Q h => w_rank_by_silent ts H Q h
theorem at_longest_silent_rows (X : K.In h) (G : h.Ns mainGlobals mg) (A : AllIn K) (T : Top K mg) {L : Nat} (e : Env P w K mg base 22 L CC) : DefAt P w K mg base (L + 1) (Str.ofString "longest_silent_rows") (sp_longest_silent_rows) :=
  def_in (C := CC) b_longest_silent_rows X G A.d22 (fun _ _ F => bd_longest_silent_rows F) c_longest_silent_rows T e kk_longest_silent_rows (fun ts H Q h => by
      repeat obtain ⟨_, h⟩ := h
      subst_vars
      rfl) fun ts H Q h => w_longest_silent_rows rfl rfl ts H Q h
theorem at_least_step_ranks (X : K.In h) (G : h.Ns mainGlobals mg) (A : AllIn K) (T : Top K mg) {L : Nat} (e : Env P w K mg base 23 L CC) : DefAt P w K mg base (L + 1) (Str.ofString "least_step_ranks") (sp_least_step_ranks) :=
  def_in (C := CC) b_least_step_ranks X G A.d23 (fun _ _ F => bd_least_step_ranks F) c_least_step_ranks T e kk_least_step_ranks (fun ts H Q h => by
      repeat obtain ⟨_, h⟩ := h
      subst_vars
      rfl) fun ts H Q h => w_least_step_ranks rfl rfl rfl rfl rfl ts H Q h
theorem at__law_draws (X : K.In h) (G : h.Ns mainGlobals mg) (A : AllIn K) (T : Top K mg) {L : Nat} (e : Env P w K mg base 24 L CC) : DefAt P w K mg base (L + 1) (Str.ofString "_law_draws") (sp_draws) :=
  def_in (C := CC) b__law_draws X G A.d24 (fun _ _ F => bd__law_draws F) c__law_draws T e kk__law_draws (fun ts H Q h => by
      repeat obtain ⟨_, h⟩ := h
      subst_vars
      rfl) fun ts H Q h => w_draws ts H Q h
theorem at__law_take (X : K.In h) (G : h.Ns mainGlobals mg) (A : AllIn K) (T : Top K mg) {L : Nat} (e : Env P w K mg base 25 L CC) : DefAt P w K mg base (L + 1) (Str.ofString "_law_take") (sp_take) :=
  def_in (C := CC) b__law_take X G A.d25 (fun _ _ F => bd__law_take F) c__law_take T e kk__law_take (fun ts H Q h => by
      repeat obtain ⟨_, h⟩ := h
      subst_vars
      rfl) fun ts H Q h => w_take ts H Q h
theorem at__law_world (X : K.In h) (G : h.Ns mainGlobals mg) (A : AllIn K) (T : Top K mg) {L : Nat} (e : Env P w K mg base 27 L CC) : DefAt P w K mg base (L + 1) (Str.ofString "_law_world") (sp_law_world) :=
  def_in (C := CC) b__law_world X G A.d27 (fun _ _ F => bd__law_world F) c__law_world T e kk__law_world (fun ts H Q h => by
      repeat obtain ⟨_, h⟩ := h
      subst_vars
      rfl) fun ts H Q h => w_law_world rfl ts H Q h
theorem at__law_come_to (X : K.In h) (G : h.Ns mainGlobals mg) (A : AllIn K) (T : Top K mg) {L : Nat} (e : Env P w K mg base 28 L CC) : DefAt P w K mg base (L + 1) (Str.ofString "_law_come_to") (sp_law_come_to) :=
  def_in (C := CC) b__law_come_to X G A.d28 (fun _ _ F => bd__law_come_to F) c__law_come_to T e kk__law_come_to (fun ts H Q h => by
      repeat obtain ⟨_, h⟩ := h
      subst_vars
      rfl) fun ts H Q h => w_law_come_to ts H Q h
theorem at__law_lower (X : K.In h) (G : h.Ns mainGlobals mg) (A : AllIn K) (T : Top K mg) {L : Nat} (e : Env P w K mg base 29 L CC) : DefAt P w K mg base (L + 1) (Str.ofString "_law_lower") (sp_law_lower) :=
  def_in (C := CC) b__law_lower X G A.d29 (fun _ _ F => bd__law_lower F) c__law_lower T e kk__law_lower (fun ts H Q h => by
      repeat obtain ⟨_, h⟩ := h
      subst_vars
      rfl) fun ts H Q h => w_law_lower rfl ts H Q h
theorem at__law_sees (X : K.In h) (G : h.Ns mainGlobals mg) (A : AllIn K) (T : Top K mg) {L : Nat} (e : Env P w K mg base 30 L CC) : DefAt P w K mg base (L + 1) (Str.ofString "_law_sees") (sp_states_seeing) :=
  def_in (C := CC) b__law_sees X G A.d30 (fun _ _ F => bd__law_sees F) c__law_sees T e kk__law_sees (fun ts H Q h => by
      repeat obtain ⟨_, h⟩ := h
      subst_vars
      rfl) fun ts H Q h => w_law_sees ts H Q h
theorem at__law_comes (X : K.In h) (G : h.Ns mainGlobals mg) (A : AllIn K) (T : Top K mg) {L : Nat} (e : Env P w K mg base 31 L CC) : DefAt P w K mg base (L + 1) (Str.ofString "_law_comes") (sp_law_comes) :=
  def_in (C := CC) b__law_comes X G A.d31 (fun _ _ F => bd__law_comes F) c__law_comes T e kk__law_comes (fun ts H Q h => by
      repeat obtain ⟨_, h⟩ := h
      subst_vars
      rfl) fun ts H Q h => w_law_comes rfl ts H Q h
theorem at__law_breaches (X : K.In h) (G : h.Ns mainGlobals mg) (A : AllIn K) (T : Top K mg) {L : Nat} (e : Env P w K mg base 32 L CC) : DefAt P w K mg base (L + 1) (Str.ofString "_law_breaches") (sp_law_breaches) :=
  def_in (C := CC) b__law_breaches X G A.d32 (fun _ _ F => bd__law_breaches F) c__law_breaches T e kk__law_breaches (fun ts H Q h => by
      repeat obtain ⟨_, h⟩ := h
      subst_vars
      rfl) fun ts H Q h => w_law_breaches rfl rfl rfl ts H Q h
theorem at__law_is_within (X : K.In h) (G : h.Ns mainGlobals mg) (A : AllIn K) (T : Top K mg) {L : Nat} (e : Env P w K mg base 33 L CC) : DefAt P w K mg base (L + 1) (Str.ofString "_law_is_within") (sp_judge_within_step) :=
  def_in (C := CC) b__law_is_within X G A.d33 (fun _ _ F => bd__law_is_within F) c__law_is_within T e kk__law_is_within (fun ts H Q h => by
      repeat obtain ⟨_, h⟩ := h
      subst_vars
      rfl) fun ts H Q h => w_law_is_within rfl ts H Q h
theorem at__law_silent (X : K.In h) (G : h.Ns mainGlobals mg) (A : AllIn K) (T : Top K mg) {L : Nat} (e : Env P w K mg base 34 L CC) : DefAt P w K mg base (L + 1) (Str.ofString "_law_silent") (sp_is_silent_way) :=
  def_in (C := CC) b__law_silent X G A.d34 (fun _ _ F => bd__law_silent F) c__law_silent T e kk__law_silent (fun ts H Q h => by
      repeat obtain ⟨_, h⟩ := h
      subst_vars
      rfl) fun ts H Q h => w_law_silent ts H Q h
theorem at__law_step_ranks (X : K.In h) (G : h.Ns mainGlobals mg) (A : AllIn K) (T : Top K mg) {L : Nat} (e : Env P w K mg base 35 L CC) : DefAt P w K mg base (L + 1) (Str.ofString "_law_step_ranks") (sp_law_step_ranks) :=
  def_in (C := CC) b__law_step_ranks X G A.d35 (fun _ _ F => bd__law_step_ranks F) c__law_step_ranks T e kk__law_step_ranks (fun ts H Q h => by
      repeat obtain ⟨_, h⟩ := h
      subst_vars
      rfl) fun ts H Q h => w_law_step_ranks rfl rfl rfl ts H Q h
theorem at__law_altered (X : K.In h) (G : h.Ns mainGlobals mg) (A : AllIn K) (T : Top K mg) {L : Nat} (e : Env P w K mg base 36 L CC) : DefAt P w K mg base (L + 1) (Str.ofString "_law_altered") (sp_law_altered) :=
  def_in (C := CC) b__law_altered X G A.d36 (fun _ _ F => bd__law_altered F) c__law_altered T e kk__law_altered (fun ts H Q h => by
      repeat obtain ⟨_, h⟩ := h
      subst_vars
      rfl) fun ts H Q h => w_law_altered rfl ts H Q h
theorem at__law_is_judged (X : K.In h) (G : h.Ns mainGlobals mg) (A : AllIn K) (T : Top K mg) {L : Nat} (e : Env P w K mg base 37 L CC) : DefAt P w K mg base (L + 1) (Str.ofString "_law_is_judged") (sp_law_is_judged) :=
  def_in (C := CC) b__law_is_judged X G A.d37 (fun _ _ F => bd__law_is_judged F) c__law_is_judged T e kk__law_is_judged (fun ts H Q h => by
      repeat obtain ⟨_, h⟩ := h
      subst_vars
      rfl) fun ts H Q h => w_law_is_judged rfl rfl rfl rfl rfl rfl rfl rfl ts H Q h
theorem same_env {d L : Nat} (e : Env P w K mg base 26 L CC) (s : DefAt P w K mg base L (Str.ofString "_law_same") (sp_same d)) : Env P w K mg base 27 L (CS d) := fun i y hy => by
  by_cases hi : i < 26
  · have h1 : (fNames.take 26)[i]? = some y := by
      rw [List.getElem?_take_of_lt hi]
      rw [List.getElem?_take_of_lt (by omega)] at hy
      exact hy
    have := e i y h1
    unfold CS
    rw [if_neg (by omega)]
    exact this
  · by_cases h26 : i = 26
    · subst h26
      have h1 : some (Str.ofString "_law_same") = some y := hy
      cases h1
      exact s
    · rw [List.getElem?_take_eq_none (by omega)] at hy
      cases hy
theorem same_up (X : K.In h) (G : h.Ns mainGlobals mg) (A : AllIn K) (T : Top K mg) {d L : Nat} (e : Env P w K mg base 26 L CC) (s : DefAt P w K mg base L (Str.ofString "_law_same") (sp_same d)) : DefAt P w K mg base (L + 1) (Str.ofString "_law_same") (sp_same (d + 1)) :=
  def_in (C := CS d) b__law_same X G A.d26 (fun _ _ F => bd__law_same F) c__law_same T (same_env e s) kk__law_same (fun ts H Q h => by
      repeat obtain ⟨_, h⟩ := h
      subst_vars
      rfl) fun ts H Q h => w_same (C := CS d) (k := 26) (d + 1) (.inr rfl) ts H Q h
theorem same_zero (X : K.In h) (G : h.Ns mainGlobals mg) (A : AllIn K) (T : Top K mg) {L : Nat} (e : Env P w K mg base 26 L CC) : DefAt P w K mg base (L + 2) (Str.ofString "_law_same") (sp_same 0) :=
  def_in (C := fun k => if k = 26 then (fun _ _ _ => False) else CC k) b__law_same X G A.d26 (fun _ _ F => bd__law_same F) c__law_same T (fun i y hy => by
    by_cases hi : i < 26
    · have h1 : (fNames.take 26)[i]? = some y := by
        rw [List.getElem?_take_of_lt hi]
        rw [List.getElem?_take_of_lt (by omega)] at hy
        exact hy
      have := (e i y h1).mono (Nat.le_succ L)
      rw [if_neg (by omega)]
      exact this
    · by_cases h26 : i = 26
      · subst h26
        have h1 : some (Str.ofString "_law_same") = some y := hy
        cases h1
        exact def_no X G A.d26 (fun _ _ F => bd__law_same F) c__law_same
      · rw [List.getElem?_take_eq_none (by omega)] at hy
        cases hy) kk__law_same (fun ts H Q h => by
      repeat obtain ⟨_, h⟩ := h
      subst_vars
      rfl) fun ts H Q h => w_same (k := 26) 0 (.inl rfl) ts H Q h
theorem env_step {j L : Nat} {x : Str} (hx : fNames[j]? = some x) (e : Env P w K mg base j L CC) (d : DefAt P w K mg base (L + 1) x (CC j)) : Env P w K mg base (j + 1) (L + 1) CC := fun i y hy => by
  by_cases hi : i < j
  · have h1 : (fNames.take j)[i]? = some y := by
      rw [List.getElem?_take_of_lt hi]
      rw [List.getElem?_take_of_lt (by omega)] at hy
      exact hy
    exact (e i y h1).mono (Nat.le_succ L)
  · by_cases hj : i = j
    · subst hj
      rw [List.getElem?_take_of_lt (Nat.lt_succ_self i), hx] at hy
      cases hy
      exact d
    · rw [List.getElem?_take_eq_none (by omega)] at hy
      cases hy
theorem env_mono {j L L' : Nat} (e : Env P w K mg base j L CC) (h : L ≤ L') : Env P w K mg base j L' CC := fun i y hy => (e i y hy).mono h
theorem env_all (X : K.In h) (G : h.Ns mainGlobals mg) (A : AllIn K) (T : Top K mg) : Env P w K mg base 38 50 CC := by
  have e0 : Env P w K mg base 0 0 CC := fun i y hy => by
    rw [List.take_zero] at hy
    cases hy
  have e1 : Env P w K mg base 1 1 CC := env_step (L := 0) rfl e0 (at_states_come_to X G A T e0)
  have e2 : Env P w K mg base 2 2 CC := env_step (L := 1) rfl e1 (at_rows_gone_on X G A T e1)
  have e3 : Env P w K mg base 3 3 CC := env_step (L := 2) rfl e2 (at_shortest_way X G A T e2)
  have e4 : Env P w K mg base 4 4 CC := env_step (L := 3) rfl e3 (at_is_seen_there X G A T e3)
  have e5 : Env P w K mg base 5 5 CC := env_step (L := 4) rfl e4 (at_is_silent_way X G A T e4)
  have e6 : Env P w K mg base 6 6 CC := env_step (L := 5) rfl e5 (at_does_begin_see X G A T e5)
  have e7 : Env P w K mg base 7 7 CC := env_step (L := 6) rfl e6 (at_are_lights_seen X G A T e6)
  have e8 : Env P w K mg base 8 8 CC := env_step (L := 7) rfl e7 (at_is_way_seen X G A T e7)
  have e9 : Env P w K mg base 9 9 CC := env_step (L := 8) rfl e8 (at_states_seeing X G A T e8)
  have e10 : Env P w K mg base 10 10 CC := env_step (L := 9) rfl e9 (at_states_by_seen X G A T e9)
  have e11 : Env P w K mg base 11 11 CC := env_step (L := 10) rfl e10 (at_does_next_come X G A T e10)
  have e12 : Env P w K mg base 12 12 CC := env_step (L := 11) rfl e11 (at_wrong_begins X G A T e11)
  have e13 : Env P w K mg base 13 13 CC := env_step (L := 12) rfl e12 (at_wrong_ways X G A T e12)
  have e14 : Env P w K mg base 14 14 CC := env_step (L := 13) rfl e13 (at_wrong_next X G A T e13)
  have e15 : Env P w K mg base 15 15 CC := env_step (L := 14) rfl e14 (at_breaches_within X G A T e14)
  have e16 : Env P w K mg base 16 16 CC := env_step (L := 15) rfl e15 (at_first_breach X G A T e15)
  have e17 : Env P w K mg base 17 17 CC := env_step (L := 16) rfl e16 (at_judge_in_step X G A T e16)
  have e18 : Env P w K mg base 18 18 CC := env_step (L := 17) rfl e17 (at_lower_begins_see X G A T e17)
  have e19 : Env P w K mg base 19 19 CC := env_step (L := 18) rfl e18 (at_judge_within_step X G A T e18)
  have e20 : Env P w K mg base 20 20 CC := env_step (L := 19) rfl e19 (at_at_states_come_to X G A T e19)
  have e21 : Env P w K mg base 21 21 CC := env_step (L := 20) rfl e20 (at_silent_ways_from X G A T e20)
  have e22 : Env P w K mg base 22 22 CC := env_step (L := 21) rfl e21 (at_rank_by_silent X G A T e21)
  have e23 : Env P w K mg base 23 23 CC := env_step (L := 22) rfl e22 (at_longest_silent_rows X G A T e22)
  have e24 : Env P w K mg base 24 24 CC := env_step (L := 23) rfl e23 (at_least_step_ranks X G A T e23)
  have e25 : Env P w K mg base 25 25 CC := env_step (L := 24) rfl e24 (at__law_draws X G A T e24)
  have e26 : Env P w K mg base 26 26 CC := env_step (L := 25) rfl e25 (at__law_take X G A T e25)
  have s0 : DefAt P w K mg base (26 + 2) (Str.ofString "_law_same") (sp_same 0) := same_zero X G A T e26
  have s1 := same_up X G A T (env_mono e26 (by decide : 26 ≤ 26 + 2)) s0
  have s2 := same_up X G A T (env_mono e26 (by decide : 26 ≤ 26 + 2 + 1)) s1
  have e27 : Env P w K mg base 27 30 CC := env_step (L := 29) rfl (env_mono e26 (by decide)) s2
  have e28 : Env P w K mg base 28 31 CC := env_step (L := 30) rfl e27 (at__law_world X G A T e27)
  have e29 : Env P w K mg base 29 32 CC := env_step (L := 31) rfl e28 (at__law_come_to X G A T e28)
  have e30 : Env P w K mg base 30 33 CC := env_step (L := 32) rfl e29 (at__law_lower X G A T e29)
  have e31 : Env P w K mg base 31 34 CC := env_step (L := 33) rfl e30 (at__law_sees X G A T e30)
  have e32 : Env P w K mg base 32 35 CC := env_step (L := 34) rfl e31 (at__law_comes X G A T e31)
  have e33 : Env P w K mg base 33 36 CC := env_step (L := 35) rfl e32 (at__law_breaches X G A T e32)
  have e34 : Env P w K mg base 34 37 CC := env_step (L := 36) rfl e33 (at__law_is_within X G A T e33)
  have e35 : Env P w K mg base 35 38 CC := env_step (L := 37) rfl e34 (at__law_silent X G A T e34)
  have e36 : Env P w K mg base 36 39 CC := env_step (L := 38) rfl e35 (at__law_step_ranks X G A T e35)
  have e37 : Env P w K mg base 37 40 CC := env_step (L := 39) rfl e36 (at__law_altered X G A T e36)
  have e38 : Env P w K mg base 38 41 CC := env_step (L := 40) rfl e37 (at__law_is_judged X G A T e37)
  exact env_mono e38 (by decide)
end
end K80
set_option maxRecDepth 100000
namespace K80
open PySem PySem.Spec L2 TL
theorem all_mk {l : PySem.W.OpenLaw} {w : World} {K : PySem.W.Frag} {h : Heap} {mg : Str → Option Value} {fa : Addr} (X : K.In h) (G : h.Ns mainGlobals mg) (hfa : mg "law" = some (.ref fa)) (A : AllIn K) :
    ∃ fd : FuncData, (∀ (s : Shared) (v : Value), BindsTo s fd ⟨[v], []⟩ [("script", v)]) ∧ ∀ base : Heap, K.In base → base.Ns mainGlobals mg → FnOk l.prog w K mg base CX0 60 fa fd ["script"] (liftSp K spLaw) := by
  have T : Top K mg := ⟨fun x hx => PySem.W.mg_none_of X G (A.z x hx)⟩
  obtain ⟨f, od, an, sl, oc, kV, dc, pm, cd, ct, hn, lk, hcd, hk⟩ := A.d38.ex
  have F := fun_mk lk hcd hk
  have hm : mg (Str.ofString "law") = some (.ref f) := PySem.W.mg_of X G hn
  have e : some (Value.ref f) = some (.ref fa) := hm.symm.trans hfa
  have e2 : f = fa := by
    injection e with e
    injection e
  subst e2
  refine ⟨PySem.W.fnOf (Str.ofString "law") (Str.ofString "law") (defArgs s_law) (defBody s_law) (defScope s_law) .none kV dc pm an cd ct, fun s v => .of_eq rfl, fun base _ _ => ?_⟩
  exact fn_ok (k := 59) (C := CC) (Fs := fNames.take 38) b_law F c_law T (env_mono (env_all X G A T) (by decide)) kk_law (fun ts H Q h => by
    obtain ⟨ns, rfl, _⟩ := h
    rfl) fun ts H Q h => w_law rfl rfl rfl rfl rfl rfl rfl rfl rfl rfl rfl rfl rfl rfl rfl ts H Q h
theorem walk {l : PySem.W.OpenLaw} {q : Program} {loose : List Str} {XP : (Str → Option Value) → Heap → Prop} {YP : World → Heap → Prop} {d : DefRec} {K : Params → PySem.W.Frag} (hn : l.most = some 63) (hdf : d.params.defaults = [])
    (hY : ∀ (w : World) (h : Heap), YP w h → (K w.params).In h)
    (F : ∀ (w : World) (mg : Str → Option Value) (fa : Addr) (h : Heap), (K w.params).In h → h.Ns mainGlobals mg → mg d.name = some (.ref fa) →
      ∃ fd : FuncData, (∀ (s : Shared) (u : Value), BindsTo s fd ⟨[u], []⟩ [("script", u)]) ∧ ∀ base : Heap, (K w.params).In base → base.Ns mainGlobals mg → FnOk l.prog w (K w.params) mg base CX0 60 fa fd ["script"] (liftSp (K w.params) spLaw)) :
    PySem.W.WalkO q loose XP YP l.row.toRowW d [] (fun f vs => PySem.call f vs) :=
  L2.walk_of (n := 63) (k := 60) (x := "script") (CX := fun _ => CX0) (sp := fun w => liftSp (K w.params) spLaw) hn (by decide) hdf ⟨rfl, by decide, by decide⟩ hY F (fun w H a ns hl hO hS => law_start (R := fun _ _ => True) (Q := fun t _ => t = .bl true) hO hS ⟨ns, rfl, hl, fun _ => rfl⟩ (fun _ _ _ _ => trivial) fun _ _ h => h) fun _ _ _ _ _ z => z
end K80
open PySem PySem.W PyProof.Rows
set_option maxRecDepth 100000 in
set_option maxHeartbeats 0 in
theorem PySem.Challenge.cw_texttoticks_k80_in_step_judged_state_by_holds : PySem.Challenge.rw_texttoticks_k80_in_step_judged_state_by.Holds := by
  w_on; o_law; k_head; (case hw => w_witness2)
  k_fill
  refine K80.walk (l := PySem.Challenge.rw_texttoticks_k80_in_step_judged_state_by) rfl rfl (fun w h Y => PySem.W.kIn_of Y) ?F
  case F =>
    intro w mg fa h KX G hmg
    refine' K80.all_mk KX G hmg ⟨.of ?a0 ?l0 ?c0 ?k0, .of ?a1 ?l1 ?c1 ?k1, .of ?a2 ?l2 ?c2 ?k2, .of ?a3 ?l3 ?c3 ?k3, .of ?a4 ?l4 ?c4 ?k4, .of ?a5 ?l5 ?c5 ?k5, .of ?a6 ?l6 ?c6 ?k6, .of ?a7 ?l7 ?c7 ?k7, .of ?a8 ?l8 ?c8 ?k8, .of ?a9 ?l9 ?c9 ?k9, .of ?a10 ?l10 ?c10 ?k10, .of ?a11 ?l11 ?c11 ?k11, .of ?a12 ?l12 ?c12 ?k12, .of ?a13 ?l13 ?c13 ?k13, .of ?a14 ?l14 ?c14 ?k14, .of ?a15 ?l15 ?c15 ?k15, .of ?a16 ?l16 ?c16 ?k16, .of ?a17 ?l17 ?c17 ?k17, .of ?a18 ?l18 ?c18 ?k18, .of ?a19 ?l19 ?c19 ?k19, .of ?a20 ?l20 ?c20 ?k20, .of ?a21 ?l21 ?c21 ?k21, .of ?a22 ?l22 ?c22 ?k22, .of ?a23 ?l23 ?c23 ?k23, .of ?a24 ?l24 ?c24 ?k24, .of ?a25 ?l25 ?c25 ?k25, .of ?a26 ?l26 ?c26 ?k26, .of ?a27 ?l27 ?c27 ?k27, .of ?a28 ?l28 ?c28 ?k28, .of ?a29 ?l29 ?c29 ?k29, .of ?a30 ?l30 ?c30 ?k30, .of ?a31 ?l31 ?c31 ?k31, .of ?a32 ?l32 ?c32 ?k32, .of ?a33 ?l33 ?c33 ?k33, .of ?a34 ?l34 ?c34 ?k34, .of ?a35 ?l35 ?c35 ?k35, .of ?a36 ?l36 ?c36 ?k36, .of ?a37 ?l37 ?c37 ?k37, .of ?a38 ?l38 ?c38 ?k38, ?z⟩
    (case a0 => k_is); (case l0 => k_is); (case c0 => k_is); (case k0 => k_is)
    (case a1 => k_is); (case l1 => k_is); (case c1 => k_is); (case k1 => k_is)
    (case a2 => k_is); (case l2 => k_is); (case c2 => k_is); (case k2 => k_is)
    (case a3 => k_is); (case l3 => k_is); (case c3 => k_is); (case k3 => k_is)
    (case a4 => k_is); (case l4 => k_is); (case c4 => k_is); (case k4 => k_is)
    (case a5 => k_is); (case l5 => k_is); (case c5 => k_is); (case k5 => k_is)
    (case a6 => k_is); (case l6 => k_is); (case c6 => k_is); (case k6 => k_is)
    (case a7 => k_is); (case l7 => k_is); (case c7 => k_is); (case k7 => k_is)
    (case a8 => k_is); (case l8 => k_is); (case c8 => k_is); (case k8 => k_is)
    (case a9 => k_is); (case l9 => k_is); (case c9 => k_is); (case k9 => k_is)
    (case a10 => k_is); (case l10 => k_is); (case c10 => k_is); (case k10 => k_is)
    (case a11 => k_is); (case l11 => k_is); (case c11 => k_is); (case k11 => k_is)
    (case a12 => k_is); (case l12 => k_is); (case c12 => k_is); (case k12 => k_is)
    (case a13 => k_is); (case l13 => k_is); (case c13 => k_is); (case k13 => k_is)
    (case a14 => k_is); (case l14 => k_is); (case c14 => k_is); (case k14 => k_is)
    (case a15 => k_is); (case l15 => k_is); (case c15 => k_is); (case k15 => k_is)
    (case a16 => k_is); (case l16 => k_is); (case c16 => k_is); (case k16 => k_is)
    (case a17 => k_is); (case l17 => k_is); (case c17 => k_is); (case k17 => k_is)
    (case a18 => k_is); (case l18 => k_is); (case c18 => k_is); (case k18 => k_is)
    (case a19 => k_is); (case l19 => k_is); (case c19 => k_is); (case k19 => k_is)
    (case a20 => k_is); (case l20 => k_is); (case c20 => k_is); (case k20 => k_is)
    (case a21 => k_is); (case l21 => k_is); (case c21 => k_is); (case k21 => k_is)
    (case a22 => k_is); (case l22 => k_is); (case c22 => k_is); (case k22 => k_is)
    (case a23 => k_is); (case l23 => k_is); (case c23 => k_is); (case k23 => k_is)
    (case a24 => k_is); (case l24 => k_is); (case c24 => k_is); (case k24 => k_is)
    (case a25 => k_is); (case l25 => k_is); (case c25 => k_is); (case k25 => k_is)
    (case a26 => k_is); (case l26 => k_is); (case c26 => k_is); (case k26 => k_is)
    (case a27 => k_is); (case l27 => k_is); (case c27 => k_is); (case k27 => k_is)
    (case a28 => k_is); (case l28 => k_is); (case c28 => k_is); (case k28 => k_is)
    (case a29 => k_is); (case l29 => k_is); (case c29 => k_is); (case k29 => k_is)
    (case a30 => k_is); (case l30 => k_is); (case c30 => k_is); (case k30 => k_is)
    (case a31 => k_is); (case l31 => k_is); (case c31 => k_is); (case k31 => k_is)
    (case a32 => k_is); (case l32 => k_is); (case c32 => k_is); (case k32 => k_is)
    (case a33 => k_is); (case l33 => k_is); (case c33 => k_is); (case k33 => k_is)
    (case a34 => k_is); (case l34 => k_is); (case c34 => k_is); (case k34 => k_is)
    (case a35 => k_is); (case l35 => k_is); (case c35 => k_is); (case k35 => k_is)
    (case a36 => k_is); (case l36 => k_is); (case c36 => k_is); (case k36 => k_is)
    (case a37 => k_is); (case l37 => k_is); (case c37 => k_is); (case k37 => k_is)
    (case a38 => k_is); (case l38 => k_is); (case c38 => k_is); (case k38 => k_is)
    (case z =>
      intro x hx
      simp only [TL.bltNames, List.mem_cons, List.not_mem_nil, or_false] at hx
      rcases hx with rfl | rfl | rfl | rfl | rfl | rfl | rfl | rfl | rfl | rfl | rfl | rfl | rfl | rfl | rfl <;> k_is)
