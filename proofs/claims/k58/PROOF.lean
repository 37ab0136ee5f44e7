import PyProof.Rows.All
import Wide.All
import OpenK.AllK
import Wide.FinOn
import HandS.ForMost
import HandS.ForExc
import HandS.IsInst
import HandS.CallSlots
import HandS.TryMany
import HandS.TryOnly
import HandS.Style
import HandS.Flow
import HandS.Deep
import HandS.Conv
import HandS.WideBits
import HandS.TupAny
import HandS.TupMul
import HandS.SortInts
import HandS.Small
import HandS.Wide
import HandS.ExcInit
import HandS.RaiseMore
import HandS.SetFor
import PyProof.EqAt
import PyProof.EqKinds
import PyProof.TupleCall
import Open.SpecLaws
import KE.OsGo
import HandS.ForSpec
import KE.KExcLine
import PySem.Challenge.RW_chordkeep_k58_whole_shortest_chains
set_option Elab.async false
set_option linter.all false
set_option maxRecDepth 100000
set_option maxHeartbeats 1000000
/-! The data layer: plain functions over PyData for expressions and statements, over the hand layer. -/
namespace DL
open PySem PySem.Spec L2
set_option autoImplicit false

/-! ### results -/
inductive Er where
  | stuck
  | exc (c : Str) (fs : List (Str × PyData))
abbrev R (α : Type) := Except Er α
def keyD : Key → PyData
  | .inl i => .int i
  | .inr x => .str x
def keyPair (p : Key × PyData) : PyData × PyData := (keyD p.1, p.2)
/-- what a def may hold alone and change: a list, a dict -/
inductive Ow where
  | lst (ds : List PyData)
  | dic (ps : List (Key × PyData))
  /-- a list that loops walk: it is not rebound -/
  | pin (t : Nat) (ds : List PyData)
def Ow.data : Ow → PyData
  | .lst ds => .list ds
  | .dic ps => .dict (ps.map keyPair)
  | .pin _ ds => .list ds
/-- a slot: empty, a datum that nobody changes, what this def alone holds, an exception that a suite holds, an instance of an own class -/
inductive Sl where
  | un
  | dat (d : PyData)
  | own (w : Ow)
  | exv (c : Str) (fs : List (Str × PyData))
  | obj (c : Str) (fs : List (Str × PyData))
abbrev Ev := List Sl
abbrev DE := Ev → R PyData
abbrev DT := Ev → R Bool
abbrev DA := Ev → R (List PyData)
inductive Fl where
  | nx (e : Ev)
  | rt (d : PyData)
  | bk (e : Ev)
  | ct (e : Ev)
  | ex (e : Ev) (c : Str) (fs : List (Str × PyData))
  | stuck
abbrev DS := Ev → Fl

/-! ### what a datum is in the heap -/
mutual
inductive Dv (K : PySem.W.Frag) (H : Hp) : V → PyData → Prop
  | non : Dv K H .non .none
  | bl (b : Bool) : Dv K H (.bl b) (.bool b)
  | int (i : Int) : Dv K H (.int i) (.int i)
  | str (x : Str) : Dv K H (.str x) (.str x)
  | lst {a : Addr} {xs : List V} {ds : List PyData} : SqL K H a xs → Dvs K H xs ds → Dv K H (.ref a) (.list ds)
  | tup {a : Addr} {xs : List V} {ds : List PyData} : SqT K H a xs → Dvs K H xs ds → Dv K H (.ref a) (.tuple ds)
  | dct {a : Addr} {kvs : List (Key × V)} {ps : List (Key × PyData)} {qs : List (PyData × PyData)} : Rd H a (.dK kvs) → Dks K H kvs ps → qs = ps.map keyPair → Dv K H (.ref a) (.dict qs)
inductive Dks (K : PySem.W.Frag) (H : Hp) : List (Key × V) → List (Key × PyData) → Prop
  | nil : Dks K H [] []
  | cons {k : Key} {v : V} {kvs : List (Key × V)} {d : PyData} {ps : List (Key × PyData)} : Dv K H v d → Dks K H kvs ps → Dks K H ((k, v) :: kvs) ((k, d) :: ps)
inductive Dvs (K : PySem.W.Frag) (H : Hp) : List V → List PyData → Prop
  | nil : Dvs K H [] []
  | cons {v : V} {vs : List V} {d : PyData} {ds : List PyData} : Dv K H v d → Dvs K H vs ds → Dvs K H (v :: vs) (d :: ds)
end

theorem rd_same {H H' : Hp} {a : Addr} {u : HO} (e : Same H H') (h : Rd H a u) : Rd H' a u := by
  rcases h with h | ⟨o, h⟩
  · exact .inl (e _ _ h)
  · exact .inr ⟨o, e _ _ h⟩
theorem sqT_same {K : PySem.W.Frag} {H H' : Hp} {a : Addr} {xs : List V} (e : Same H H') (h : SqT K H a xs) : SqT K H' a xs := by
  rcases h with h | h
  · exact .inl (rd_same e h)
  · exact .inr h
mutual
theorem Dv.same {K : PySem.W.Frag} {H H' : Hp} (e : Same H H') : ∀ {v : V} {d : PyData}, Dv K H v d → Dv K H' v d
  | _, _, .non => .non
  | _, _, .bl b => .bl b
  | _, _, .int i => .int i
  | _, _, .str x => .str x
  | _, _, .lst h t => .lst (e.seq h) (Dvs.same e t)
  | _, _, .tup h t => .tup (sqT_same e h) (Dvs.same e t)
  | _, _, .dct h t q => .dct (rd_same e h) (Dks.same e t) q
theorem Dks.same {K : PySem.W.Frag} {H H' : Hp} (e : Same H H') : ∀ {v : List (Key × V)} {d : List (Key × PyData)}, Dks K H v d → Dks K H' v d
  | _, _, .nil => .nil
  | _, _, .cons h t => .cons (Dv.same e h) (Dks.same e t)
theorem Dvs.same {K : PySem.W.Frag} {H H' : Hp} (e : Same H H') : ∀ {v : List V} {d : List PyData}, Dvs K H v d → Dvs K H' v d
  | _, _, .nil => .nil
  | _, _, .cons h t => .cons (Dv.same e h) (Dvs.same e t)
end
mutual
theorem Dv.dp {K : PySem.W.Frag} {H : Hp} : ∀ {v : V} {d : PyData}, Dv K H v d → d.canLay0 = true → Dp K H v d
  | _, _, .non, _ => .non
  | _, _, .bl b, _ => .bl b
  | _, _, .int i, _ => .int i
  | _, _, .str x, _ => .str x
  | _, _, .lst h t, c => .lst h (Dvs.dp t (by simpa only [PyData.canLay0] using c))
  | _, _, .tup h t, c => .tup h (Dvs.dp t (by simpa only [PyData.canLay0] using c))
  | _, _, .dct _ _ _, c => by simp only [PyData.canLay0] at c; cases c
theorem Dvs.dp {K : PySem.W.Frag} {H : Hp} : ∀ {v : List V} {d : List PyData}, Dvs K H v d → PyData.canLayAll0 d = true → DpAll K H v d
  | _, _, .nil, _ => .nil
  | _, _, .cons h t, c => by
    simp only [PyData.canLayAll0, Bool.and_eq_true] at c
    exact .cons (Dv.dp h c.1) (Dvs.dp t c.2)
end
/-- what stands at an address, told as data -/
def OwR (K : PySem.W.Frag) (H : Hp) : HO → Ow → Prop
  | .lst vs, .lst ds => Dvs K H vs ds
  | .dK kvs, .dic ps => Dks K H kvs ps
  | .lst vs, .pin _ ds => Dvs K H vs ds
  | _, _ => False
theorem OwR.same {K : PySem.W.Frag} {H H' : Hp} {o : HO} {w : Ow} (e : Same H H') (h : OwR K H o w) : OwR K H' o w := by
  cases o <;> cases w <;> first | exact h.elim | skip
  · exact Dvs.same e h
  · exact Dvs.same e h
  · exact Dks.same e h
theorem OwR.dv {K : PySem.W.Frag} {H : Hp} {a : Addr} {o : HO} {w : Ow} (h : OwR K H o w) (r : Rd H a o) : Dv K H (.ref a) w.data := by
  cases o <;> cases w <;> first | exact h.elim | skip
  · exact .lst (.inl r) h
  · exact .lst (.inl r) h
  · exact .dct r h rfl
theorem OwR.mut {K : PySem.W.Frag} {H : Hp} {o : HO} {w : Ow} (h : OwR K H o w) : Mut (some o) := by
  cases o <;> cases w <;> first | exact h.elim | trivial
section
variable {K : PySem.W.Frag} {H H' : Hp}
theorem Dvs.length : ∀ {vs : List V} {ds : List PyData}, Dvs K H vs ds → vs.length = ds.length
  | _, _, .nil => rfl
  | _, _, .cons _ t => by rw [List.length_cons, List.length_cons, Dvs.length t]
theorem Dvs.app : ∀ {vs ws : List V} {ds es : List PyData}, Dvs K H vs ds → Dvs K H ws es → Dvs K H (vs ++ ws) (ds ++ es)
  | _, _, _, _, .nil, s => s
  | _, _, _, _, .cons h t, s => .cons h (Dvs.app t s)
theorem Dvs.one {v : V} {d : PyData} (h : Dv K H v d) : Dvs K H [v] [d] := .cons h .nil
theorem Dvs.get : ∀ {vs : List V} {ds : List PyData} {i : Nat} {d : PyData}, Dvs K H vs ds → ds[i]? = some d → ∃ v, vs[i]? = some v ∧ Dv K H v d
  | _, _, _, _, .nil, e => by simp at e
  | _, _, 0, _, .cons h _, e => by simp at e; subst e; exact ⟨_, rfl, h⟩
  | _, _, i + 1, d, .cons _ t, e => by
    obtain ⟨v, h1, h2⟩ := Dvs.get (i := i) (d := d) t (by simpa using e)
    exact ⟨v, by simpa using h1, h2⟩
theorem Dvs.getV : ∀ {vs : List V} {ds : List PyData} {i : Nat} {v : V}, Dvs K H vs ds → vs[i]? = some v → ∃ d, ds[i]? = some d ∧ Dv K H v d
  | _, _, _, _, .nil, e => by simp at e
  | _, _, 0, _, .cons h _, e => by simp at e; subst e; exact ⟨_, rfl, h⟩
  | _, _, i + 1, v, .cons _ t, e => by
    obtain ⟨d, h1, h2⟩ := Dvs.getV (i := i) (v := v) t (by simpa using e)
    exact ⟨d, by simpa using h1, h2⟩
theorem Dvs.take : ∀ {vs : List V} {ds : List PyData} (n : Nat), Dvs K H vs ds → Dvs K H (vs.take n) (ds.take n)
  | _, _, 0, _ => .nil
  | _, _, _ + 1, .nil => .nil
  | _, _, n + 1, .cons h t => .cons h (Dvs.take n t)
theorem Dvs.drop : ∀ {vs : List V} {ds : List PyData} (n : Nat), Dvs K H vs ds → Dvs K H (vs.drop n) (ds.drop n)
  | _, _, 0, h => h
  | _, _, _ + 1, .nil => .nil
  | _, _, n + 1, .cons _ t => Dvs.drop n t
theorem Dvs.rev : ∀ {vs : List V} {ds : List PyData}, Dvs K H vs ds → Dvs K H vs.reverse ds.reverse
  | _, _, .nil => .nil
  | _, _, .cons h t => by rw [List.reverse_cons, List.reverse_cons]; exact (Dvs.rev t).app (.one h)
theorem Dvs.set {v : V} {d : PyData} (h : Dv K H v d) : ∀ {vs : List V} {ds : List PyData} (i : Nat), Dvs K H vs ds → Dvs K H (vs.set i v) (ds.set i d)
  | _, _, _, .nil => .nil
  | _, _, 0, .cons _ t => .cons h t
  | _, _, i + 1, .cons q t => .cons q (Dvs.set h i t)
theorem Dvs.dropLast : ∀ {vs : List V} {ds : List PyData}, Dvs K H vs ds → Dvs K H vs.dropLast ds.dropLast := fun {vs ds} h => by
  rw [List.dropLast_eq_take, List.dropLast_eq_take, h.length]
  exact h.take _
theorem Dvs.rep {vs : List V} {ds : List PyData} (h : Dvs K H vs ds) : ∀ k : Nat, Dvs K H (List.replicate k vs).flatten (List.replicate k ds).flatten
  | 0 => .nil
  | k + 1 => by rw [List.replicate_succ, List.replicate_succ, List.flatten_cons, List.flatten_cons]; exact h.app (Dvs.rep h k)
theorem Dvs.eraseIdx : ∀ {vs : List V} {ds : List PyData} (i : Nat), Dvs K H vs ds → Dvs K H (vs.eraseIdx i) (ds.eraseIdx i)
  | _, _, _, .nil => .nil
  | _, _, 0, .cons _ t => t
  | _, _, i + 1, .cons h t => .cons h (Dvs.eraseIdx i t)
theorem Dvs.ints : ∀ (ns : List Int), Dvs K H (ns.map V.int) (ns.map PyData.int)
  | [] => .nil
  | n :: ns => .cons (.int n) (Dvs.ints ns)
end

/-! ### what is hidden: the lists that a def alone holds -/
def hide (O : List Addr) (H : Hp) : Hp := fun a => if a ∈ O then none else H a
theorem hide_in {O : List Addr} {H : Hp} {a : Addr} (h : a ∈ O) : hide O H a = none := if_pos h
theorem hide_out {O : List Addr} {H : Hp} {a : Addr} (h : a ∉ O) : hide O H a = H a := if_neg h
theorem hide_le (O : List Addr) (H : Hp) : Same (hide O H) H := fun a o e => by
  by_cases h : a ∈ O
  · rw [hide_in h] at e; cases e
  · rw [hide_out h] at e; exact e
theorem hide_same {O : List Addr} {H H' : Hp} (s : Same H H') : Same (hide O H) (hide O H') := fun a o e => by
  by_cases h : a ∈ O
  · rw [hide_in h] at e; cases e
  · rw [hide_out h] at e ⊢; exact s a o e
theorem hide_sub {O O' : List Addr} {H : Hp} (s : ∀ a ∈ O', a ∈ O) : Same (hide O H) (hide O' H) := fun a o e => by
  by_cases h : a ∈ O
  · rw [hide_in h] at e; cases e
  · rw [hide_out h] at e; rw [hide_out fun z => h (s a z)]; exact e
theorem hide_nil (H : Hp) : hide [] H = H := by funext a; exact if_neg (by simp)

theorem same_upd {H : Hp} {a : Addr} {o : HO} (n : H a = none) : Same H (upd H a o) := fun b u e => by
  rw [upd_ne (ne_of_none e n)]; exact e
/-- a change at a hidden place -/
theorem hide_upd {O : List Addr} {H : Hp} {p : Addr} {o : HO} (h : p ∈ O) : hide O (upd H p o) = hide O H := by
  funext a
  by_cases ha : a ∈ O
  · rw [hide_in ha, hide_in ha]
  · rw [hide_out ha, hide_out ha]
    exact upd_ne fun e => ha (e ▸ h)

/-- what stands and is not hidden stays, and stays not hidden -/
def Keep (O : List Addr) (H : Hp) (O' : List Addr) (H' : Hp) : Prop := ∀ a o, H a = some o → a ∉ O → H' a = some o ∧ a ∉ O'
theorem Keep.refl (O : List Addr) (H : Hp) : Keep O H O H := fun _ _ e n => ⟨e, n⟩
theorem Keep.trans {O O1 O2 : List Addr} {H H1 H2 : Hp} (a : Keep O H O1 H1) (b : Keep O1 H1 O2 H2) : Keep O H O2 H2 := fun c o e n =>
  let ⟨e1, n1⟩ := a c o e n
  b c o e1 n1
theorem Keep.of {O : List Addr} {H H' : Hp} (s : Same H H') : Keep O H O H' := fun a o e n => ⟨s a o e, n⟩
theorem Keep.hide {O O' : List Addr} {H H' : Hp} (k : Keep O H O' H') : Same (hide O H) (hide O' H') := fun a o e => by
  by_cases h : a ∈ O
  · rw [hide_in h] at e; cases e
  · rw [hide_out h] at e
    obtain ⟨e1, n1⟩ := k a o e h
    rw [hide_out n1]; exact e1

theorem Keep.grow {O : List Addr} {H H' : Hp} {p : Addr} (n : H p = none) (e : Same H H') : Keep O H (p :: O) H' := fun a o q h => ⟨e a o q, by simp [ne_of_none q n, h]⟩
theorem Keep.change {O : List Addr} {H : Hp} {p : Addr} {u : HO} (hp : p ∈ O) : Keep O H O (upd H p u) := fun a o q h => ⟨by rw [upd_ne (show a ≠ p from fun z => h (by rw [z]; exact hp))]; exact q, h⟩
/-! ### the frame and its environment -/
/-- fixed in a def's body: the heap and the hidden at the entry, the wish about exceptions -/
structure Dc where
  H_0 : Hp
  O_0 : List Addr
  W : WX
  /-- the own dicts of the exceptions that are held: their one field -/
  F : List (Addr × Str × PyData) := []
  /-- the exception that a suite holds -/
  ax : Option (Addr × Value × Option Addr) := none
  mg : Str → Option Value := fun _ => none
  /-- where the lists that loops walk stand -/
  pin : Nat → Option Addr := fun _ => none
def PinOk (c : Dc) (w : Ow) (p : Addr) : Prop := match w with
  | .pin t _ => c.pin t = some p
  | _ => True
def ExF (K : PySem.W.Frag) (O : List Addr) (H : Hp) (t : Addr × Str × PyData) : Prop := t.1 ∉ O ∧ ∃ v, H t.1 = some (.xd [(t.2.1, v)]) ∧ Dv K (hide O H) v t.2.2
theorem ExF.keep {K : PySem.W.Frag} {O O' : List Addr} {H H' : Hp} {t : Addr × Str × PyData} (h : ExF K O H t) (k : Keep O H O' H') : ExF K O' H' t := by
  obtain ⟨n, v, e, d⟩ := h
  obtain ⟨e', n'⟩ := k _ _ e n
  exact ⟨n', v, e', d.same k.hide⟩
/-- the fields of an instance -/
inductive Fds (K : PySem.W.Frag) (H : Hp) : List (Str × V) → List (Str × PyData) → Prop
  | nil : Fds K H [] []
  | cons {f : Str} {v : V} {vs : List (Str × V)} {d : PyData} {ds : List (Str × PyData)} : Dv K H v d → Fds K H vs ds → Fds K H ((f, v) :: vs) ((f, d) :: ds)
theorem Fds.same {K : PySem.W.Frag} {H H' : Hp} (e : Same H H') : ∀ {vs : List (Str × V)} {ds : List (Str × PyData)}, Fds K H vs ds → Fds K H' vs ds
  | _, _, .nil => .nil
  | _, _, .cons h t => .cons (h.same e) (Fds.same e t)
/-- the own dict of an exception with one field -/
def ExFs (K : PySem.W.Frag) (O : List Addr) (H : Hp) (d : Option Addr) (fs : List (Str × PyData)) : Prop := match fs with
  | [] => True
  | [(f, x)] => ∃ p v, d = some p ∧ p ∉ O ∧ H p = some (.xd [(f, v)]) ∧ Dv K (hide O H) v x
  | _ => False
theorem ExFs.keep {K : PySem.W.Frag} {O O' : List Addr} {H H' : Hp} {d : Option Addr} {fs : List (Str × PyData)} (h : ExFs K O H d fs) (k : Keep O H O' H') : ExFs K O' H' d fs := by
  cases fs with
  | nil => trivial
  | cons q r =>
    cases r with
    | cons _ _ => exact h
    | nil =>
      obtain ⟨p, v, h1, h2, h3, h4⟩ := h
      obtain ⟨h5, h6⟩ := k _ _ h3 h2
      exact ⟨p, v, h1, h6, h5, h4.same k.hide⟩
def SR (K : PySem.W.Frag) (c : Dc) (O : List Addr) (H : Hp) : Sl → Option (Option V) → Prop
  | .un, _ => True
  | .exv n fs, o => ∃ a cls d C, c.ax = some (a, cls, d) ∧ o = some (some (.ref a)) ∧ c.mg n = some (.ref C) ∧ cls = .ref C ∧ ExFs K O H d fs
  | .obj n fs, o => ∃ C p dx vs, c.mg n = some (.ref C) ∧ o = some (some (.ref p)) ∧ p ∉ O ∧ H p = some (.ins C dx vs) ∧ Fds K (hide O H) vs fs
  | .dat d, o => ∃ v, o = some (some v) ∧ Dv K (hide O H) v d
  | .own w, o => ∃ p u, o = some (some (.ref p)) ∧ p ∈ O ∧ (c.H_0 p = none ∧ PinOk c w p) ∧ H p = some u ∧ OwR K (hide O H) u w
structure Rel (K : PySem.W.Frag) (c : Dc) (O : List Addr) (H : Hp) (env : Ev) (σ : St) : Prop where
  same : Same c.H_0 H
  sub : ∀ a ∈ c.O_0, a ∈ O
  dom0 : ∀ a ∈ c.O_0, Mut (c.H_0 a)
  dom : ∀ a ∈ O, Mut (H a)
  new : ∀ a ∈ O, a ∈ c.O_0 ∨ c.H_0 a = none
  len : env.length = σ.length
  slots : ∀ (i : Nat) (s : Sl), env[i]? = some s → SR K c O H s σ[i]?
  inj : ∀ (i j : Nat) (ds es : Ow) (p : Addr), env[i]? = some (.own ds) → env[j]? = some (.own es) → σ[i]? = some (some (.ref p)) → σ[j]? = some (some (.ref p)) → i = j
  exs : ∀ t ∈ c.F, ExF K O H t

section
variable {K : PySem.W.Frag} {c : Dc} {O : List Addr} {H H' : Hp} {env : Ev} {σ : St}
theorem SR.ext {s : Sl} {o : Option (Option V)} (h : SR K c O H s o) (e : Same H H') : SR K c O H' s o := by
  cases s with
  | un => trivial
  | exv _ _ =>
    obtain ⟨a, cls, d, C, h1, h2, h3, h4, h5⟩ := h
    exact ⟨a, cls, d, C, h1, h2, h3, h4, h5.keep (Keep.of e)⟩
  | obj n fs =>
    obtain ⟨C, p, dx, vs, h1, h2, h0, h3, h4⟩ := h
    exact ⟨C, p, dx, vs, h1, h2, h0, e _ _ h3, h4.same (hide_same e)⟩
  | dat d =>
    obtain ⟨v, h1, h2⟩ := h
    exact ⟨v, h1, h2.same (hide_same e)⟩
  | own ds =>
    obtain ⟨p, vs, h1, h2, h3, h4, h5⟩ := h
    exact ⟨p, vs, h1, h2, h3, e _ _ h4, h5.same (hide_same e)⟩
theorem mut_same {H H' : Hp} {a : Addr} (e : Same H H') (m : Mut (H a)) : Mut (H' a) := by
  cases q : H a with
  | none => rw [q] at m; exact m.elim
  | some o => rw [e a o q]; rw [q] at m; exact m
theorem Rel.ext (r : Rel K c O H env σ) (e : Same H H') : Rel K c O H' env σ :=
  ⟨r.same.trans e, r.sub, r.dom0, fun a h => mut_same e (r.dom a h), r.new, r.len, fun i s h => (r.slots i s h).ext e, r.inj, fun t ht => (r.exs t ht).keep (Keep.of e)⟩
theorem Rel.dat {i : Nat} {d : PyData} (r : Rel K c O H env σ) (e : env[i]? = some (.dat d)) : ∃ v, σ[i]? = some (some v) ∧ Dv K (hide O H) v d := r.slots i _ e
theorem Rel.fresh (r : Rel K c O H env σ) {p : Addr} (h : H p = none) : p ∉ O := fun z => by
  have m := r.dom p z
  rw [h] at m; exact m
/-- a datum is stored -/
theorem Rel.put {i : Nat} {v : V} {d : PyData} (r : Rel K c O H env σ) (hi : i < env.length) (h : Dv K (hide O H) v d) : Rel K c O H (env.set i (.dat d)) (σ.set i (some v)) := by
  refine ⟨r.same, r.sub, r.dom0, r.dom, r.new, by rw [List.length_set, List.length_set]; exact r.len, fun j s e => ?_, fun a b ds es p ea eb sa sb => ?_, r.exs⟩
  · by_cases hj : i = j
    · subst hj
      rw [List.getElem?_set_self hi] at e; cases e
      exact ⟨v, by rw [List.getElem?_set_self (by rw [← r.len]; exact hi)], h⟩
    · rw [List.getElem?_set_ne hj] at e ⊢
      exact r.slots j s e
  · have ha : i ≠ a := by rintro rfl; rw [List.getElem?_set_self hi] at ea; cases ea
    have hb : i ≠ b := by rintro rfl; rw [List.getElem?_set_self hi] at eb; cases eb
    rw [List.getElem?_set_ne ha] at ea sa
    rw [List.getElem?_set_ne hb] at eb sb
    exact r.inj a b ds es p ea eb sa sb
theorem Rel.wipe1 {i : Nat} (r : Rel K c O H env σ) (o : Option V) : Rel K c O H (env.set i .un) (σ.set i o) := by
  refine ⟨r.same, r.sub, r.dom0, r.dom, r.new, by rw [List.length_set, List.length_set]; exact r.len, fun j s e => ?_, fun a b ds es p ea eb sa sb => ?_, r.exs⟩
  · by_cases hj : i = j
    · subst hj
      by_cases hi : i < env.length
      · rw [List.getElem?_set_self hi] at e; cases e; trivial
      · rw [List.getElem?_eq_none (by rw [List.length_set]; omega)] at e; cases e
    · rw [List.getElem?_set_ne hj] at e ⊢
      exact r.slots j s e
  · have ha : i ≠ a := by
      rintro rfl
      by_cases hi : i < env.length
      · rw [List.getElem?_set_self hi] at ea; cases ea
      · rw [List.getElem?_eq_none (by rw [List.length_set]; omega)] at ea; cases ea
    have hb : i ≠ b := by
      rintro rfl
      by_cases hi : i < env.length
      · rw [List.getElem?_set_self hi] at eb; cases eb
      · rw [List.getElem?_eq_none (by rw [List.length_set]; omega)] at eb; cases eb
    rw [List.getElem?_set_ne ha] at ea sa
    rw [List.getElem?_set_ne hb] at eb sb
    exact r.inj a b ds es p ea eb sa sb
/-- less is hidden: a list is let go -/
theorem SR.more {s : Sl} {o : Option (Option V)} {O' : List Addr} (h : SR K c O H s o) (hs : ∀ a ∈ O', a ∈ O) (ho : ∀ p, o = some (some (.ref p)) → p ∈ O → (∃ ds, s = .own ds) → p ∈ O') : SR K c O' H s o := by
  cases s with
  | un => trivial
  | exv _ _ =>
    obtain ⟨a, cls, d, C, h1, h2, h3, h4, h5⟩ := h
    exact ⟨a, cls, d, C, h1, h2, h3, h4, h5.keep fun b o q nb => ⟨q, fun z => nb (hs _ z)⟩⟩
  | obj n fs =>
    obtain ⟨C, p, dx, vs, h1, h2, h0, h3, h4⟩ := h
    exact ⟨C, p, dx, vs, h1, h2, fun z => h0 (hs _ z), h3, h4.same (hide_sub hs)⟩
  | dat d =>
    obtain ⟨v, h1, h2⟩ := h
    exact ⟨v, h1, h2.same (hide_sub hs)⟩
  | own ds =>
    obtain ⟨p, vs, h1, h2, h3, h4, h5⟩ := h
    exact ⟨p, vs, h1, ho p h1 h2 ⟨ds, rfl⟩, h3, h4, h5.same (hide_sub hs)⟩
def freeze (i : Nat) (env : Ev) : Ev := match env[i]? with
  | some (.own ds) => env.set i (.dat ds.data)
  | _ => env
theorem Rel.freeze (i : Nat) (r : Rel K c O H env σ) : ∃ O', Rel K c O' H (freeze i env) σ ∧ Keep O H O' H := by
  unfold DL.freeze
  split
  · rename_i ds e
    have hi : i < env.length := (List.getElem?_eq_some_iff.mp e).1
    obtain ⟨p, vs, h1, h2, h3, h4, h5⟩ := r.slots i _ e
    have sub : ∀ a ∈ O.filter (fun a => decide (a ≠ p)), a ∈ O := fun a h => (List.mem_filter.mp h).1
    have out : p ∉ O.filter (fun a => decide (a ≠ p)) := fun h => by simpa using (List.mem_filter.mp h).2
    refine ⟨O.filter (fun a => decide (a ≠ p)), ⟨r.same, fun a h => List.mem_filter.mpr ⟨r.sub a h, ?_⟩, r.dom0, fun a h => r.dom a (sub a h), fun a h => r.new a (sub a h), by rw [List.length_set]; exact r.len, fun j s ej => ?_, fun a b ds' es p' ea eb sa sb => ?_, fun t ht => (r.exs t ht).keep fun a o ea na => ⟨ea, fun z => na (sub a z)⟩⟩, fun a o ea na => ⟨ea, fun z => na (sub a z)⟩⟩
    · refine decide_eq_true fun z => ?_
      subst z
      have m := r.dom0 a h
      rw [h3.1] at m; exact m
    · by_cases hj : i = j
      · subst hj
        rw [List.getElem?_set_self hi] at ej; cases ej
        exact ⟨.ref p, h1, (h5.same (hide_sub sub)).dv (.inl (by rw [hide_out out]; exact h4))⟩
      · rw [List.getElem?_set_ne hj] at ej
        refine (r.slots j s ej).more sub fun q eq hq ⟨es, he⟩ => List.mem_filter.mpr ⟨hq, decide_eq_true fun z => ?_⟩
        subst z; subst he
        exact hj (r.inj i j ds es q e ej h1 eq)
    · have ha : i ≠ a := by rintro rfl; rw [List.getElem?_set_self hi] at ea; cases ea
      have hb : i ≠ b := by rintro rfl; rw [List.getElem?_set_self hi] at eb; cases eb
      rw [List.getElem?_set_ne ha] at ea
      rw [List.getElem?_set_ne hb] at eb
      exact r.inj a b ds' es p' ea eb sa sb
  · exact ⟨O, r, Keep.refl _ _⟩
/-- a new thing that this def alone holds -/
theorem Rel.grow {p : Addr} (r : Rel K c O H env σ) (n : H p = none) (e : Same H H') (m : Mut (H' p)) : Rel K c (p :: O) H' env σ := by
  have n0 : c.H_0 p = none := r.same.free n
  have hs : Same (hide O H) (hide (p :: O) H') := fun a o q => by
    by_cases h : a ∈ O
    · rw [hide_in h] at q; cases q
    · rw [hide_out h] at q
      have ha : a ≠ p := ne_of_none q n
      rw [hide_out (by simp [ha, h])]; exact e a o q
  refine ⟨r.same.trans e, fun a h => List.mem_cons_of_mem _ (r.sub a h), r.dom0, fun a h => ?_, fun a h => ?_, r.len, fun i s h => ?_, r.inj, fun t ht => (r.exs t ht).keep (Keep.grow n e)⟩
  · rcases List.mem_cons.mp h with rfl | h
    · exact m
    · exact mut_same e (r.dom a h)
  · rcases List.mem_cons.mp h with rfl | h
    · exact .inr n0
    · exact r.new a h
  · have q := r.slots i s h
    cases s with
    | un => trivial
    | exv _ _ =>
      obtain ⟨a, cls, d, C, h1, h2, h3, h4, h5⟩ := q
      exact ⟨a, cls, d, C, h1, h2, h3, h4, h5.keep (Keep.grow n e)⟩
    | obj nm fs =>
      obtain ⟨C, p', dx, vs, h1, h2, h0, h3, h4⟩ := q
      exact ⟨C, p', dx, vs, h1, h2, by simp [ne_of_none h3 n, h0], e _ _ h3, h4.same hs⟩
    | dat d =>
      obtain ⟨v, h1, h2⟩ := q
      exact ⟨v, h1, h2.same hs⟩
    | own w =>
      obtain ⟨p', u, h1, h2, h3, h4, h5⟩ := q
      exact ⟨p', u, h1, List.mem_cons_of_mem _ h2, h3, e _ _ h4, h5.same hs⟩
/-- the slot's old owner is forgotten -/
theorem Rel.putOwn {i : Nat} {p : Addr} {u : HO} {w : Ow} (r : Rel K c O H env σ) (hi : i < env.length) (hp : p ∈ O) (h0 : c.H_0 p = none) (hu : H p = some u) (hw : OwR K (hide O H) u w) (hn : ∀ (j : Nat) (w' : Ow), env[j]? = some (.own w') → σ[j]? = some (some (.ref p)) → j = i) (hq : PinOk c w p := by trivial) :
    Rel K c O H (env.set i (.own w)) (σ.set i (some (.ref p))) := by
  have hi' : i < σ.length := by rw [← r.len]; exact hi
  refine ⟨r.same, r.sub, r.dom0, r.dom, r.new, by rw [List.length_set, List.length_set]; exact r.len, fun j s e => ?_, fun a b ds es q ea eb sa sb => ?_, r.exs⟩
  · by_cases hj : i = j
    · subst hj
      rw [List.getElem?_set_self hi] at e; cases e
      exact ⟨p, u, by rw [List.getElem?_set_self hi'], hp, ⟨h0, hq⟩, hu, hw⟩
    · rw [List.getElem?_set_ne hj] at e ⊢
      exact r.slots j s e
  · by_cases ha : i = a
    · by_cases hb : i = b
      · exact ha.symm.trans hb
      · subst ha
        rw [List.getElem?_set_self hi'] at sa; cases sa
        rw [List.getElem?_set_ne hb] at eb sb
        exact (hn b es eb sb).symm
    · by_cases hb : i = b
      · subst hb
        rw [List.getElem?_set_self hi'] at sb; cases sb
        rw [List.getElem?_set_ne ha] at ea sa
        exact hn a ds ea sa
      · rw [List.getElem?_set_ne ha] at ea sa
        rw [List.getElem?_set_ne hb] at eb sb
        exact r.inj a b ds es q ea eb sa sb
/-- what this def holds is changed in its place -/
theorem Rel.change {i : Nat} {p : Addr} {u : HO} {w w' : Ow} (r : Rel K c O H env σ) (e : env[i]? = some (.own w)) (ep : σ[i]? = some (some (.ref p))) (hp : p ∈ O) (h0 : c.H_0 p = none) (hw : OwR K (hide O H) u w') (hq : PinOk c w' p := by trivial) :
    Rel K c O (upd H p u) (env.set i (.own w')) σ := by
  have hi : i < env.length := (List.getElem?_eq_some_iff.mp e).1
  have hh : hide O (upd H p u) = hide O H := hide_upd hp
  refine ⟨fun a o q => ?_, r.sub, r.dom0, fun a h => ?_, r.new, by rw [List.length_set]; exact r.len, fun j s q => ?_, fun a b ds es q ea eb sa sb => ?_, fun t ht => (r.exs t ht).keep (Keep.change hp)⟩
  · rw [upd_ne (ne_of_none q h0)]; exact r.same a o q
  · by_cases ha : a = p
    · subst ha; rw [upd_same]; exact hw.mut
    · rw [upd_ne ha]; exact r.dom a h
  · by_cases hj : i = j
    · subst hj
      rw [List.getElem?_set_self hi] at q; cases q
      exact ⟨p, u, ep, hp, ⟨h0, hq⟩, upd_same, by rw [hh]; exact hw⟩
    · rw [List.getElem?_set_ne hj] at q
      have z := r.slots j s q
      cases s with
      | un => trivial
      | exv _ _ =>
        obtain ⟨a, cls, d, C, h1, h2, h3, h4, h5⟩ := z
        exact ⟨a, cls, d, C, h1, h2, h3, h4, h5.keep (Keep.change hp)⟩
      | obj n fs =>
        obtain ⟨C, p', dx, vs, h1, h2, hn0, h3, h4⟩ := z
        have hne : p' ≠ p := fun z => hn0 (by rw [z]; exact hp)
        exact ⟨C, p', dx, vs, h1, h2, hn0, by rw [upd_ne hne]; exact h3, by rw [hh]; exact h4⟩
      | dat d =>
        obtain ⟨v, h1, h2⟩ := z
        exact ⟨v, h1, by rw [hh]; exact h2⟩
      | own w2 =>
        obtain ⟨p', u', h1, h2, h3, h4, h5⟩ := z
        have hne : p' ≠ p := by
          rintro rfl
          exact hj (r.inj i j w w2 _ e q ep h1)
        exact ⟨p', u', h1, h2, h3, by rw [upd_ne hne]; exact h4, by rw [hh]; exact h5⟩
  · have ea' : ∃ d, env[a]? = some (.own d) := by
      by_cases ha : i = a
      · subst ha; exact ⟨w, e⟩
      · rw [List.getElem?_set_ne ha] at ea; exact ⟨ds, ea⟩
    have eb' : ∃ d, env[b]? = some (.own d) := by
      by_cases hb : i = b
      · subst hb; exact ⟨w, e⟩
      · rw [List.getElem?_set_ne hb] at eb; exact ⟨es, eb⟩
    obtain ⟨d1, e1⟩ := ea'
    obtain ⟨d2, e2⟩ := eb'
    exact r.inj a b d1 d2 q e1 e2 sa sb
end
end DL

set_option Elab.async false
set_option linter.all false
set_option maxRecDepth 100000
set_option maxHeartbeats 1000000
namespace DL
open PySem PySem.Spec L2
set_option autoImplicit false

/-- an exception of the own class that the module calls n, with its fields -/
def ExcR (mg : Str → Option Value) (K : PySem.W.Frag) (O : List Addr) (H : Hp) (n : Str) (fs : List (Str × PyData)) (cls : Value) (dd : Option Addr) : Prop :=
  ∃ C : Addr, mg n = some (.ref C) ∧ cls = .ref C ∧ match fs with
    | [] => True
    | [(f, d)] => ∃ (p : Addr) (v : V), dd = some p ∧ H p = some (.xd [(f, v)]) ∧ Dv K (hide O H) v d
    | _ => False
def Res {α : Type} (X : Cx) (c : Dc) (O : List Addr) (σ : L2.St) (H : Hp) (r : R α) (k : α → Prop) : Prop :=
  match r with
  | .ok a => k a
  | .error (.exc n fs) => ∀ (cls : Value) (dd : Option Addr) (H' : Hp), Same H H' → ExcR X.mg X.K O H' n fs cls dd → c.W cls dd σ H'
  | .error .stuck => False
def Bv (K : PySem.W.Frag) (c : Dc) (O : List Addr) (H : Hp) (v : V) (d : PyData) : Prop :=
  Dv K (hide O H) v d ∨ ∃ (p : Addr) (u : HO) (w : Ow), v = .ref p ∧ d = w.data ∧ p ∉ c.O_0 ∧ H p = some u ∧ OwR K (hide O H) u w
inductive Bvs (K : PySem.W.Frag) (c : Dc) (O : List Addr) (H : Hp) : List V → List PyData → Prop
  | nil : Bvs K c O H [] []
  | cons {v : V} {vs : List V} {d : PyData} {ds : List PyData} : Bv K c O H v d → Bvs K c O H vs ds → Bvs K c O H (v :: vs) (d :: ds)
def rdE (X : Cx) (c : Dc) (f : DE) : TE := fun σ H Q => ∃ O env, Rel X.K c O H env σ ∧ Res X c O σ H (f env) fun d => ∀ v H', Same H H' → Dv X.K (hide O H') v d → Q v H'
def rdB (X : Cx) (c : Dc) (f : DE) : TE := fun σ H Q => ∃ O env, Rel X.K c O H env σ ∧ Res X c O σ H (f env) fun d => ∀ v H', Same H H' → Bv X.K c O H' v d → Q v H'
def rdT (X : Cx) (c : Dc) (f : DT) : TT := fun σ H Q => ∃ O env, Rel X.K c O H env σ ∧ Res X c O σ H (f env) fun b => ∀ H', Same H H' → Q b H'
def rdA (X : Cx) (c : Dc) (f : DA) : TA := fun σ H Q => ∃ O env, Rel X.K c O H env σ ∧ Res X c O σ H (f env) fun ds => ∀ vs H', Same H H' → Dvs X.K (hide O H') vs ds → Q vs H'
def rdBs (X : Cx) (c : Dc) (f : DA) : TA := fun σ H Q => ∃ O env, Rel X.K c O H env σ ∧ Res X c O σ H (f env) fun ds => ∀ vs H', Same H H' → Bvs X.K c O H' vs ds → Q vs H'
/-- a new list: nobody holds it -/
def rdF (X : Cx) (c : Dc) (f : DA) : TE := fun σ H Q => ∃ O env, Rel X.K c O H env σ ∧ Res X c O σ H (f env) fun ds => ∀ p vs H', Same H H' → H p = none → H' p = some (.lst vs) → Dvs X.K (hide (p :: O) H') vs ds → Q (.ref p) H'

abbrev EE (X : Cx) (c : Dc) (e : Expr) (f : DE) : Prop := PE X e (rdE X c f)
abbrev EB (X : Cx) (c : Dc) (e : Expr) (f : DE) : Prop := PE X e (rdB X c f)
abbrev EF (X : Cx) (c : Dc) (e : Expr) (f : DA) : Prop := PE X e (rdF X c f)
abbrev ET (X : Cx) (c : Dc) (e : Expr) (f : DT) : Prop := PT X e (rdT X c f)
abbrev EW (X : Cx) (c : Dc) (e : Expr) (f : DT) : Prop := PW X e (rdT X c f)
abbrev EA (X : Cx) (c : Dc) (es : List Expr) (f : DA) : Prop := PA X es (rdA X c f)
abbrev EBs (X : Cx) (c : Dc) (es : List Expr) (f : DA) : Prop := PA X es (rdBs X c f)

theorem PE.imp {X : Cx} {e : Expr} {t t' : TE} (h : PE X e t) (i : ∀ σ H Q, t' σ H Q → t σ H Q) : PE X e t' := ⟨fun pins s σ H Q I q => h.run pins s σ H Q I (i σ H Q q)⟩
theorem PT.imp {X : Cx} {e : Expr} {t t' : TT} (h : PT X e t) (i : ∀ σ H Q, t' σ H Q → t σ H Q) : PT X e t' := ⟨fun pins s σ H Q I q => h.run pins s σ H Q I (i σ H Q q)⟩
theorem PW.imp {X : Cx} {e : Expr} {t t' : TT} (h : PW X e t) (i : ∀ σ H Q, t' σ H Q → t σ H Q) : PW X e t' := ⟨fun w pins s σ H Q I q => h.run w pins s σ H Q I (i σ H Q q)⟩
theorem PA.imp {X : Cx} {es : List Expr} {t t' : TA} (h : PA X es t) (i : ∀ σ H Q, t' σ H Q → t σ H Q) : PA X es t' := ⟨fun p pins s σ H Q I q => h.run p pins s σ H Q I (i σ H Q q)⟩
theorem PS.imp {X : Cx} {e : Stmt} {t t' : TS} (h : PS X e t) (i : ∀ D σ H, t' D σ H → t D σ H) : PS X e t' := ⟨fun pins s σ H D I q => h.run pins s σ H D I (i D σ H q)⟩
theorem PSs.imp {X : Cx} {e : List Stmt} {t t' : TS} (h : PSs X e t) (i : ∀ D σ H, t' D σ H → t D σ H) : PSs X e t' := ⟨fun pins s σ H D I q => h.run pins s σ H D I (i D σ H q)⟩

section
variable {X : Cx} {c : Dc} {O : List Addr} {σ : L2.St} {H H1 : Hp}
theorem Res.bind {α β : Type} {r : R α} {g : α → R β} {k : β → Prop} (h : Res X c O σ H (r >>= g) k) : Res X c O σ H r fun a => Res X c O σ H (g a) k := by
  cases r with
  | ok a => exact h
  | error e => cases e <;> exact h
theorem Res.ext {α : Type} {r : R α} {k k' : α → Prop} (s : Same H H1) (h : Res X c O σ H r k) (i : ∀ a, k a → k' a) : Res X c O σ H1 r k' := by
  cases r with
  | ok a => exact i a h
  | error e =>
    cases e with
    | stuck => exact h
    | exc n fs => exact fun cls dd H' s' e => h cls dd H' (s.trans s') e
theorem Res.imp {α : Type} {r : R α} {k k' : α → Prop} (h : Res X c O σ H r k) (i : ∀ a, k a → k' a) : Res X c O σ H r k' := h.ext (Same.refl H) i
theorem Res.ok {α : Type} {a : α} {k : α → Prop} (h : Res X c O σ H (.ok a) k) : k a := h
theorem Bv.of {K : PySem.W.Frag} {v : V} {d : PyData} (h : Dv K (hide O H) v d) : Bv K c O H v d := .inl h
theorem Bv.ext {K : PySem.W.Frag} {v : V} {d : PyData} (s : Same H H1) (h : Bv K c O H v d) : Bv K c O H1 v d := by
  rcases h with h | ⟨p, vs, ds, h1, h2, h3, h4, h5⟩
  · exact .inl (h.same (hide_same s))
  · exact .inr ⟨p, vs, ds, h1, h2, h3, s _ _ h4, h5.same (hide_same s)⟩
theorem Bv.dv {K : PySem.W.Frag} {v : V} {d : PyData} (h : Bv K c O H v d) : Dv K H v d := by
  rcases h with h | ⟨p, vs, ds, rfl, rfl, h3, h4, h5⟩
  · exact h.same (hide_le O H)
  · exact (h5.same (hide_le O H)).dv (.inl h4)
theorem Bv.dv0 {K : PySem.W.Frag} {v : V} {d : PyData} (h : Bv K c O H v d) (hs : ∀ a ∈ c.O_0, a ∈ O) : Dv K (hide c.O_0 H) v d := by
  rcases h with h | ⟨p, vs, ds, rfl, rfl, h3, h4, h5⟩
  · exact h.same (hide_sub hs)
  · exact (h5.same (hide_sub hs)).dv (.inl (by rw [hide_out h3]; exact h4))
theorem Bv.int {K : PySem.W.Frag} {v : V} {i : Int} (h : Bv K c O H v (.int i)) : v = .int i := by
  rcases h with h | ⟨p, vs, ds, _, h2, _⟩
  · cases h; rfl
  · cases ds <;> cases h2
theorem Bv.bl {K : PySem.W.Frag} {v : V} {i : Bool} (h : Bv K c O H v (.bool i)) : v = .bl i := by
  rcases h with h | ⟨p, vs, ds, _, h2, _⟩
  · cases h; rfl
  · cases ds <;> cases h2
theorem Bv.str {K : PySem.W.Frag} {v : V} {i : Str} (h : Bv K c O H v (.str i)) : v = .str i := by
  rcases h with h | ⟨p, vs, ds, _, h2, _⟩
  · cases h; rfl
  · cases ds <;> cases h2
theorem Bv.tup {K : PySem.W.Frag} {v : V} {es : List PyData} (h : Bv K c O H v (.tuple es)) : ∃ a vs, v = .ref a ∧ SqT K H a vs ∧ SqT K (hide O H) a vs ∧ Dvs K (hide O H) vs es := by
  rcases h with h | ⟨p, vs, ds, _, h2, _⟩
  · cases h with
    | tup h t => exact ⟨_, _, rfl, sqT_same (hide_le O H) h, h, t⟩
  · cases ds <;> cases h2
theorem Bv.lst {K : PySem.W.Frag} {v : V} {ds : List PyData} (h : Bv K c O H v (.list ds)) : ∃ a vs, v = .ref a ∧ SqL K H a vs ∧ Dvs K (hide O H) vs ds := by
  rcases h with h | ⟨p, vs, ds', rfl, h2, h3, h4, h5⟩
  · cases h with
    | lst h t => exact ⟨_, _, rfl, Same.seq (hide_le O H) h, t⟩
  · cases ds' <;> cases h2
    · cases vs <;> first | exact h5.elim | skip
      exact ⟨p, _, rfl, .inl (.inl h4), h5⟩
    · cases vs <;> first | exact h5.elim | skip
      exact ⟨p, _, rfl, .inl (.inl h4), h5⟩
theorem Bv.dic {K : PySem.W.Frag} {v : V} {qs : List (PyData × PyData)} (h : Bv K c O H v (.dict qs)) : ∃ a kvs ps, v = .ref a ∧ Rd H a (.dK kvs) ∧ qs = ps.map keyPair ∧ Dks K (hide O H) kvs ps := by
  rcases h with h | ⟨p, u, w, rfl, h2, h3, h4, h5⟩
  · cases h with
    | dct h t q => exact ⟨_, _, _, rfl, rd_same (hide_le O H) h, q, t⟩
  · cases w <;> cases h2
    cases u <;> first | exact h5.elim | skip
    exact ⟨p, _, _, rfl, .inl h4, rfl, h5⟩

variable {e : Expr} {f : DE} {pos : Pos}
theorem toB (h : EE X c e f) : EB X c e f := PE.imp h fun σ H Q ⟨O, env, r, q⟩ => ⟨O, env, r, q.imp fun d k v H' s h => k v H' s (.inl h)⟩

/-! ### constants, names -/
def dC (d : PyData) : DE := fun _ => .ok d
def dVar (i : Nat) : DE := fun env => match env[i]? with
  | some (.dat d) => .ok d
  | _ => .error .stuck
def dVarB (i : Nat) : DE := fun env => match env[i]? with
  | some (.dat d) => .ok d
  | some (.own w) => .ok w.data
  | _ => .error .stuck
theorem e_int {i : Int} {j : Nat} : EE X c (.Constant (.int i) j pos) (dC (.int i)) := PE.imp pe_int fun σ H Q ⟨O, env, r, q⟩ => q _ H (Same.refl H) (.int i)
theorem e_bl {b : Bool} {j : Nat} : EE X c (.Constant (.bool b) j pos) (dC (.bool b)) := PE.imp pe_bl fun σ H Q ⟨O, env, r, q⟩ => q _ H (Same.refl H) (.bl b)
theorem e_non {j : Nat} : EE X c (.Constant .none j pos) (dC .none) := PE.imp pe_non fun σ H Q ⟨O, env, r, q⟩ => q _ H (Same.refl H) .non
theorem e_str {x : Str} {j : Nat} : EE X c (.Constant (.str x) j pos) (dC (.str x)) := PE.imp pe_str fun σ H Q ⟨O, env, r, q⟩ => q _ H (Same.refl H) (.str x)
theorem e_var (i : Nat) {x : Str} (hN : X.N[i]? = some x := by rfl) (hv : Vis X.env.scope x := by first | exact Or.inl rfl | exact Or.inr (Or.inl rfl) | exact Or.inr (Or.inr rfl)) (hd : (x == ("__debug__" : Str)) = false := by decide)
    (hcd : (x == ("__classdict__" : Str)) = false := by decide) : EE X c (.Name x pos) (dVar i) := PE.imp (pe_var hN hv hd hcd) fun σ H Q ⟨O, env, r, q⟩ => by
  unfold dVar at q
  split at q
  · rename_i d e
    obtain ⟨v, h1, h2⟩ := r.slots i _ e
    exact ⟨v, h1, q.ok v H (Same.refl H) h2⟩
  · exact q.elim
theorem e_varB (i : Nat) {x : Str} (hN : X.N[i]? = some x := by rfl) (hv : Vis X.env.scope x := by first | exact Or.inl rfl | exact Or.inr (Or.inl rfl) | exact Or.inr (Or.inr rfl)) (hd : (x == ("__debug__" : Str)) = false := by decide)
    (hcd : (x == ("__classdict__" : Str)) = false := by decide) : EB X c (.Name x pos) (dVarB i) := PE.imp (pe_var hN hv hd hcd) fun σ H Q ⟨O, env, r, q⟩ => by
  unfold dVarB at q
  split at q
  · rename_i d e
    obtain ⟨v, h1, h2⟩ := r.slots i _ e
    exact ⟨v, h1, q.ok v H (Same.refl H) (.inl h2)⟩
  · rename_i ds e
    obtain ⟨p, vs, h1, h2, h3, h4, h5⟩ := r.slots i _ e
    refine ⟨_, h1, q.ok _ H (Same.refl H) (.inr ⟨p, vs, ds, rfl, rfl, fun z => ?_, h4, h5⟩)⟩
    have m := r.dom0 p z
    rw [h3.1] at m; exact m
  · exact q.elim
/-- a module's constant -/
theorem e_glob {x : Str} {d : PyData} {v : V} {u : Value} (hg : Gl X x) (hm : X.mg x = some u) (rv : RelV v u) (hd : ∀ H : Hp, Dv X.K H v d) (hdb : (x == ("__debug__" : Str)) = false := by decide) : EE X c (.Name x pos) (dC d) :=
  PE.imp (pe_glob hg hm rv hdb) fun σ H Q ⟨O, env, r, q⟩ => q.ok v H (Same.refl H) (hd _)

/-! ### operators -/
def lift {α : Type} : Option α → R α
  | some a => .ok a
  | none => .error .stuck
def dBin (g : PyData → PyData → Option PyData) (fa fb : DE) : DE := fun env => do
  let x ← fa env
  let y ← fb env
  lift (g x y)
theorem Res.lift {α : Type} {o : Option α} {k : α → Prop} (h : Res X c O σ H (DL.lift o) k) : ∃ a, o = some a ∧ k a := by
  cases o with
  | none => exact h.elim
  | some a => exact ⟨a, rfl, h⟩
/-- what an operator's rule asks, told of data -/
def OpD (X : Cx) (r : R2) (g : PyData → PyData → Option PyData) : Prop := ∀ (c : Dc) (O : List Addr) (H : Hp) (x y : V) (d e z : PyData) (Q : VK), (∀ a ∈ O, Mut (H a)) → Bv X.K c O H x d → Bv X.K c O H y e → g d e = some z →
  (∀ v H', Same H H' → Dv X.K (hide O H') v z → Q v H') → r x y H Q
variable {a b : Expr} {fa fb : DE}
theorem rd_bin {r : R2} {g : PyData → PyData → Option PyData} (hd : OpD X r g) {Q : VK} (h : rdE X c (dBin g fa fb) σ H Q) : tOp r (rdB X c fa) (rdB X c fb) σ H Q := by
  obtain ⟨O, env, rel, q⟩ := h
  refine ⟨O, env, rel, q.bind.imp fun d q1 v H1 s1 b1 => ⟨O, env, rel.ext s1, (Res.bind q1).ext s1 fun e q2 w H2 s2 b2 => ?_⟩⟩
  obtain ⟨z, hz, k⟩ := q2.lift
  exact hd c O H2 v w d e z Q (fun a ha => (rel.ext (s1.trans s2)).dom a ha) (b1.ext s2) b2 hz fun v' H' s' hv => k v' H' ((s1.trans s2).trans s') hv
theorem e_op {op : Operator} {r : R2} {g : PyData → PyData → Option PyData} (ho : OpR X (binaryOp op) r) (hd : OpD X r g) (ha : EB X c a fa) (hb : EB X c b fb) : EE X c (.BinOp a op b pos) (dBin g fa fb) :=
  PE.imp (pe_op ho ha hb) fun σ H Q h => rd_bin hd h
theorem e_cmp {op : CmpOp} {r : R2} {g : PyData → PyData → Option PyData} (ho : OpR X (compareOp op) r) (hd : OpD X r g) (ha : EB X c a fa) (hb : EB X c b fb) (hm : behindInMarks op b = false := by first | exact nomark _ | rfl) : EE X c (.Compare a [op] [b] pos) (dBin g fa fb) :=
  PE.imp (pe_cmpR ho ha hb hm) fun σ H Q h => rd_bin hd h
def dBool (d : PyData) : Option Bool := match d with
  | .bool b => some b
  | _ => none
def dTest (f : DE) : DT := fun env => do
  let x ← f env
  lift (dBool x)
theorem Dv.bool {K : PySem.W.Frag} {H : Hp} {v : V} {d : PyData} {k : Bool} (h : Dv K H v d) (e : dBool d = some k) : v = .bl k := by
  cases h <;> first | (cases e; rfl) | cases e
theorem rd_test {t : TE} {f : DE} {Q : Bool → Hp → Prop} (ht : ∀ Q', rdE X c f σ H Q' → t σ H Q') (h : rdT X c (dTest f) σ H Q) : tTest t σ H Q := by
  obtain ⟨O, env, rel, q⟩ := h
  refine ht _ ⟨O, env, rel, q.bind.imp fun d q1 v H1 s1 b1 => ?_⟩
  obtain ⟨k, hk, q2⟩ := Res.lift q1
  exact ⟨k, b1.bool hk, q2 H1 s1⟩
theorem t_cmp {op : CmpOp} {r : R2} {g : PyData → PyData → Option PyData} (ho : OpR X (compareOp op) r) (hd : OpD X r g) (ha : EB X c a fa) (hb : EB X c b fb) (hm : behindInMarks op b = false := by first | exact nomark _ | rfl) : ET X c (.Compare a [op] [b] pos) (dTest (dBin g fa fb)) :=
  PT.imp (pt_cmpR ho ha hb hm) fun σ H Q h => rd_test (fun Q' h' => rd_bin hd h') h

def gI (f : Int → Int → PyData) : PyData → PyData → Option PyData
  | .int i, .int j => some (f i j)
  | _, _ => none
def gIC (C : Int → Int → Bool) (f : Int → Int → PyData) : PyData → PyData → Option PyData
  | .int i, .int j => if C i j = true then some (f i j) else none
  | _, _ => none
theorem opd_int0 {f : Int → Int → Int} : OpD X (rI0 fun i j => .int (f i j)) (gI fun i j => .int (f i j)) := fun c O H x y d e z Q _ hx hy hg k => by
  cases d <;> cases e <;> first | (cases hg; done) | skip
  cases hg
  exact ⟨_, _, hx.int, hy.int, k _ H (Same.refl H) (.int _)⟩
theorem opd_bool0 {f : Int → Int → Bool} : OpD X (rI0 fun i j => .bl (f i j)) (gI fun i j => .bool (f i j)) := fun c O H x y d e z Q _ hx hy hg k => by
  cases d <;> cases e <;> first | (cases hg; done) | skip
  cases hg
  exact ⟨_, _, hx.int, hy.int, k _ H (Same.refl H) (.bl _)⟩
theorem opd_intC {C : Int → Int → Prop} {B : Int → Int → Bool} {f : Int → Int → Int} (hB : ∀ i j, B i j = true → C i j) : OpD X (rI C fun i j => .int (f i j)) (gIC B fun i j => .int (f i j)) := fun c O H x y d e z Q _ hx hy hg k => by
  cases d <;> cases e <;> first | (cases hg; done) | skip
  rename_i i j
  unfold gIC at hg
  dsimp only at hg
  split at hg
  · rename_i hb
    cases hg
    exact ⟨_, _, hx.int, hy.int, hB _ _ hb, k _ H (Same.refl H) (.int _)⟩
  · cases hg
theorem OpD.or {r r' : R2} {g g' : PyData → PyData → Option PyData} (h : OpD X r g) (h' : OpD X r' g') : OpD X (fun x y H Q => r x y H Q ∨ r' x y H Q) (fun d e => (g d e).or (g' d e)) := fun c O H x y d e z Q m hx hy hg k => by
  have hg : (g d e).or (g' d e) = some z := hg
  cases q : g d e with
  | none =>
    rw [q] at hg
    exact .inr (h' c O H x y d e z Q m hx hy hg k)
  | some w =>
    rw [q] at hg
    exact .inl (h c O H x y d e z Q m hx hy (q.trans hg) k)
end
end DL

set_option Elab.async false
set_option linter.all false
set_option maxRecDepth 100000
set_option maxHeartbeats 1000000
namespace DL
open PySem PySem.Spec L2 PyProof.Rows
set_option autoImplicit false
noncomputable section
abbrev St := L2.St

/-- the most items that we let a list or a tuple have -/
def LIM : Nat := 16000000
theorem lim_lt {n : Nat} (h : n < LIM) : n < sizeLine := Nat.lt_of_lt_of_le h (by rw [sizeLine_eq]; decide)
theorem lim_le {n : Nat} (h : n < LIM) : n ≤ sizeLine := Nat.le_of_lt (lim_lt h)
theorem hide_new {O : List Addr} {H : Hp} {p : Addr} {o : HO} (m : ∀ a ∈ O, Mut (H a)) (n : H p = none) : hide O (upd H p o) p = some o := by
  have : p ∉ O := fun z => by
    have q := m p z
    rw [n] at q; exact q
  rw [hide_out this, upd_same]

section
variable {X : Cx} {c : Dc} {O : List Addr} {σ : St} {H H1 : Hp}
/-- a new list at p, from items that stand -/
theorem Dv.newL {K : PySem.W.Frag} {p : Addr} {vs : List V} {ds : List PyData} (m : ∀ a ∈ O, Mut (H a)) (n : H p = none) (h : Dvs K (hide O H) vs ds) : Dv K (hide O (upd H p (.lst vs))) (.ref p) (.list ds) :=
  .lst (.inl (.inl (hide_new m n))) (h.same (hide_same (same_upd n)))
theorem Dv.newT {K : PySem.W.Frag} {p : Addr} {vs : List V} {ds : List PyData} (m : ∀ a ∈ O, Mut (H a)) (n : H p = none) (h : Dvs K (hide O H) vs ds) : Dv K (hide O (upd H p (.tup vs))) (.ref p) (.tuple ds) :=
  .tup (.inl (.inl (hide_new m n))) (h.same (hide_same (same_upd n)))

/-! ### int operators -/
def mulB0 (i j : Int) : Bool := (decide (-18446744073709551616 < i) && decide (i < 18446744073709551616)) || (decide (-18446744073709551616 < j) && decide (j < 18446744073709551616)) || decide (i.natAbs.log2 + j.natAbs.log2 < 1000000)
noncomputable def mulBo : { f : Int → Int → Bool // f = mulB0 } := Classical.choice ⟨⟨mulB0, rfl⟩⟩
def mulB : Int → Int → Bool := mulBo.1
theorem mulB_eq : mulB = mulB0 := mulBo.2
theorem mulB_l {i j : Int} (h : -18446744073709551616 < i) (h' : i < 18446744073709551616) : mulB i j = true := by rw [mulB_eq]; unfold mulB0; rw [decide_eq_true h, decide_eq_true h']; rfl
theorem mulB_r {i j : Int} (h : -18446744073709551616 < j) (h' : j < 18446744073709551616) : mulB i j = true := by rw [mulB_eq]; unfold mulB0; rw [decide_eq_true h, decide_eq_true h', Bool.and_self, Bool.or_true, Bool.true_or]
theorem op_mulA : OpR X (binaryOp .Mult) (fun x y H Q => rI CMul (fun i j => .int (i * j)) x y H Q ∨ rI CMulW (fun i j => .int (i * j)) x y H Q) := OpR.or op_mul op_mulW
theorem opd_mulA : OpD X (fun x y H Q => rI CMul (fun i j => .int (i * j)) x y H Q ∨ rI CMulW (fun i j => .int (i * j)) x y H Q) (gIC mulB fun i j => .int (i * j)) := fun c O H x y d e z Q _ hx hy hg k => by
  cases d <;> cases e <;> first | (cases hg; done) | skip
  rename_i i j
  unfold gIC at hg
  dsimp only at hg
  split at hg
  · rename_i hb
    cases hg
    rw [mulB_eq] at hb; unfold mulB0 at hb
    rw [Bool.or_eq_true, Bool.or_eq_true] at hb
    rcases hb with (hb | hb) | hb
    · rw [Bool.and_eq_true] at hb
      exact .inl ⟨_, _, hx.int, hy.int, .inl ⟨of_decide_eq_true hb.1, of_decide_eq_true hb.2⟩, k _ H (Same.refl H) (.int _)⟩
    · rw [Bool.and_eq_true] at hb
      exact .inl ⟨_, _, hx.int, hy.int, .inr ⟨of_decide_eq_true hb.1, of_decide_eq_true hb.2⟩, k _ H (Same.refl H) (.int _)⟩
    · exact .inr ⟨_, _, hx.int, hy.int, (of_decide_eq_true hb : i.natAbs.log2 + j.natAbs.log2 < 1000000), k _ H (Same.refl H) (.int _)⟩
  · cases hg
def divB0 (_ j : Int) : Bool := decide (0 < j) && decide (j.natAbs.log2 < 9000)
noncomputable def divBo : { f : Int → Int → Bool // f = divB0 } := Classical.choice ⟨⟨divB0, rfl⟩⟩
def divB : Int → Int → Bool := divBo.1
theorem divB_eq : divB = divB0 := divBo.2
theorem divB_of {i j : Int} (h : 0 < j) (h' : j < 2 ^ 1000) : divB i j = true := by
  rw [divB_eq]; unfold divB0
  have e : j.natAbs < 2 ^ 1000 := by
    have : (j.natAbs : Int) = j := Int.natAbs_of_nonneg (Int.le_of_lt h)
    omega
  rw [decide_eq_true h, decide_eq_true (Nat.lt_of_lt_of_le (PySem.Flt.log2_lt_of (by decide) e) (by decide))]; rfl
def modB (_ j : Int) : Bool := decide (0 < j)
def shrB (_ j : Int) : Bool := decide (0 ≤ j)
def shlB0 (i j : Int) : Bool := decide (0 ≤ j) && decide (j ≤ 1000000) && decide (i.natAbs < 18446744073709551616)
noncomputable def shlBo : { f : Int → Int → Bool // f = shlB0 } := Classical.choice ⟨⟨shlB0, rfl⟩⟩
def shlB : Int → Int → Bool := shlBo.1
theorem shlB_eq : shlB = shlB0 := shlBo.2
theorem opd_fdiv : OpD X (rI CDivW fun i j => .int (i / j)) (gIC divB fun i j => .int (i / j)) := opd_intC fun i j h => by
  rw [divB_eq] at h; unfold divB0 at h
  rw [Bool.and_eq_true] at h
  exact ⟨of_decide_eq_true h.1, of_decide_eq_true h.2⟩
theorem opd_mod : OpD X (rI (fun _ j => 0 < j) fun i j => .int (i % j)) (gIC modB fun i j => .int (i % j)) := opd_intC fun i j h => of_decide_eq_true h
theorem opd_shr : OpD X (rI (fun _ j => 0 ≤ j) fun i j => .int (i / 2 ^ j.toNat)) (gIC shrB fun i j => .int (i / 2 ^ j.toNat)) := opd_intC fun i j h => of_decide_eq_true h
theorem shlB_of {i j : Int} (h : 0 ≤ j) (h' : j ≤ 1000000) (hi : i.natAbs < 18446744073709551616) : shlB i j = true := by rw [shlB_eq]; unfold shlB0; rw [decide_eq_true h, decide_eq_true h', decide_eq_true hi]; rfl
theorem cpow_of {i j : Int} (h : shlB i j = true) : CPow i j := by
  rw [shlB_eq] at h; unfold shlB0 at h
  rw [Bool.and_eq_true, Bool.and_eq_true] at h
  exact ⟨of_decide_eq_true h.1.1, of_decide_eq_true h.1.2, of_decide_eq_true h.2⟩
theorem opd_shl : OpD X (rI CPow fun i j => .int (i * 2 ^ j.toNat)) (gIC shlB fun i j => .int (i * 2 ^ j.toNat)) := opd_intC fun i j h => cpow_of h
theorem opd_pow : OpD X (rI CPow fun i j => .int (i ^ j.toNat)) (gIC shlB fun i j => .int (i ^ j.toNat)) := opd_intC fun i j h => cpow_of h

/-! ### + on ints, texts, tuples, lists -/
def rCatR (K : PySem.W.Frag) : R2 := fun x y H Q => ∃ l b xs zs, x = .ref l ∧ y = .ref b ∧ SqL K H l xs ∧ SqL K H b zs ∧ xs.length + zs.length ≤ sizeLine ∧ ∀ p, H p = none → Q (.ref p) (upd H p (.lst (xs ++ zs)))
theorem op_catR : OpR X (binaryOp .Add) (rCatR X.K) := by
  intro pins s σ H x y v u Q I rx ry h
  obtain ⟨l, b, xs, zs, rfl, rfl, hH, hB, hz, q⟩ := h
  cases rx
  cases ry
  obtain ⟨its, r, ⟨⟨cls, dd, data, sl⟩, n, ho, hc, hdd, hd⟩, _⟩ := I.list hH
  obtain ⟨its2, r2, ⟨⟨cls2, dd2, data2, sl2⟩, n2, ho2, hc2, hdd2, hd2⟩, _⟩ := I.list hB
  simp only at hc hd hc2 hd2
  subst hc hd hc2 hd2
  have ea : its.toArray ++ its2.toArray = (its ++ its2).toArray := by simp
  refine concat_meets ⟨_, ho, rfl⟩ ⟨_, ho2, rfl⟩ noFill_list_add seq_list_add PySem.F.slot_list_add PySem.F.entry_list_add (PySem.F.args_list_add_2 _ _) (PyProof.Rows.list_addW l b its.toArray its2.toArray n n2 dd dd2 sl sl2 (by have := r.length; have := r2.length; rw [List.size_toArray, List.size_toArray]; omega)) ⟨ho, ho2, ?_⟩
  rw [ea]
  exact ⟨.ref _, _, I.lnew (t' := s.toks) (r.append r2) (by rw [List.length_append]; omega), rfl, q _ I.fresh⟩
abbrev rAddA (K : PySem.W.Frag) : R2 := fun x y H Q => rI0 (fun i j => .int (i + j)) x y H Q ∨ ((∃ i j, x = .str i ∧ y = .str j ∧ i.length + j.length ≤ sizeLine ∧ Q (.str (i ++ j)) H) ∨ (rCatA K x y H Q ∨ rCatR K x y H Q))
theorem op_addA : OpR X (binaryOp .Add) (rAddA X.K) := OpR.or op_add (OpR.or op_add_str (OpR.or op_catA op_catR))
def gAdd : PyData → PyData → Option PyData
  | .int i, .int j => some (.int (i + j))
  | .str x, .str y => if x.length + y.length < LIM then some (.str (x ++ y)) else none
  | .tuple xs, .tuple ys => if xs.length + ys.length < LIM then some (.tuple (xs ++ ys)) else none
  | .list xs, .list ys => if xs.length + ys.length < LIM then some (.list (xs ++ ys)) else none
  | _, _ => none
theorem Dvs.nil_iff {K : PySem.W.Frag} {vs : List V} {ds : List PyData} (h : Dvs K H vs ds) : vs = [] ↔ ds = [] := by
  cases h <;> simp
theorem opd_addA : OpD X (rAddA X.K) gAdd := fun c O H x y d e z Q m hx hy hg k => by
  cases d <;> cases e <;> first | (cases hg; done) | skip
  · cases hg
    exact .inl ⟨_, _, hx.int, hy.int, k _ H (Same.refl H) (.int _)⟩
  · unfold gAdd at hg
    dsimp only at hg
    split at hg
    · rename_i hl
      cases hg
      exact .inr (.inl ⟨_, _, hx.str, hy.str, lim_le hl, k _ H (Same.refl H) (.str _)⟩)
    · cases hg
  · unfold gAdd at hg
    dsimp only at hg
    split at hg
    · rename_i hl
      cases hg
      obtain ⟨a, xs, rfl, h1, d1⟩ := hx.lst
      obtain ⟨b, ys, rfl, h2, d2⟩ := hy.lst
      refine .inr (.inr (.inr ⟨a, b, xs, ys, rfl, rfl, h1, h2, by rw [d1.length, d2.length]; exact lim_le hl, fun p np => k _ _ (same_upd np) (.newL m np (d1.app d2))⟩))
    · cases hg
  · unfold gAdd at hg
    dsimp only at hg
    split at hg
    · rename_i hl
      cases hg
      obtain ⟨a, xs, rfl, h1, h1', d1⟩ := hx.tup
      obtain ⟨b, ys, rfl, h2, h2', d2⟩ := hy.tup
      refine .inr (.inr (.inl ⟨a, b, xs, ys, rfl, rfl, h1, h2, by rw [d1.length, d2.length]; exact lim_le hl, fun ex => ?_, fun _ ey => ?_, fun _ _ p np => k _ _ (same_upd np) (.newT m np (d1.app d2))⟩))
      · have ee := d1.nil_iff.mp ex
        subst ee
        exact k _ H (Same.refl H) (.tup h2' d2)
      · have ee := d2.nil_iff.mp ey
        subst ee
        rw [List.append_nil] at k
        exact k _ H (Same.refl H) (.tup h1' d1)
    · cases hg

/-! ### comparisons -/
def gEq (neg : Bool) : PyData → PyData → Option PyData := fun d e => if (SeqAt.shaped d && SeqAt.shaped e) = true then some (.bool (if neg then !PyData.eqv d e else PyData.eqv d e)) else none
theorem opd_eqD : OpD X (rEqD X.K) (gEq false) := fun c O H x y d e z Q m hx hy hg k => by
  unfold gEq at hg
  split at hg
  · rename_i h
    rw [Bool.and_eq_true] at h
    cases hg
    exact ⟨d, e, hx.dv.dp (SeqAt.canLay_of_shaped h.1), hy.dv.dp (SeqAt.canLay_of_shaped h.2), h.1, h.2, k _ H (Same.refl H) (.bl _)⟩
  · cases hg
theorem opd_neD : OpD X (rNeD X.K) (gEq true) := fun c O H x y d e z Q m hx hy hg k => by
  unfold gEq at hg
  split at hg
  · rename_i h
    rw [Bool.and_eq_true] at h
    cases hg
    exact ⟨d, e, hx.dv.dp (SeqAt.canLay_of_shaped h.1), hy.dv.dp (SeqAt.canLay_of_shaped h.2), h.1, h.2, k _ H (Same.refl H) (.bl _)⟩
  · cases hg
def isN : PyData → Bool
  | .none => true
  | _ => false
def gIsN (neg : Bool) : PyData → PyData → Option PyData := fun d e => if isN e = true then some (.bool (if neg then !isN d else isN d)) else none
theorem dv_isN {K : PySem.W.Frag} {v : V} {d : PyData} (h : Dv K H v d) : decide (v = .non) = isN d := by
  cases h <;> rfl
theorem dv_non {K : PySem.W.Frag} {v : V} {d : PyData} (h : Dv K H v d) (e : isN d = true) : v = .non := by
  cases h <;> first | rfl | cases e
theorem opd_isN : OpD X (fun x y H Q => y = .non ∧ Q (.bl (decide (x = .non))) H) (gIsN false) := fun c O H x y d e z Q m hx hy hg k => by
  unfold gIsN at hg
  split at hg
  · rename_i h
    cases hg
    refine ⟨dv_non hy.dv h, ?_⟩
    rw [dv_isN hx.dv]
    exact k _ H (Same.refl H) (.bl _)
  · cases hg
theorem opd_notN : OpD X (fun x y H Q => y = .non ∧ Q (.bl (!decide (x = .non))) H) (gIsN true) := fun c O H x y d e z Q m hx hy hg k => by
  unfold gIsN at hg
  split at hg
  · rename_i h
    cases hg
    refine ⟨dv_non hy.dv h, ?_⟩
    rw [dv_isN hx.dv]
    exact k _ H (Same.refl H) (.bl _)
  · cases hg
/-- x in xs, x not in xs: xs a list (a tuple: below) -/
def gIn (neg : Bool) : PyData → PyData → Option PyData
  | d, .list es => if (SeqAt.shaped d && SeqAt.shaped (.list es)) = true then some (.bool (if neg then !(es.any fun z => PyData.eqv z d) else es.any fun z => PyData.eqv z d)) else none
  | _, _ => none
theorem opd_inD : OpD X (rInD X.K) (gIn false) := fun c O H x y d e z Q m hx hy hg k => by
  unfold gIn at hg
  cases e <;> first | (cases hg; done) | skip
  dsimp only at hg
  split at hg
  · rename_i h
    rw [Bool.and_eq_true] at h
    cases hg
    exact ⟨d, _, hx.dv.dp (SeqAt.canLay_of_shaped h.1), hy.dv.dp (SeqAt.canLay_of_shaped h.2), h.1, h.2, k _ H (Same.refl H) (.bl _)⟩
  · cases hg
theorem opd_notInD : OpD X (rNotInD X.K) (gIn true) := fun c O H x y d e z Q m hx hy hg k => by
  unfold gIn at hg
  cases e <;> first | (cases hg; done) | skip
  dsimp only at hg
  split at hg
  · rename_i h
    rw [Bool.and_eq_true] at h
    cases hg
    exact ⟨d, _, hx.dv.dp (SeqAt.canLay_of_shaped h.1), hy.dv.dp (SeqAt.canLay_of_shaped h.2), h.1, h.2, k _ H (Same.refl H) (.bl _)⟩
  · cases hg
/-- .. flat items in a tuple or a list -/
def flatD : PyData → Bool
  | .none => true
  | .bool _ => true
  | .int _ => true
  | .str _ => true
  | _ => false
def gInF (neg : Bool) : PyData → PyData → Option PyData := fun d e => match e with
  | .tuple es => if (flatD d && es.all flatD) = true then some (.bool (if neg then !(es.any fun z => PyData.eqv z d) else es.any fun z => PyData.eqv z d)) else none
  | _ => none
theorem flat_dv {K : PySem.W.Frag} {v : V} {d : PyData} (h : Dv K H v d) (e : flatD d = true) : flatV v = true := by
  cases h <;> first | rfl | cases e
theorem flat_dvs {K : PySem.W.Frag} : ∀ {vs : List V} {ds : List PyData}, Dvs K H vs ds → ds.all flatD = true → vs.all flatV = true
  | _, _, .nil, _ => rfl
  | _, _, .cons h t, e => by
    rw [List.all_cons, Bool.and_eq_true] at e ⊢
    exact ⟨flat_dv h e.1, flat_dvs t e.2⟩
theorem eqv_flat {K : PySem.W.Frag} {v w : V} {d e : PyData} (h : Dv K H v d) (h' : Dv K H w e) (f : flatD d = true) (f' : flatD e = true) : eqV v w = PyData.eqv d e := by
  cases h <;> first | (cases f; done) | skip
  all_goals (cases h' <;> first | (cases f'; done) | skip)
  all_goals first | rfl | (unfold eqV PyData.eqv; simp) | skip
end
end
end DL

set_option Elab.async false
set_option linter.all false
set_option maxRecDepth 100000
set_option maxHeartbeats 1000000
namespace DL
open PySem PySem.Spec L2 PyProof.Rows
set_option autoImplicit false

section
variable {X : Cx} {c : Dc} {O : List Addr} {σ : DL.St} {H H1 : Hp} {a b e : Expr} {es : List Expr} {pos : Pos} {fa fb f : DE} {ta tb : DT}

/-! ### tests -/
def dAndT (f g : DT) : DT := fun env => do
  let k ← f env
  if k = true then g env else .ok false
def dOrT (f g : DT) : DT := fun env => do
  let k ← f env
  if k = true then .ok true else g env
def dNotT (f : DT) : DT := fun env => do
  let k ← f env
  .ok (!k)
theorem w_and1 (h : ET X c a ta) : EW X c (.BoolOp .And [a] pos) ta := pw_and1 h
theorem w_or1 (h : ET X c a ta) : EW X c (.BoolOp .Or [a] pos) ta := pw_or1 h
theorem w_and (h : ET X c a ta) (h' : EW X c (.BoolOp .And (b :: es) pos) tb) : EW X c (.BoolOp .And (a :: b :: es) pos) (dAndT ta tb) := PW.imp (pw_and h h') fun σ H Q ⟨O, env, rel, q⟩ =>
  ⟨O, env, rel, q.bind.imp fun k q1 H1 s1 => by
    cases k with
    | true => exact L2.iteT ⟨O, env, rel.ext s1, (show Res X c O σ H (tb env) _ from q1).ext s1 fun k' q2 H2 s2 => q2 H2 (s1.trans s2)⟩
    | false => exact L2.iteF (q1.ok H1 s1)⟩
theorem w_or (h : ET X c a ta) (h' : EW X c (.BoolOp .Or (b :: es) pos) tb) : EW X c (.BoolOp .Or (a :: b :: es) pos) (dOrT ta tb) := PW.imp (pw_or h h') fun σ H Q ⟨O, env, rel, q⟩ =>
  ⟨O, env, rel, q.bind.imp fun k q1 H1 s1 => by
    cases k with
    | true => exact L2.iteT (q1.ok H1 s1)
    | false => exact L2.iteF ⟨O, env, rel.ext s1, (show Res X c O σ H (tb env) _ from q1).ext s1 fun k' q2 H2 s2 => q2 H2 (s1.trans s2)⟩⟩
theorem t_w (h : EW X c a ta) : ET X c a ta := PW.pt h
theorem t_not (h : ET X c a ta) : ET X c (.UnaryOp .Not a pos) (dNotT ta) := PT.imp (pt_not h) fun σ H Q ⟨O, env, rel, q⟩ =>
  ⟨O, env, rel, q.bind.imp fun k q1 H1 s1 => q1.ok H1 s1⟩
/-- an expression that yields a bool, as a test -/
theorem t_val (h : EE X c e f) (he : ∀ whole, isTrue e X.env whole = (do let v ← whole; standAt e.pos; holding [v] (truthy v)) := by intro _; rfl) : ET X c e (dTest f) := PT.imp (pt_val h he) fun σ H Q h' => rd_test (fun Q' q => q) h'
/-- .. as values -/
def dAndV (f g : DE) : DE := fun env => do
  let x ← f env
  let k ← lift (dBool x)
  if k = true then g env else .ok (.bool false)
def dOrV (f g : DE) : DE := fun env => do
  let x ← f env
  let k ← lift (dBool x)
  if k = true then .ok (.bool true) else g env
def dNotV (f : DE) : DE := fun env => do
  let x ← f env
  let k ← lift (dBool x)
  .ok (.bool (!k))
theorem e_one {op : BoolOp} (h : EE X c a fa) : EE X c (.BoolOp op [a] pos) fa := pe_one h
theorem e_and (h : EE X c a fa) (h' : EE X c (.BoolOp .And (b :: es) pos) fb) : EE X c (.BoolOp .And (a :: b :: es) pos) (dAndV fa fb) := PE.imp (L2.pe_and h h') fun σ H Q ⟨O, env, rel, q⟩ =>
  ⟨O, env, rel, q.bind.imp fun d q1 v H1 s1 b1 => by
    obtain ⟨k, hk, q2⟩ := Res.lift (Res.bind q1)
    refine ⟨k, b1.bool hk, ?_⟩
    cases k with
    | true => exact L2.iteT ⟨O, env, rel.ext s1, (show Res X c O σ H (fb env) _ from q2).ext s1 fun k' q2 v' H2 s2 hv => q2 v' H2 (s1.trans s2) hv⟩
    | false => exact L2.iteF ((show Res X c O σ H (.ok (PyData.bool false)) _ from q2).ok _ H1 s1 (.bl false))⟩
theorem e_or (h : EE X c a fa) (h' : EE X c (.BoolOp .Or (b :: es) pos) fb) : EE X c (.BoolOp .Or (a :: b :: es) pos) (dOrV fa fb) := PE.imp (L2.pe_or h h') fun σ H Q ⟨O, env, rel, q⟩ =>
  ⟨O, env, rel, q.bind.imp fun d q1 v H1 s1 b1 => by
    obtain ⟨k, hk, q2⟩ := Res.lift (Res.bind q1)
    refine ⟨k, b1.bool hk, ?_⟩
    cases k with
    | true => exact L2.iteT ((show Res X c O σ H (.ok (PyData.bool true)) _ from q2).ok _ H1 s1 (.bl true))
    | false => exact L2.iteF ⟨O, env, rel.ext s1, (show Res X c O σ H (fb env) _ from q2).ext s1 fun k' q2 v' H2 s2 hv => q2 v' H2 (s1.trans s2) hv⟩⟩
theorem e_not (h : EE X c a fa) : EE X c (.UnaryOp .Not a pos) (dNotV fa) := PE.imp (L2.pe_not h) fun σ H Q ⟨O, env, rel, q⟩ =>
  ⟨O, env, rel, q.bind.imp fun d q1 v H1 s1 b1 => by
    obtain ⟨k, hk, q2⟩ := Res.lift (Res.bind q1)
    exact ⟨k, b1.bool hk, Res.ok q2 _ H1 s1 (.bl _)⟩⟩
/-- a if t else b -/
def dIf (t : DT) (f g : DE) : DE := fun env => do
  let k ← t env
  if k = true then f env else g env
theorem e_if {t : Expr} {ft : DT} (h : ET X c t ft) (ha : EE X c a fa) (hb : EE X c b fb) : EE X c (.IfExp t a b pos) (dIf ft fa fb) := PE.imp (pe_ifExp h ha hb) fun σ H Q ⟨O, env, rel, q⟩ =>
  ⟨O, env, rel, q.bind.imp fun k q1 H1 s1 => by
    cases k with
    | true => exact L2.iteT ⟨O, env, rel.ext s1, (show Res X c O σ H (fa env) _ from q1).ext s1 fun k' q2 v' H2 s2 hv => q2 v' H2 (s1.trans s2) hv⟩
    | false => exact L2.iteF ⟨O, env, rel.ext s1, (show Res X c O σ H (fb env) _ from q1).ext s1 fun k' q2 v' H2 s2 hv => q2 v' H2 (s1.trans s2) hv⟩⟩
theorem e_ifB {t : Expr} {ft : DT} (h : ET X c t ft) (ha : EB X c a fa) (hb : EB X c b fb) : EB X c (.IfExp t a b pos) (dIf ft fa fb) := PE.imp (pe_ifExp h ha hb) fun σ H Q ⟨O, env, rel, q⟩ =>
  ⟨O, env, rel, q.bind.imp fun k q1 H1 s1 => by
    cases k with
    | true => exact L2.iteT ⟨O, env, rel.ext s1, (show Res X c O σ H (fa env) _ from q1).ext s1 fun k' q2 v' H2 s2 hv => q2 v' H2 (s1.trans s2) hv⟩
    | false => exact L2.iteF ⟨O, env, rel.ext s1, (show Res X c O σ H (fb env) _ from q1).ext s1 fun k' q2 v' H2 s2 hv => q2 v' H2 (s1.trans s2) hv⟩⟩
/-- the truth of a list, a tuple, an int -/
def dTruth (d : PyData) : Option Bool := match d with
  | .list ds => some (!ds.isEmpty)
  | .tuple ds => some (!ds.isEmpty)
  | .int i => some (i != 0)
  | .none => some false
  | _ => none
theorem isEmpty_dvs {K : PySem.W.Frag} {vs : List V} {ds : List PyData} (h : Dvs K H vs ds) : vs.isEmpty = ds.isEmpty := by cases h <;> rfl

/-! ### a < b < c -/
def dChain (g g' : PyData → PyData → Option PyData) (fa fb fc : DE) : DE := fun env => do
  let x ← fa env
  let y ← fb env
  let z ← lift (g x y)
  let k ← lift (dBool z)
  if k = true then do
    let w ← fc env
    lift (g' y w)
  else .ok (.bool false)
theorem rd_chain {r r' : R2} {g g' : PyData → PyData → Option PyData} {fc : DE} (hd : OpD X r g) (hd' : OpD X r' g') {Q : VK} (h : rdE X c (dChain g g' fa fb fc) σ H Q) : tChain r r' (rdB X c fa) (rdB X c fb) (rdB X c fc) σ H Q := by
  obtain ⟨O, env, rel, q⟩ := h
  refine ⟨O, env, rel, q.bind.imp fun d q1 v H1 s1 b1 => ⟨O, env, rel.ext s1, (Res.bind q1).ext s1 fun e q2 w H2 s2 b2 => ?_⟩⟩
  obtain ⟨z, hz, q3⟩ := Res.lift (Res.bind q2)
  have m2 : ∀ a ∈ O, Mut (H2 a) := (rel.ext (s1.trans s2)).dom
  refine hd c O H2 v w d e z _ m2 (b1.ext s2) b2 hz fun v' H' s' hv => ?_
  obtain ⟨k, hk, q4⟩ := Res.lift (Res.bind q3)
  refine ⟨k, hv.bool hk, ?_⟩
  have s3 := (s1.trans s2).trans s'
  cases k with
  | false => exact L2.iteF ((show Res X c O σ H (.ok (PyData.bool false)) _ from q4).ok _ H' s3 (.bl false))
  | true =>
    refine L2.iteT ⟨O, env, rel.ext s3, (Res.bind (show Res X c O σ H (fc env >>= fun w => DL.lift (g' e w)) _ from q4)).ext s3 fun w4 q5 w' H4 s4 b4 => ?_⟩
    obtain ⟨z5, hz5, q6⟩ := Res.lift q5
    exact hd' c O H4 w w' e w4 z5 _ (rel.ext (s3.trans s4)).dom (b2.ext (s'.trans s4)) b4 hz5 fun v6 H6 s6 hv6 => q6 v6 H6 ((s3.trans s4).trans s6) hv6
theorem e_chain {op op' : CmpOp} {r r' : R2} {g g' : PyData → PyData → Option PyData} {ec : Expr} {fc : DE} (ho : OpR X (compareOp op) r) (ho' : OpR X (compareOp op') r') (hd : OpD X r g) (hd' : OpD X r' g') (ha : EB X c a fa) (hb : EB X c b fb) (hc : EB X c ec fc)
    (hm : lastMarks [op, op'] [b, ec] = false := by with_unfolding_all rfl) : EE X c (.Compare a [op, op'] [b, ec] pos) (dChain g g' fa fb fc) := PE.imp (pe_chain ho ho' ha hb hc hm) fun σ H Q h => rd_chain hd hd' h
theorem t_chain {op op' : CmpOp} {r r' : R2} {g g' : PyData → PyData → Option PyData} {ec : Expr} {fc : DE} (ho : OpR X (compareOp op) r) (ho' : OpR X (compareOp op') r') (hd : OpD X r g) (hd' : OpD X r' g') (ha : EB X c a fa) (hb : EB X c b fb) (hc : EB X c ec fc)
    (hm : lastMarks [op, op'] [b, ec] = false := by with_unfolding_all rfl) : ET X c (.Compare a [op, op'] [b, ec] pos) (dTest (dChain g g' fa fb fc)) := PT.imp (pt_chain ho ho' ha hb hc hm) fun σ H Q h => rd_test (fun Q' q => rd_chain hd hd' q) h

/-! ### unary minus -/
def dNeg (f : DE) : DE := fun env => do
  let x ← f env
  lift (match x with | .int i => some (.int (-i)) | _ => none)
theorem e_neg (h : EB X c a fa) : EE X c (.UnaryOp .USub a pos) (dNeg fa) := PE.imp (pe_un un_neg h) fun σ H Q ⟨O, env, rel, q⟩ =>
  ⟨O, env, rel, q.bind.imp fun d q1 v H1 s1 b1 => by
    obtain ⟨z, hz, q2⟩ := q1.lift
    cases d <;> first | (cases hz; done) | skip
    cases hz
    exact ⟨_, b1.int, q2 _ H1 s1 (.int _)⟩⟩

/-! ### items, slices -/
def gIx : PyData → PyData → Option PyData
  | .list ds, .int i => atI ds i
  | .tuple ds, .int i => atI ds i
  | _, _ => none
theorem Dvs.atI {K : PySem.W.Frag} {vs : List V} {ds : List PyData} {i : Int} {z : PyData} (h : Dvs K H vs ds) (e : L2.atI ds i = some z) : ∃ v, L2.atI vs i = some v ∧ Dv K H v z := by
  unfold L2.atI at e ⊢
  rw [h.length]
  cases q : ixN ds.length i with
  | none => rw [q] at e; cases e
  | some j =>
    rw [q] at e
    exact h.get e
def dIx (fa fb : DE) : DE := fun env => dBin gIx fa fb env
theorem opd_ix : OpD X (fun x y H Q => rIxL X.K x y H Q ∨ rIxT X.K x y H Q) gIx := fun c O H x y d e z Q m hx hy hg k => by
  cases d <;> cases e <;> first | (cases hg; done) | skip
  · obtain ⟨a, xs, rfl, h1, d1⟩ := hx.lst
    obtain ⟨v, h2, h3⟩ := d1.atI hg
    exact .inl ⟨a, xs, _, v, rfl, hy.int, h1, h2, k v H (Same.refl H) h3⟩
  · obtain ⟨a, xs, rfl, h1, _, d1⟩ := hx.tup
    obtain ⟨v, h2, h3⟩ := d1.atI hg
    exact .inr ⟨a, xs, _, v, rfl, hy.int, h1, h2, k v H (Same.refl H) h3⟩
theorem e_ix (ha : EB X c a fa) (hb : EB X c b fb) (hs : PlainIx b := by intro _ _; rfl) : EE X c (.Subscript a b pos) (dIx fa fb) := PE.imp (pe_ix (ix_list.or ix_tup) ha hb hs) fun σ H Q h => rd_bin opd_ix h
abbrev DO := Ev → R (Option Int)
def rdO (X : Cx) (c : Dc) (f : DO) : TO := fun σ H Q => ∃ O env, Rel X.K c O H env σ ∧ Res X c O σ H (f env) fun o => ∀ H', Same H H' → Q o H'
def oNo : DO := fun _ => .ok none
def gInt : PyData → Option Int
  | .int i => some i
  | _ => none
def oPart (f : DE) : DO := fun env => do
  let x ← f env
  let i ← lift (gInt x)
  .ok (some i)
theorem PO.imp {o : Option Expr} {t t' : TO} (h : PO X o t) (i : ∀ σ H Q, t' σ H Q → t σ H Q) : PO X o t' := ⟨fun pins s σ H Q I q => h.run pins s σ H Q I (i σ H Q q)⟩
theorem o_none : PO X none (rdO X c oNo) := PO.imp po_none fun σ H Q ⟨O, env, rel, q⟩ => q.ok H (Same.refl H)
theorem Bv.gint {K : PySem.W.Frag} {v : V} {d : PyData} {i : Int} (h : Bv K c O H v d) (e : gInt d = some i) : v = .int i := by
  cases d <;> first | (cases e; done) | skip
  cases e
  exact h.int
theorem o_some (h : EB X c a fa) : PO X (some a) (rdO X c (oPart fa)) := PO.imp (po_some h) fun σ H Q ⟨O, env, rel, q⟩ => ⟨O, env, rel, q.bind.imp fun d q1 v H1 s1 b1 => by
    obtain ⟨i, hi, q2⟩ := Res.lift (Res.bind q1)
    exact ⟨i, b1.gint hi, Res.ok q2 H1 s1⟩⟩
def cutA {α : Type} (xs : List α) (lo hi : Option Int) : List α := (xs.drop (HT.sIx xs.length 0 lo)).take (HT.sIx xs.length xs.length hi - HT.sIx xs.length 0 lo)
theorem Dvs.cut {K : PySem.W.Frag} {vs : List V} {ds : List PyData} (h : Dvs K H vs ds) (lo hi : Option Int) : Dvs K H (cutV vs lo hi) (cutA ds lo hi) := by
  unfold cutV cutA
  rw [h.length]
  exact (h.drop _).take _
def gSl (d : PyData) (lo hi : Option Int) : Option PyData := match d with
  | .list ds => some (.list (cutA ds lo hi))
  | .tuple ds => some (.tuple (cutA ds lo hi))
  | _ => none
def dSl (f : DE) (l u : DO) : DE := fun env => do
  let x ← f env
  let lo ← l env
  let hi ← u env
  lift (gSl x lo hi)
theorem cut_all {α : Type} {xs : List α} {lo hi : Option Int} (h : HT.sIx xs.length 0 lo = 0 ∧ HT.sIx xs.length xs.length hi = xs.length) : cutA xs lo hi = xs := by
  unfold cutA
  rw [h.1, h.2, List.drop_zero, Nat.sub_zero, List.take_length]
theorem e_sl {lo hi : Option Expr} {l u : DO} {p2 : Pos} (ha : EB X c a fa) (hl : PO X lo (rdO X c l)) (hu : PO X hi (rdO X c u)) : EE X c (.Subscript a (.Slice lo hi none p2) pos) (dSl fa l u) :=
  PE.imp (pe_slice (sl_list.or sl_tupA) ha hl hu) fun σ H Q ⟨O, env, rel, q⟩ => by
    refine ⟨O, env, rel, q.bind.imp fun d q1 v H1 s1 b1 => ⟨O, env, rel.ext s1, (Res.bind q1).ext s1 fun lo q2 H2 s2 => ⟨O, env, rel.ext (s1.trans s2), (Res.bind q2).ext (s1.trans s2) fun hi q3 H3 s3 => ?_⟩⟩⟩
    obtain ⟨z, hz, q4⟩ := q3.lift
    have s := (s1.trans s2).trans s3
    have m : ∀ a ∈ O, Mut (H3 a) := (rel.ext s).dom
    have b3 := b1.ext (s2.trans s3)
    unfold gSl at hz
    cases d <;> first | (cases hz; done) | skip
    · cases hz
      obtain ⟨a, xs, rfl, h1, d1⟩ := b3.lst
      exact .inl ⟨a, xs, rfl, h1, fun p np => q4 _ _ (s.trans (same_upd np)) (.newL m np (d1.cut lo hi))⟩
    · cases hz
      obtain ⟨a, xs, rfl, h1, h1', d1⟩ := b3.tup
      refine .inr ⟨a, xs, rfl, h1, fun w => ?_, fun _ p np => q4 _ _ (s.trans (same_upd np)) (.newT m np (d1.cut lo hi))⟩
      rw [d1.length] at w
      rw [cut_all w] at q4
      exact q4 _ _ s (.tup h1' d1)

/-! ### displays, arguments -/
def dNil : DA := fun _ => .ok []
def dCons (f : DE) (g : DA) : DA := fun env => do
  let x ← f env
  let xs ← g env
  .ok (x :: xs)
theorem a_nil : EA X c [] dNil := PA.imp pa_nil fun σ H Q ⟨O, env, rel, q⟩ => q.ok [] H (Same.refl H) .nil
theorem a_cons {g : DA} (h : EE X c e f) (hr : EA X c es g) (hs : starEach (e :: es) X.env = (false, eval e X.env) :: starEach es X.env := by rfl) : EA X c (e :: es) (dCons f g) := PA.imp (pa_cons h hr hs) fun σ H Q ⟨O, env, rel, q⟩ =>
  ⟨O, env, rel, q.bind.imp fun d q1 v H1 s1 b1 => ⟨O, env, rel.ext s1, (Res.bind q1).ext s1 fun ds q2 vs H2 s2 b2 => Res.ok q2 _ H2 (s1.trans s2) (.cons (b1.same (hide_same s2)) b2)⟩⟩
theorem b_nil : EBs X c [] dNil := PA.imp pa_nil fun σ H Q ⟨O, env, rel, q⟩ => q.ok [] H (Same.refl H) .nil
theorem b_cons {g : DA} (h : EB X c e f) (hr : EBs X c es g) (hs : starEach (e :: es) X.env = (false, eval e X.env) :: starEach es X.env := by rfl) : EBs X c (e :: es) (dCons f g) := PA.imp (pa_cons h hr hs) fun σ H Q ⟨O, env, rel, q⟩ =>
  ⟨O, env, rel, q.bind.imp fun d q1 v H1 s1 b1 => ⟨O, env, rel.ext s1, (Res.bind q1).ext s1 fun ds q2 vs H2 s2 b2 => Res.ok q2 _ H2 (s1.trans s2) (.cons (b1.ext s2) b2)⟩⟩
def dTup (g : DA) : DE := fun env => do
  let ds ← g env
  lift (if ds.length < LIM then some (.tuple ds) else none)
def dLst (g : DA) : DE := fun env => do
  let ds ← g env
  lift (if ds.length < LIM then some (.list ds) else none)
theorem ite_some {α : Type} {p : Prop} [Decidable p] {a z : α} (h : (if p then some a else none) = some z) : p ∧ z = a := by
  split at h
  · rename_i hp; cases h; exact ⟨hp, rfl⟩
  · cases h
theorem e_tup {g : DA} {k : Nat} (h : EA X c es g) : EE X c (.Tuple es k pos) (dTup g) := PE.imp (pe_tup h) fun σ H Q ⟨O, env, rel, q⟩ =>
  ⟨O, env, rel, q.bind.imp fun ds q1 vs H1 s1 b1 => by
    obtain ⟨z, hz, q2⟩ := q1.lift
    obtain ⟨hl, rfl⟩ := ite_some hz
    exact ⟨by rw [b1.length]; exact lim_le hl, fun p np => q2 _ _ (s1.trans (same_upd np)) (.newT (rel.ext s1).dom np b1)⟩⟩
theorem e_lst {g : DA} (h : EA X c es g) : EE X c (.List es pos) (dLst g) := PE.imp (pe_lst h) fun σ H Q ⟨O, env, rel, q⟩ =>
  ⟨O, env, rel, q.bind.imp fun ds q1 vs H1 s1 b1 => by
    obtain ⟨z, hz, q2⟩ := q1.lift
    obtain ⟨hl, rfl⟩ := ite_some hz
    exact ⟨by rw [b1.length]; exact lim_le hl, fun p np => q2 _ _ (s1.trans (same_upd np)) (.newL (rel.ext s1).dom np b1)⟩⟩
/-- a new list, held by nobody -/
def dLstF (g : DA) : DA := fun env => do
  let ds ← g env
  lift (if ds.length < LIM then some ds else none)
/-- items that stand are none of a new address -/
theorem hide_cons {p : Addr} {o : HO} (n : H p = none) : Same (hide O H) (hide (p :: O) (upd H p o)) := fun a u e => by
  by_cases h : a ∈ O
  · rw [hide_in h] at e; cases e
  · rw [hide_out h] at e
    have ha : a ≠ p := ne_of_none e n
    rw [hide_out (by simp [ha, h]), upd_ne ha]; exact e
theorem f_lst {g : DA} (h : EA X c es g) : EF X c (.List es pos) (dLstF g) := PE.imp (pe_lst h) fun σ H Q ⟨O, env, rel, q⟩ =>
  ⟨O, env, rel, q.bind.imp fun ds q1 vs H1 s1 b1 => by
    obtain ⟨z, hz, q2⟩ := q1.lift
    obtain ⟨hl, rfl⟩ := ite_some hz
    exact ⟨by rw [b1.length]; exact lim_le hl, fun p np => q2 p vs _ (s1.trans (same_upd np)) (s1.free np) upd_same (b1.same (hide_cons np))⟩⟩

/-! ### calls -/
/-- a built-in's call by data -/
def CallD (X : Cx) (r : List V → Hp → VK → Prop) (g : List PyData → Option PyData) : Prop := ∀ (c : Dc) (O : List Addr) (H : Hp) (vs : List V) (ds : List PyData) (z : PyData) (Q : VK), (∀ a ∈ O, Mut (H a)) → Bvs X.K c O H vs ds → g ds = some z →
  (∀ v H', Same H H' → Dv X.K (hide O H') v z → Q v H') → r vs H Q
def dCallG (g : List PyData → Option PyData) (args : DA) : DE := fun env => do
  let ds ← args env
  lift (g ds)
theorem rd_callG {r : List V → Hp → VK → Prop} {g : List PyData → Option PyData} {args : DA} (hd : CallD X r g) {Q : VK} (h : rdE X c (dCallG g args) σ H Q) : tCB r (rdBs X c args) σ H Q := by
  obtain ⟨O, env, rel, q⟩ := h
  refine ⟨O, env, rel, q.bind.imp fun ds q1 vs H1 s1 b1 => ?_⟩
  obtain ⟨z, hz, q2⟩ := q1.lift
  exact hd c O H1 vs ds z Q (rel.ext s1).dom b1 hz fun v H' s' hv => q2 v H' (s1.trans s') hv
theorem e_callB {id : String} {x : Str} {p : Pos} {r : List V → Hp → VK → Prop} {g : List PyData → Option PyData} {args : DA} (hc : CallR X (.builtin id) r) (hd : CallD X r g) (hm : X.mg x = none) (hv : bootBuiltins x = some (.builtin id)) (ha : EBs X c (e :: es) args) (hg : Gl X x := by rfl) (hn : x ≠ "__name__" := by decide) (hdb : (x == ("__debug__" : Str)) = false := by decide)
    (he : starEach (e :: es) X.env = (false, eval e X.env) :: starEach es X.env := by rfl) (hpl : (backTo pos (starEach es X.env)).any (·.1) = false := by rfl) : EE X c (.Call (.Name x p) (e :: es) [] pos) (dCallG g args) :=
  PE.imp (pe_callB hc hg hm hv ha hn hdb he hpl) fun σ H Q h => rd_callG hd h
theorem e_callTy {T : String} {x : Str} {p : Pos} {r : List V → Hp → VK → Prop} {g : List PyData → Option PyData} {args : DA} (hc : CallR X (.type T) r) (hd : CallD X r g) (hm : X.mg x = none) (hv : bootBuiltins x = some (.type T)) (ha : EBs X c (e :: es) args) (hg : Gl X x := by rfl) (hn : x ≠ "__name__" := by decide) (hdb : (x == ("__debug__" : Str)) = false := by decide)
    (he : starEach (e :: es) X.env = (false, eval e X.env) :: starEach es X.env := by rfl) (hpl : (backTo pos (starEach es X.env)).any (·.1) = false := by rfl) : EE X c (.Call (.Name x p) (e :: es) [] pos) (dCallG g args) :=
  PE.imp (pe_callTy hc hg hm hv ha hn hdb he hpl) fun σ H Q h => rd_callG hd h
theorem Bvs.one {K : PySem.W.Frag} {vs : List V} {d : PyData} (h : Bvs K c O H vs [d]) : ∃ v, vs = [v] ∧ Bv K c O H v d := by
  cases h with
  | cons h t => cases t; exact ⟨_, rfl, h⟩
theorem Bvs.two {K : PySem.W.Frag} {vs : List V} {d d' : PyData} (h : Bvs K c O H vs [d, d']) : ∃ v v', vs = [v, v'] ∧ Bv K c O H v d ∧ Bv K c O H v' d' := by
  cases h with
  | cons h t => cases t with
    | cons h' t => cases t; exact ⟨_, _, rfl, h, h'⟩
def gLen : List PyData → Option PyData
  | [.list ds] => some (.int ds.length)
  | [.tuple ds] => some (.int ds.length)
  | _ => none
theorem cd_len : CallD X (fun xs H Q => ∃ x n, xs = [x] ∧ LenV X.K x H n ∧ Q (.int n) H) gLen := fun c O H vs ds z Q m h hg k => by
  unfold gLen at hg
  split at hg
  · cases hg
    obtain ⟨v, rfl, b⟩ := h.one
    obtain ⟨a, xs, rfl, h1, d1⟩ := b.lst
    exact ⟨_, _, rfl, .inl ⟨xs, h1, d1.length.symm⟩, k _ H (Same.refl H) (.int _)⟩
  · cases hg
    obtain ⟨v, rfl, b⟩ := h.one
    obtain ⟨a, xs, rfl, h1, _, d1⟩ := b.tup
    exact ⟨_, _, rfl, .inr ⟨xs, h1, d1.length.symm⟩, k _ H (Same.refl H) (.int _)⟩
  · cases hg
def gAbs : List PyData → Option PyData
  | [.int i] => some (.int (if i < 0 then -i else i))
  | _ => none
theorem cd_abs : CallD X (fun xs H Q => ∃ i, xs = [.int i] ∧ Q (.int (if i < 0 then -i else i)) H) gAbs := fun c O H vs ds z Q m h hg k => by
  unfold gAbs at hg
  split at hg
  · cases hg
    obtain ⟨v, rfl, b⟩ := h.one
    exact ⟨_, by rw [b.int], k _ H (Same.refl H) (.int _)⟩
  · cases hg
def gMax2 : List PyData → Option PyData
  | [.int i, .int j] => some (.int (if j > i then j else i))
  | _ => none
def gMin2 : List PyData → Option PyData
  | [.int i, .int j] => some (.int (if j < i then j else i))
  | _ => none
theorem cd_max2 : CallD X (fun xs H Q => ∃ i j, xs = [.int i, .int j] ∧ Q (.int (if j > i then j else i)) H) gMax2 := fun c O H vs ds z Q m h hg k => by
  unfold gMax2 at hg
  split at hg
  · cases hg
    obtain ⟨v, w, rfl, b, b'⟩ := h.two
    exact ⟨_, _, by rw [b.int, b'.int], k _ H (Same.refl H) (.int _)⟩
  · cases hg
theorem cd_min2 : CallD X (fun xs H Q => ∃ i j, xs = [.int i, .int j] ∧ Q (.int (if j < i then j else i)) H) gMin2 := fun c O H vs ds z Q m h hg k => by
  unfold gMin2 at hg
  split at hg
  · cases hg
    obtain ⟨v, w, rfl, b, b'⟩ := h.two
    exact ⟨_, _, by rw [b.int, b'.int], k _ H (Same.refl H) (.int _)⟩
  · cases hg
def gIntOf : List PyData → Option PyData
  | [.int i] => some (.int i)
  | _ => none
theorem cd_int1 : CallD X (fun xs H Q => (∃ i, xs = [.int i] ∧ Q (.int i) H) ∨ ∃ k, xs = [.bl k] ∧ Q (.int (if k then 1 else 0)) H) gIntOf := fun c O H vs ds z Q m h hg k => by
  unfold gIntOf at hg
  split at hg
  · cases hg
    obtain ⟨v, rfl, b⟩ := h.one
    exact .inl ⟨_, by rw [b.int], k _ H (Same.refl H) (.int _)⟩
  · cases hg
def gTuple : List PyData → Option PyData
  | [.list ds] => some (.tuple ds)
  | [.tuple ds] => some (.tuple ds)
  | _ => none
theorem cd_tuple : CallD X (fun xs H Q => ∃ p ys, xs = [.ref p] ∧ ((SqL X.K H p ys ∧ ∀ l, H l = none → Q (.ref l) (upd H l (.tup ys))) ∨ (SqT X.K H p ys ∧ Q (.ref p) H))) gTuple := fun c O H vs ds z Q m h hg k => by
  unfold gTuple at hg
  split at hg
  · cases hg
    obtain ⟨v, rfl, b⟩ := h.one
    obtain ⟨a, xs, rfl, h1, d1⟩ := b.lst
    exact ⟨a, xs, rfl, .inl ⟨h1, fun p np => k _ _ (same_upd np) (.newT m np d1)⟩⟩
  · cases hg
    obtain ⟨v, rfl, b⟩ := h.one
    obtain ⟨a, xs, rfl, h1, h1', d1⟩ := b.tup
    exact ⟨a, xs, rfl, .inr ⟨h1, k _ _ (Same.refl H) (.tup h1' d1)⟩⟩
  · cases hg
def gList : List PyData → Option PyData
  | [.list ds] => some (.list ds)
  | [.tuple ds] => some (.list ds)
  | _ => none
theorem cd_list : CallD X (fun xs H Q => ∃ p ys, xs = [.ref p] ∧ (SqL X.K H p ys ∨ SqT X.K H p ys) ∧ ∀ l, H l = none → Q (.ref l) (upd H l (.lst ys))) gList := fun c O H vs ds z Q m h hg k => by
  unfold gList at hg
  split at hg
  · cases hg
    obtain ⟨v, rfl, b⟩ := h.one
    obtain ⟨a, xs, rfl, h1, d1⟩ := b.lst
    exact ⟨a, xs, rfl, .inl h1, fun p np => k _ _ (same_upd np) (.newL m np d1)⟩
  · cases hg
    obtain ⟨v, rfl, b⟩ := h.one
    obtain ⟨a, xs, rfl, h1, h1', d1⟩ := b.tup
    exact ⟨a, xs, rfl, .inr h1, fun p np => k _ _ (same_upd np) (.newL m np d1)⟩
  · cases hg
/-- lists of ints, of bools -/
def intsOf : List PyData → Option (List Int)
  | [] => some []
  | .int i :: ds => (intsOf ds).map (i :: ·)
  | _ :: _ => none
def boolsOf : List PyData → Option (List Bool)
  | [] => some []
  | .bool i :: ds => (boolsOf ds).map (i :: ·)
  | _ :: _ => none
theorem intsOf_eq : ∀ {ds : List PyData} {ns : List Int}, intsOf ds = some ns → ds = ns.map PyData.int
  | [], ns, h => by cases h; rfl
  | .int i :: ds, ns, h => by
    unfold intsOf at h
    obtain ⟨ms, h1, rfl⟩ := Option.map_eq_some_iff.mp h
    rw [intsOf_eq h1]; rfl
  | .none :: _, _, h => by cases h
  | .bool _ :: _, _, h => by cases h
  | .str _ :: _, _, h => by cases h
  | .list _ :: _, _, h => by cases h
  | .tuple _ :: _, _, h => by cases h
  | .dict _ :: _, _, h => by cases h
theorem boolsOf_eq : ∀ {ds : List PyData} {ns : List Bool}, boolsOf ds = some ns → ds = ns.map PyData.bool
  | [], ns, h => by cases h; rfl
  | .bool i :: ds, ns, h => by
    unfold boolsOf at h
    obtain ⟨ms, h1, rfl⟩ := Option.map_eq_some_iff.mp h
    rw [boolsOf_eq h1]; rfl
  | .none :: _, _, h => by cases h
  | .int _ :: _, _, h => by cases h
  | .str _ :: _, _, h => by cases h
  | .list _ :: _, _, h => by cases h
  | .tuple _ :: _, _, h => by cases h
  | .dict _ :: _, _, h => by cases h
theorem intsOf_map : ∀ ns : List Int, intsOf (ns.map PyData.int) = some ns
  | [] => rfl
  | n :: ns => by show (intsOf (ns.map PyData.int)).map (n :: ·) = _; rw [intsOf_map ns]; rfl
theorem boolsOf_map : ∀ ns : List Bool, boolsOf (ns.map PyData.bool) = some ns
  | [] => rfl
  | n :: ns => by show (boolsOf (ns.map PyData.bool)).map (n :: ·) = _; rw [boolsOf_map ns]; rfl
theorem dvs_ints {K : PySem.W.Frag} : ∀ {vs : List V} {ns : List Int}, Dvs K H vs (ns.map PyData.int) → vs = ns.map V.int
  | _, [], h => by cases h; rfl
  | _, n :: ns, h => by cases h with | cons h t => cases h; rw [dvs_ints t]; rfl
theorem dvs_bools {K : PySem.W.Frag} : ∀ {vs : List V} {ns : List Bool}, Dvs K H vs (ns.map PyData.bool) → vs = ns.map V.bl
  | _, [], h => by cases h; rfl
  | _, n :: ns, h => by cases h with | cons h t => cases h; rw [dvs_bools t]; rfl
def gAll : List PyData → Option PyData
  | [.list ds] => (boolsOf ds).map fun bs => .bool (bs.all id)
  | _ => none
def gAny : List PyData → Option PyData
  | [.list ds] => (boolsOf ds).map fun bs => .bool (bs.any id)
  | _ => none
def gSum : List PyData → Option PyData
  | [.list ds] => (intsOf ds).map fun ns => .int ns.sum
  | _ => none
theorem cd_all : CallD X (rAll X.K) gAll := fun c O H vs ds z Q m h hg k => by
  unfold gAll at hg
  split at hg
  · obtain ⟨bs, hb, rfl⟩ := Option.map_eq_some_iff.mp hg
    obtain ⟨v, rfl, b⟩ := h.one
    obtain ⟨a, xs, rfl, h1, d1⟩ := b.lst
    rw [boolsOf_eq hb] at d1
    rw [dvs_bools d1] at h1
    exact ⟨a, bs, rfl, h1, k _ H (Same.refl H) (.bl _)⟩
  · cases hg
theorem cd_any : CallD X (rAny X.K) gAny := fun c O H vs ds z Q m h hg k => by
  unfold gAny at hg
  split at hg
  · obtain ⟨bs, hb, rfl⟩ := Option.map_eq_some_iff.mp hg
    obtain ⟨v, rfl, b⟩ := h.one
    obtain ⟨a, xs, rfl, h1, d1⟩ := b.lst
    rw [boolsOf_eq hb] at d1
    rw [dvs_bools d1] at h1
    exact ⟨a, bs, rfl, h1, k _ H (Same.refl H) (.bl _)⟩
  · cases hg
theorem cd_sum : CallD X (rSum X.K) gSum := fun c O H vs ds z Q m h hg k => by
  unfold gSum at hg
  split at hg
  · obtain ⟨bs, hb, rfl⟩ := Option.map_eq_some_iff.mp hg
    obtain ⟨v, rfl, b⟩ := h.one
    obtain ⟨a, xs, rfl, h1, d1⟩ := b.lst
    rw [intsOf_eq hb] at d1
    rw [dvs_ints d1] at h1
    exact ⟨a, bs, rfl, h1, k _ H (Same.refl H) (.int _)⟩
  · cases hg

/-! ### isinstance with a built-in class -/
def tyName : PyData → String
  | .none => "NoneType"
  | .bool _ => "bool"
  | .int _ => "int"
  | .str _ => "str"
  | .list _ => "list"
  | .tuple _ => "tuple"
  | .dict _ => "dict"
def isiD (T : String) (d : PyData) : Option Bool := match d with
  | .dict _ => none
  | d => kitB (tyName d) T
def dIsi (T : String) (f : DE) : DE := fun env => do
  let x ← f env
  lift ((isiD T x).map .bool)
theorem sqT_ty {K : PySem.W.Frag} {a : Addr} {xs : List V} (h : SqT K H a xs) : TyX K H (.ref a) (.type "tuple") := by
  rcases h with (h | ⟨o, h⟩) | ⟨o, its, n, h1, h2, _⟩
  · exact .base (.tup h)
  · exact .fTuple h
  · exact .kTuple h1 h2
theorem rd_ty {K : PySem.W.Frag} {a : Addr} {xs : List V} (h : SqL K H a xs) : TyX K H (.ref a) (.type "list") := by
  rcases h with (h | ⟨o, h⟩) | ⟨o, its, n, h1, h2, _⟩
  · exact .base (.lst h)
  · exact .base (.frz h)
  · exact .kList h1 h2
theorem dv_ty {K : PySem.W.Frag} {v : V} {d : PyData} (h : Dv K H v d) : TyX K H v (.type (tyName d)) := by
  cases h with
  | non => exact .base .non
  | bl b => exact .base (.bl b)
  | int i => exact .base (.int i)
  | str x => exact .base (.str x)
  | lst h _ => exact rd_ty h
  | tup h _ => exact sqT_ty h
  | dct h _ _ =>
    rcases h with h | ⟨o, h⟩
    · exact .base (.dK h)
    · exact .fDict h
theorem isi_kit {K : PySem.W.Frag} {T : String} {d : PyData} {b : Bool} (h : isiD T d = some b) : PySem.W.kitOne K (.type (tyName d)) (.type T) = some b := by
  cases d <;> first | (cases h; done) | exact kit_ty h
theorem e_isi (T : String) {tn : Str} {p p2 : Pos} (hm : X.mg "isinstance" = none) (hmT : X.mg tn = none) (hvT : bootBuiltins tn = some (.type T)) (ha : EB X c e f) (hg : Gl X "isinstance" := by rfl) (hgT : Gl X tn := by rfl) (hnT : tn ≠ "__name__" := by decide) (hdT : (tn == ("__debug__" : Str)) = false := by decide)
    (hs : starEach [e, .Name tn p2] X.env = (false, eval e X.env) :: starEach [.Name tn p2] X.env := by rfl) (hpl : (backTo pos (starEach [Expr.Name tn p2] X.env)).any (·.1) = false := by rfl) : EE X c (.Call (.Name "isinstance" p) [e, .Name tn p2] [] pos) (dIsi T f) :=
  PE.imp (pe_callB call_isi hg hm PyProof.Rows.boot_isinstance (pa_cons ha (pa_cons (pe_bltn (v := .ty T) hgT hmT hvT rfl hnT hdT) pa_nil) hs) (by decide) (by decide) hs hpl) fun σ H Q ⟨O, env, rel, q⟩ =>
    ⟨O, env, rel, q.bind.imp fun d q1 v H1 s1 b1 => by
      obtain ⟨z, hz, q2⟩ := q1.lift
      obtain ⟨b, hb, rfl⟩ := Option.map_eq_some_iff.mp hz
      exact ⟨v, .ty T, .type (tyName d), .type T, b, rfl, .ty T, dv_ty b1.dv, isi_kit hb, q2 _ H1 s1 (.bl b)⟩⟩
def dBits (f : DE) : DE := fun env => do
  let x ← f env
  lift (match x with | .int i => some (.int (Builtin.Int.intBits i : Nat)) | _ => none)
theorem e_bits {apos : Pos} (h : EB X c a fa) (hbase : attributeBase a "bit_length" X.env (eval a X.env) = eval a X.env := by rfl) (hline : (apos.endLine == pos.line) = true := by rfl) : EE X c (.Call (.Attribute a "bit_length" apos) [] [] pos) (dBits fa) := PE.imp (pe_bits h hbase hline) fun σ H Q ⟨O, env, rel, q⟩ =>
  ⟨O, env, rel, q.bind.imp fun d q1 v H1 s1 b1 => by
    obtain ⟨z, hz, q2⟩ := q1.lift
    cases d <;> first | (cases hz; done) | skip
    cases hz
    exact ⟨_, b1.int, q2 _ H1 s1 (.int _)⟩⟩
end
end DL

set_option Elab.async false
set_option linter.all false
set_option maxRecDepth 100000
set_option maxHeartbeats 1000000
namespace DL
open PySem PySem.Spec L2 PyProof.Rows
set_option autoImplicit false

/-! ### defs -/
def callN (n : Nat) (m : List PyData → R PyData) (ds : List PyData) : R PyData := match Nat.beq ds.length n with
  | true => m ds
  | false => .error .stuck
theorem callN_len {n : Nat} {m : List PyData → R PyData} {ds : List PyData} (h : callN n m ds ≠ .error .stuck) : ds.length = n := by
  unfold callN at h
  split at h
  · rename_i e; exact Nat.eq_of_beq_eq_true e
  · exact absurd rfl h
/-- the promise: it computes m -/
def spM (K : PySem.W.Frag) (mg : Str → Option Value) (n : Nat) (m : List PyData → R PyData) : Sp := fun vs H Q E => ∃ (O : List Addr) (ds : List PyData), (∀ a ∈ O, Mut (H a)) ∧ Dvs K (hide O H) vs ds ∧
  match callN n m ds with
  | .ok d => ∀ v H', Same H H' → Dv K (hide O H') v d → Q v H'
  | .error (.exc nm fs) => ∀ (cls : Value) (dd : Option Addr) (H' : Hp), Same H H' → ExcR mg K O H' nm fs cls dd → E cls dd H'
  | .error .stuck => False
theorem spM.len {K : PySem.W.Frag} {mg : Str → Option Value} {n : Nat} {m : List PyData → R PyData} {vs : List V} {H : Hp} {Q : VK} {E : XK} (h : spM K mg n m vs H Q E) : vs.length = n := by
  obtain ⟨O, ds, _, h1, h2⟩ := h
  have hn : callN n m ds ≠ .error .stuck := fun z => by
    rw [z] at h2
    exact h2
  rw [h1.length]
  exact callN_len hn
/-- a def that may be called -/
def Cal (P : Program) (w : World) (K : PySem.W.Frag) (mg : Str → Option Value) (base : Heap) (A : Around) (x : Str) (n : Nat) (m : List PyData → R PyData) : Prop :=
  ∃ (k : Nat) (f : Addr) (fd : FuncData) (ps : List Str), FnOk P w K mg base (L2.CX P w) k f fd ps (spM K mg n m) ∧ Room k A ∧ mg x = some (.ref f) ∧ PySem.W.keepIn K (.ref f) = true ∧ Binds K fd ps []

mutual
def noL : PyData → Bool
  | .list _ => false
  | .dict _ => false
  | .tuple ds => noLs ds
  | _ => true
def noLs : List PyData → Bool
  | [] => true
  | d :: ds => noL d && noLs ds
end
mutual
theorem Dv.noL {K : PySem.W.Frag} {H : Hp} {O O' : List Addr} (m : ∀ a ∈ O, Mut (H a)) : ∀ {v : V} {d : PyData}, Dv K (hide O' H) v d → DL.noL d = true → Dv K (hide O H) v d
  | _, _, .non, _ => .non
  | _, _, .bl b, _ => .bl b
  | _, _, .int i, _ => .int i
  | _, _, .str x, _ => .str x
  | _, _, .lst _ _, e => by simp only [DL.noL] at e; cases e
  | _, _, .dct _ _ _, e => by simp only [DL.noL] at e; cases e
  | _, _, .tup h t, e => by
    refine .tup ?_ (Dvs.noL m t (by simpa only [DL.noL] using e))
    rcases h with (h | ⟨o, h⟩) | h
    · have q := hide_le _ _ _ _ h
      exact .inl (.inl (by rw [hide_out fun z => by have y := m _ z; rw [q] at y; exact y]; exact q))
    · have q := hide_le _ _ _ _ h
      exact .inl (.inr ⟨o, by rw [hide_out fun z => by have y := m _ z; rw [q] at y; exact y]; exact q⟩)
    · exact .inr h
theorem Dvs.noL {K : PySem.W.Frag} {H : Hp} {O O' : List Addr} (m : ∀ a ∈ O, Mut (H a)) : ∀ {v : List V} {d : List PyData}, Dvs K (hide O' H) v d → DL.noLs d = true → Dvs K (hide O H) v d
  | _, _, .nil, _ => .nil
  | _, _, .cons h t, e => by
    simp only [DL.noLs, Bool.and_eq_true] at e
    exact .cons (Dv.noL m h e.1) (Dvs.noL m t e.2)
end

section
variable {X : Cx} {c : Dc} {O : List Addr} {σ : DL.St} {H H1 : Hp} {a b e : Expr} {es : List Expr} {pos : Pos} {fa fb f : DE} {ta tb : DT}
def dCall (n : Nat) (m : List PyData → R PyData) (args : DA) : DE := fun env => do
  let ds ← args env
  callN n m ds
theorem e_call {x : Str} {p : Pos} {n : Nat} {m : List PyData → R PyData} {args : DA} (C : Cal X.prog X.w X.K X.mg X.base X.A x n m) (tk : Takes X c.W) (ha : EA X c (e :: es) args) (hg : Gl X x := by rfl) (hdb : (x == ("__debug__" : Str)) = false := by decide)
    (he : starEach (e :: es) X.env = (false, eval e X.env) :: starEach es X.env := by rfl) (hpl : (backTo pos (starEach es X.env)).any (·.1) = false := by rfl) : EE X c (.Call (.Name x p) (e :: es) [] pos) (dCall n m args) := by
  obtain ⟨k, f, fd, ps, F, hr, hm, hk, hb⟩ := C
  refine PE.imp (pe_callS (E := WE c.W) F hr hg hm hk hb (fun σ => passAt tk σ) ha hdb he hpl) fun σ H Q ⟨O, env, rel, q⟩ =>
    ⟨O, env, rel, q.bind.imp fun ds q1 vs H1 s1 b1 => ⟨O, ds, (rel.ext s1).dom, b1, ?_⟩⟩
  show match callN n m ds with
    | .ok d => _
    | .error (.exc nm fs) => _
    | .error .stuck => False
  cases r : callN n m ds with
  | ok d =>
    rw [r] at q1
    exact fun v H' s' hv => q1.ok v H' (s1.trans s') hv
  | error e =>
    rw [r] at q1
    cases e with
    | stuck => exact q1
    | exc nm fs => exact fun cls dd H' s' hx => q1 cls dd H' (s1.trans s') hx
/-- .. handed what this def holds -/
def guardX : R PyData → R PyData
  | .ok d => if noL d = true then .ok d else .error .stuck
  | .error (.exc n fs) => if fs.all (fun p => noL p.2) = true then .error (.exc n fs) else .error .stuck
  | .error .stuck => .error .stuck
def dCallB (n : Nat) (m : List PyData → R PyData) (args : DA) : DE := fun env => do
  let ds ← args env
  guardX (callN n m ds)
theorem Bvs.dvs0 {K : PySem.W.Frag} : ∀ {vs : List V} {ds : List PyData}, Bvs K c O H vs ds → (∀ a ∈ c.O_0, a ∈ O) → Dvs K (hide c.O_0 H) vs ds
  | _, _, .nil, _ => .nil
  | _, _, .cons h t, s => .cons (h.dv0 s) (t.dvs0 s)
theorem ExcR.noL {mg : Str → Option Value} {K : PySem.W.Frag} {O O' : List Addr} {H : Hp} {n : Str} {fs : List (Str × PyData)} {cls : Value} {dd : Option Addr} (m : ∀ a ∈ O, Mut (H a)) (h : ExcR mg K O' H n fs cls dd) (e : fs.all (fun p => DL.noL p.2) = true) : ExcR mg K O H n fs cls dd := by
  obtain ⟨C, h1, h2, h3⟩ := h
  refine ⟨C, h1, h2, ?_⟩
  cases fs with
  | nil => trivial
  | cons p r =>
    cases r with
    | nil =>
      obtain ⟨q, v, a1, a2, a3⟩ := h3
      exact ⟨q, v, a1, a2, a3.noL m (by simpa using e)⟩
    | cons _ _ => exact h3
theorem e_callBs {x : Str} {p : Pos} {n : Nat} {m : List PyData → R PyData} {args : DA} (C : Cal X.prog X.w X.K X.mg X.base X.A x n m) (tk : Takes X c.W) (ha : EBs X c (e :: es) args) (hg : Gl X x := by rfl) (hdb : (x == ("__debug__" : Str)) = false := by decide)
    (he : starEach (e :: es) X.env = (false, eval e X.env) :: starEach es X.env := by rfl) (hpl : (backTo pos (starEach es X.env)).any (·.1) = false := by rfl) : EE X c (.Call (.Name x p) (e :: es) [] pos) (dCallB n m args) := by
  obtain ⟨k, f, fd, ps, F, hr, hm, hk, hb⟩ := C
  refine PE.imp (pe_callS (E := WE c.W) F hr hg hm hk hb (fun σ => passAt tk σ) ha hdb he hpl) fun σ H Q ⟨O, env, rel, q⟩ =>
    ⟨O, env, rel, q.bind.imp fun ds q1 vs H1 s1 b1 => ⟨c.O_0, ds, fun a ha => mut_same (rel.same.trans s1) (rel.dom0 a ha), b1.dvs0 rel.sub, ?_⟩⟩
  show match callN n m ds with
    | .ok d => _
    | .error (.exc nm fs) => _
    | .error .stuck => False
  cases r : callN n m ds with
  | ok d =>
    rw [r] at q1
    intro v H' s' hv
    by_cases hl : noL d = true
    · have q2 : Res X c O σ H (.ok d) (fun d => ∀ (v : V) (H' : Hp), Same H H' → Dv X.K (hide O H') v d → Q v H') := by simpa only [guardX, if_pos hl] using q1
      exact q2.ok v H' (s1.trans s') (hv.noL (rel.ext (s1.trans s')).dom hl)
    · have q2 : Res X c O σ H (.error .stuck) (fun d => ∀ (v : V) (H' : Hp), Same H H' → Dv X.K (hide O H') v d → Q v H') := by simpa only [guardX, if_neg hl] using q1
      exact q2.elim
  | error e =>
    rw [r] at q1
    cases e with
    | stuck => exact q1
    | exc nm fs =>
      intro cls dd H' s' hx
      by_cases hl : fs.all (fun p => noL p.2) = true
      · have q2 : Res X c O σ H (.error (.exc nm fs)) (fun d => ∀ (v : V) (H' : Hp), Same H H' → Dv X.K (hide O H') v d → Q v H') := by simpa only [guardX, if_pos hl] using q1
        exact q2 cls dd H' (s1.trans s') (hx.noL (rel.ext (s1.trans s')).dom hl)
      · have q2 : Res X c O σ H (.error .stuck) (fun d => ∀ (v : V) (H' : Hp), Same H H' → Dv X.K (hide O H') v d → Q v H') := by simpa only [guardX, if_neg hl] using q1
        exact q2.elim
end

/-! ### statements -/
def Out (X : Cx) (c : Dc) (D : Ends) (O : List Addr) (H : Hp) : Fl → Prop
  | .nx e => ∀ O' σ' H', Keep O H O' H' → Rel X.K c O' H' e σ' → D.nx σ' H'
  | .bk e => ∀ O' σ' H', Keep O H O' H' → Rel X.K c O' H' e σ' → D.bk σ' H'
  | .ct e => ∀ O' σ' H', Keep O H O' H' → Rel X.K c O' H' e σ' → D.ct σ' H'
  | .rt d => ∀ v H', Same c.H_0 H' → Dv X.K (hide c.O_0 H') v d → D.rt v H'
  | .ex e n fs => ∀ O' σ' H' cls dd, Keep O H O' H' → Rel X.K c O' H' e σ' → ExcR X.mg X.K O' H' n fs cls dd → c.W cls dd σ' H'
  | .stuck => False
def rdS (X : Cx) (c : Dc) (g : DS) : TS := fun D σ H => ∃ O env, Rel X.K c O H env σ ∧ Out X c D O H (g env)
abbrev SS (X : Cx) (c : Dc) (s : Stmt) (g : DS) : Prop := PS X s (rdS X c g)
abbrev SSs (X : Cx) (c : Dc) (s : List Stmt) (g : DS) : Prop := PSs X s (rdS X c g)
def dDo {α : Type} (r : R α) (k : α → Fl) (env : Ev) : Fl := match r with
  | .ok a => k a
  | .error (.exc n fs) => .ex env n fs
  | .error .stuck => .stuck
section
variable {X : Cx} {c : Dc} {D : Ends} {O O1 : List Addr} {σ : DL.St} {H H1 : Hp} {a b e : Expr} {es : List Expr} {pos : Pos} {fa fb f : DE} {ta tb : DT} {env : Ev}
theorem Out.mono {fl : Fl} (k : Keep O H O1 H1) (h : Out X c D O H fl) : Out X c D O1 H1 fl := by
  cases fl with
  | nx e => exact fun O' σ' H' k' r => h O' σ' H' (k.trans k') r
  | bk e => exact fun O' σ' H' k' r => h O' σ' H' (k.trans k') r
  | ct e => exact fun O' σ' H' k' r => h O' σ' H' (k.trans k') r
  | rt d => exact h
  | ex e n fs => exact fun O' σ' H' cls dd k' r => h O' σ' H' cls dd (k.trans k') r
  | stuck => exact h
theorem Out.do {α : Type} {r : R α} {k : α → Fl} (rel : Rel X.K c O H env σ) (h : Out X c D O H (dDo r k env)) : Res X c O σ H r fun a => Out X c D O H (k a) := by
  cases r with
  | ok a => exact h
  | error e =>
    cases e with
    | stuck => exact h
    | exc n fs => exact fun cls dd H' s e => h O σ H' cls dd (Keep.of s) (rel.ext s) e
/-- the ends of a loop's or a block's inside -/
theorem Out.ends {fl : Fl} {D' : Ends} (h : Out X c D O H fl) (hr : D'.rt = D.rt) (h1 : ∀ e, fl = .nx e → Out X c D' O H (.nx e)) (h2 : ∀ e, fl = .bk e → Out X c D' O H (.bk e)) (h3 : ∀ e, fl = .ct e → Out X c D' O H (.ct e)) : Out X c D' O H fl := by
  cases fl with
  | nx e => exact h1 e rfl
  | bk e => exact h2 e rfl
  | ct e => exact h3 e rfl
  | rt d =>
    intro v H' s hv
    rw [hr]
    exact h v H' s hv
  | ex e n fs => exact h
  | stuck => exact h
def dSkip : DS := fun env => .nx env
def dSeq (s t : DS) : DS := fun env => match s env with
  | .nx e => t e
  | r => r
theorem ss_nil : SSs X c [] dSkip := PSs.imp pss_nil fun D σ H ⟨O, env, rel, q⟩ => q O σ H (Keep.refl _ _) rel
theorem ss_one {st : Stmt} {g : DS} (h : SS X c st g) : SSs X c [st] g := pss_one h
theorem ss_cons {st : Stmt} {sts : List Stmt} {g t : DS} (h : SS X c st g) (hr : SSs X c sts t) : SSs X c (st :: sts) (dSeq g t) := PSs.imp (pss_cons h hr) fun D σ H ⟨O, env, rel, q⟩ => by
  refine ⟨O, env, rel, ?_⟩
  unfold dSeq at q
  cases r : g env with
  | nx e =>
    rw [r] at q
    exact fun O' σ' H' k rel' => ⟨O', e, rel', Out.mono k q⟩
  | bk e => rw [r] at q; exact q
  | ct e => rw [r] at q; exact q
  | rt d => rw [r] at q; exact q
  | ex e n fs => rw [r] at q; exact q
  | stuck => rw [r] at q; exact q
theorem s_pass : SS X c (.Pass pos) dSkip := PS.imp ps_pass fun D σ H ⟨O, env, rel, q⟩ => q O σ H (Keep.refl _ _) rel
def dBk : DS := fun env => .bk env
def dCt : DS := fun env => .ct env
theorem s_break : SS X c (.Break pos) dBk := PS.imp ps_break fun D σ H ⟨O, env, rel, q⟩ => q O σ H (Keep.refl _ _) rel
theorem s_continue : SS X c (.Continue pos) dCt := PS.imp ps_continue fun D σ H ⟨O, env, rel, q⟩ => q O σ H (Keep.refl _ _) rel
def dExpr (f : DE) : DS := fun env => dDo (f env) (fun _ => .nx env) env
theorem s_expr (h : EE X c e f) (hs : swapsWith e none pos.line X.env = pure false := by rfl) : SS X c (.Expr e pos) (dExpr f) := PS.imp (ps_expr h hs) fun D σ H ⟨O, env, rel, q⟩ =>
  ⟨O, env, rel, (Out.do rel q).imp fun d q1 v H' s b => q1 O σ H' (Keep.of s) (rel.ext s)⟩
def dRet (f : DE) : DS := fun env => dDo (f env) .rt env
theorem s_ret (h : EB X c e f) : SS X c (.Return (some e) pos) (dRet f) := PS.imp (ps_ret h) fun D σ H ⟨O, env, rel, q⟩ =>
  ⟨O, env, rel, (Out.do rel q).imp fun d q1 v H' s b => q1 v H' (rel.same.trans s) (b.dv0 rel.sub)⟩
def dRetN : DS := fun _ => .rt .none
theorem s_retN : SS X c (.Return none pos) dRetN := PS.imp ps_retN fun D σ H ⟨O, env, rel, q⟩ => q .non H rel.same .non
def dIfS (t : DT) (g1 g2 : DS) : DS := fun env => dDo (t env) (fun k => if k = true then g1 env else g2 env) env
theorem s_if {t : Expr} {ft : DT} {x y : List Stmt} {g1 g2 : DS} (h : ET X c t ft) (h1 : SSs X c x g1) (h2 : SSs X c y g2) : SS X c (.If t x y pos) (dIfS ft g1 g2) := PS.imp (ps_if h h1 h2) fun D σ H ⟨O, env, rel, q⟩ =>
  ⟨O, env, rel, (Out.do rel q).imp fun k q1 H' s => by
    cases k with
    | true => exact L2.iteT ⟨O, env, rel.ext s, Out.mono (Keep.of s) (show Out X c D O H (g1 env) from q1)⟩
    | false => exact L2.iteF ⟨O, env, rel.ext s, Out.mono (Keep.of s) (show Out X c D O H (g2 env) from q1)⟩⟩
/-- x = e -/
theorem Rel.put' {K : PySem.W.Frag} {i : Nat} {v : V} {d : PyData} (r : Rel K c O H env σ) (h : Dv K (hide O H) v d) : Rel K c O H (env.set i (.dat d)) (σ.set i (some v)) := by
  by_cases hi : i < env.length
  · exact r.put hi h
  · rw [List.set_eq_of_length_le (by omega), List.set_eq_of_length_le (by rw [← r.len]; omega)]
    exact r
def dSet (i : Nat) (f : DE) : DS := fun env => dDo (f env) (fun d => .nx (env.set i (.dat d))) env
theorem s_set (i : Nat) {x : Str} {pos' : Pos} (hN : X.N.Nodup) (he : EE X c e f) (hi : X.N[i]? = some x := by rfl) (hx : Loc X.env.scope x := by first | exact Or.inl rfl | exact Or.inr rfl) (hs : swapsWith e (some (.Name x pos')) pos.line X.env = pure false := by rfl) (hf : X.fn x = true ∨ X.env.scope.names.lookup x = some .local := by first | exact .inl rfl | exact .inr rfl) :
    SS X c (.Assign [.Name x pos'] e pos) (dSet i f) := PS.imp (ps_set hN hi hx he hs hf) fun D σ H ⟨O, env, rel, q⟩ =>
  ⟨O, env, rel, (Out.do rel q).imp fun d q1 v H' s b => q1 O _ H' (Keep.of s) ((rel.ext s).put' b)⟩
/-- a new thing is bound -/
theorem Rel.putNew {K : PySem.W.Frag} {i : Nat} {p : Addr} {u : HO} {w : Ow} (r : Rel K c O H env σ) (s : Same H H1) (n : H p = none) (hu : H1 p = some u) (hw : OwR K (hide (p :: O) H1) u w) (hq : PinOk c w p := by trivial) : Rel K c (p :: O) H1 (env.set i (.own w)) (σ.set i (some (.ref p))) := by
  have r1 := r.grow n s (by rw [hu]; exact hw.mut)
  by_cases hi : i < env.length
  · refine r1.putOwn hi List.mem_cons_self (r.same.free n) hu hw fun j w' ej sj => ?_
    obtain ⟨p', u', h1, h2, h3, h4, h5⟩ := r.slots j _ ej
    rw [sj] at h1
    cases h1
    rw [n] at h4; cases h4
  · rw [List.set_eq_of_length_le (by omega), List.set_eq_of_length_le (by rw [← r.len]; omega)]
    exact r1
def dSetF (i : Nat) (f : DA) : DS := fun env => dDo (f env) (fun ds => .nx (env.set i (.own (.lst ds)))) env
theorem s_setF (i : Nat) {x : Str} {pos' : Pos} {f : DA} (hN : X.N.Nodup) (he : EF X c e f) (hi : X.N[i]? = some x := by rfl) (hx : Loc X.env.scope x := by first | exact Or.inl rfl | exact Or.inr rfl) (hs : swapsWith e (some (.Name x pos')) pos.line X.env = pure false := by rfl) (hf : X.fn x = true ∨ X.env.scope.names.lookup x = some .local := by first | exact .inl rfl | exact .inr rfl) :
    SS X c (.Assign [.Name x pos'] e pos) (dSetF i f) := PS.imp (ps_set hN hi hx he hs hf) fun D σ H ⟨O, env, rel, q⟩ =>
  ⟨O, env, rel, (Out.do rel q).imp fun ds q1 p vs H' s n hu hw => q1 (p :: O) _ H' (Keep.grow n s) (rel.putNew s n hu hw)⟩
/-- what is held is let go: it is data from here on -/
theorem s_freeze (i : Nat) {st : Stmt} {g : DS} (h : SS X c st g) : SS X c st (fun env => g (freeze i env)) := PS.imp h fun D σ H ⟨O, env, rel, q⟩ => by
  obtain ⟨O', r', k⟩ := rel.freeze i
  exact ⟨O', _, r', Out.mono k q⟩
/-- x op= e -/
def dAug (i : Nat) (g : PyData → PyData → Option PyData) (f : DE) : DS := fun env => dDo (dVar i env) (fun x => dDo (f env) (fun y => match g x y with
  | some z => .nx (env.set i (.dat z))
  | none => .stuck) env) env
theorem s_aug (i : Nat) {x : Str} {op : Operator} {r : R2} {g : PyData → PyData → Option PyData} {pos' : Pos} (ho : OpR X (inplaceOp op) r) (hd : OpD X r g) (hN : X.N.Nodup) (he : EB X c e f) (hi : X.N[i]? = some x := by rfl) (hx : Loc X.env.scope x := by first | exact Or.inl rfl | exact Or.inr rfl) (hf : X.fn x = true ∨ X.env.scope.names.lookup x = some .local := by first | exact .inl rfl | exact .inr rfl) :
    SS X c (.AugAssign (.Name x pos') op e pos) (dAug i g f) := PS.imp (ps_aug hN hi hx he (ti := r) ho hf) fun D σ H ⟨O, env, rel, q⟩ => by
  have q0 := Out.do rel q
  unfold dVar at q0
  split at q0
  · rename_i d ed
    obtain ⟨v, h1, h2⟩ := rel.dat ed
    refine ⟨v, h1, O, env, rel, (Out.do (c := c) rel (show Out X c D O H (dDo (f env) (fun y => match g d y with
      | some z => .nx (env.set i (.dat z))
      | none => .stuck) env) from q0)).imp fun d' q1 w H' s b => ?_⟩
    split at q1
    · rename_i z hz
      exact hd c O H' v w d d' z _ (rel.ext s).dom (.inl (h2.same (hide_same s))) b hz fun v' H2 s' hv => q1 O _ H2 (Keep.of (s.trans s')) ((rel.ext (s.trans s')).put' hv)
    · exact q1.elim
  · exact q0.elim

/-! ### while -/
def whileD (t : DT) (b : DS) : Nat → DS
  | 0 => fun _ => .stuck
  | n + 1 => fun env => dDo (t env) (fun k => if k = true then (match b env with
    | .nx e => whileD t b n e
    | .ct e => whileD t b n e
    | .bk e => .nx e
    | r => r) else .nx env) env
def dWhile (μ : Ev → Nat) (t : DT) (b : DS) : DS := fun env => whileD t b (μ env) env
theorem s_while (μ : Ev → Nat) {t : Expr} {ft : DT} {x : List Stmt} {g : DS} (hp : PassesOwn (model X.prog X.w) X.A X.env X.xe) (h : ET X c t ft) (hb : SSs X c x g) : SS X c (.While t x [] pos) (dWhile μ ft g) := PS.imp (ps_while hp h hb) fun D σ H ⟨O, env, rel, q⟩ => by
  refine ⟨fun m σ H => ∃ O env, Rel X.K c O H env σ ∧ Out X c D O H (whileD ft g m env), ⟨μ env, O, env, rel, q⟩, ?_⟩
  rintro m σ1 H1 ⟨O1, env1, rel1, q1⟩
  cases m with
  | zero => exact q1.elim
  | succ n =>
    refine ⟨O1, env1, rel1, (Out.do rel1 q1).imp fun k q2 H2 s2 => ?_⟩
    have rel2 := rel1.ext s2
    cases k with
    | false => exact L2.iteF ((show Out X c D O1 H1 (.nx env1) from q2) O1 σ1 H2 (Keep.of s2) rel2)
    | true =>
      have q3 : Out X c D O1 H2 (match g env1 with
        | .nx e => whileD ft g n e
        | .ct e => whileD ft g n e
        | .bk e => .nx e
        | r => r) := Out.mono (Keep.of s2) q2
      refine L2.iteT ⟨fun σ' H' => ∃ O' e', Rel X.K c O' H' e' σ' ∧ Out X c D O' H' (whileD ft g n e'), fun σ' H' z => ⟨n, Nat.lt_succ_self n, z⟩, O1, env1, rel2, ?_⟩
      cases r : g env1 with
      | nx e => rw [r] at q3; exact fun O' σ' H' k' rel' => ⟨O', e, rel', Out.mono k' q3⟩
      | ct e => rw [r] at q3; exact fun O' σ' H' k' rel' => ⟨O', e, rel', Out.mono k' q3⟩
      | bk e => rw [r] at q3; exact q3
      | rt d => rw [r] at q3; exact q3
      | ex e n fs => rw [r] at q3; exact q3
      | stuck => rw [r] at q3; exact q3

/-! ### targets -/
abbrev DG := PyData → Ev → Option Ev
/-- only the slots of the list is are stored to -/
def Off (is : List Nat) (σ σ' : DL.St) : Prop := σ'.length = σ.length ∧ ∀ j, j ∉ is → σ'[j]? = σ[j]?
theorem Off.trans {is js : List Nat} {σ σ' σ'' : DL.St} (h : Off is σ σ') (h' : Off js σ' σ'') : Off (is ++ js) σ σ'' :=
  ⟨h'.1.trans h.1, fun j n => (h'.2 j fun z => n (List.mem_append_right _ z)).trans (h.2 j fun z => n (List.mem_append_left _ z))⟩
def rdG (X : Cx) (c : Dc) (is : List Nat) (g : DG) : TG := fun v σ H Q => ∃ O env d, Rel X.K c O H env σ ∧ Dv X.K (hide O H) v d ∧ ∃ e, g d env = some e ∧ ∀ σ', Off is σ σ' → Rel X.K c O H e σ' → Q σ' H
def rdGs (X : Cx) (c : Dc) (is : List Nat) (g : List PyData → Ev → Option Ev) : TGs := fun vs σ H Q => ∃ O env ds, Rel X.K c O H env σ ∧ Dvs X.K (hide O H) vs ds ∧ ∃ e, g ds env = some e ∧ ∀ σ', Off is σ σ' → Rel X.K c O H e σ' → Q σ' H
theorem PG.imp {X : Cx} {e : Expr} {t t' : TG} (h : PG X e t) (i : ∀ v σ H Q, t' v σ H Q → t v σ H Q) : PG X e t' := ⟨fun pins s σ H v u Q I r q => h.run pins s σ H v u Q I r (i v σ H Q q)⟩
theorem PGs.imp {X : Cx} {e : List Expr} {t t' : TGs} (h : PGs X e t) (i : ∀ v σ H Q, t' v σ H Q → t v σ H Q) : PGs X e t' := ⟨fun pins s σ H v u Q I r q => h.run pins s σ H v u Q I r (i v σ H Q q)⟩
def gN (i : Nat) : DG := fun d env => some (env.set i (.dat d))
theorem g_name (i : Nat) {x : Str} (hN : X.N.Nodup) (hi : X.N[i]? = some x := by rfl) (hx : Loc X.env.scope x := by first | exact Or.inl rfl | exact Or.inr rfl) (hf : X.fn x = true ∨ X.env.scope.names.lookup x = some .local := by first | exact .inl rfl | exact .inr rfl) : PG X (.Name x pos) (rdG X c [i] (gN i)) := PG.imp (pg_name hN hi hx hf) fun v σ H Q ⟨O, env, d, rel, h, e, he, q⟩ => by
  cases he
  exact q _ ⟨List.length_set, fun j n => List.getElem?_set_ne fun z => n (by simp [z])⟩ (rel.put' h)
def gNil : List PyData → Ev → Option Ev := fun ds env => match ds with
  | [] => some env
  | _ => none
def gCons (g : DG) (gs : List PyData → Ev → Option Ev) : List PyData → Ev → Option Ev := fun ds env => match ds with
  | d :: ds => (g d env).bind fun e => gs ds e
  | [] => none
theorem gs_nil : PGs X [] (rdGs X c [] DL.gNil) := PGs.imp pgs_nil fun v σ H Q ⟨O, env, ds, rel, h, e, he, q⟩ => by
  cases h with
  | nil => cases he; exact ⟨rfl, q _ ⟨rfl, fun _ _ => rfl⟩ rel⟩
  | cons _ _ => cases he
theorem gs_cons {g : DG} {is js : List Nat} {gs : List PyData → Ev → Option Ev} (h : PG X e (rdG X c is g)) (hr : PGs X es (rdGs X c js gs)) (hs : (assignEach (e :: es) X.env).map (·.2) = assign e X.env :: (assignEach es X.env).map (·.2) := by rfl) : PGs X (e :: es) (rdGs X c (is ++ js) (DL.gCons g gs)) :=
  PGs.imp (pgs_cons h hr hs) fun vs σ H Q ⟨O, env, ds, rel, h, e, he, q⟩ => by
    cases h with
    | nil => cases he
    | @cons v vs' d ds' h1 h2 =>
      obtain ⟨e1, he1, he2⟩ := Option.bind_eq_some_iff.mp (show (g d env).bind (fun e => gs ds' e) = some e from he)
      exact ⟨v, vs', rfl, O, env, d, rel, h1, e1, he1, fun σ' o1 rel' => ⟨O, e1, ds', rel', h2, e, he2, fun σ'' o2 => q σ'' (o1.trans o2)⟩⟩
def gTup (n : Nat) (gs : List PyData → Ev → Option Ev) : DG := fun d env => match d with
  | .tuple ds => match Nat.beq ds.length n with
    | true => gs ds env
    | false => none
  | _ => none
theorem g_tup (n : Nat) {k : Nat} {is : List Nat} {gs : List PyData → Ev → Option Ev} (hc : X.calm = true) (h : PGs X es (rdGs X c is gs))
    (hn : (assignEach es X.env).length = n := by rfl) (hst : (assignEach es X.env).findIdx? (·.1) = none := by rfl) : PG X (.Tuple es k pos) (rdG X c is (DL.gTup n gs)) := PG.imp (pg_tup hc h hn hst) fun v σ H Q ⟨O, env, d, rel, h, e, he, q⟩ => by
  unfold DL.gTup at he
  split at he
  · rename_i ds
    split at he
    · rename_i hl
      cases h with
      | tup h1 h2 => exact ⟨_, _, rfl, sqT_same (hide_le _ _) h1, by rw [h2.length]; exact Nat.eq_of_beq_eq_true hl, O, env, ds, rel, h2, e, he, q⟩
    · cases he
  · cases he
/-- a target = e -/
def dAsgG (g : DG) (f : DE) : DS := fun env => dDo (f env) (fun d => match g d env with
  | some e => .nx e
  | none => .stuck) env
theorem s_asgG {tg : Expr} {g : DG} {is : List Nat} (he : EE X c e f) (hg : PG X tg (rdG X c is g)) (hs : swapsWithSole [tg] e pos.line X.env = pure false := by rfl) (hw : swappedStores [tg] e X.env = pure none := by rfl) (h1 : (assignEach [tg] X.env).map (·.2) = [assign tg X.env] := by rfl) : SS X c (.Assign [tg] e pos) (dAsgG g f) := PS.imp (ps_asg he hg hs hw h1) fun D σ H ⟨O, env, rel, q⟩ =>
  ⟨O, env, rel, (Out.do rel q).imp fun d q1 v H' s b => by
    split at q1
    · rename_i e1 he1
      exact ⟨O, env, d, rel.ext s, b, e1, he1, fun σ' _ rel' => q1 O σ' H' (Keep.of s) rel'⟩
    · exact q1.elim⟩
end
end DL

set_option Elab.async false
set_option linter.all false
set_option maxRecDepth 100000
set_option maxHeartbeats 1000000
namespace DL
open PySem PySem.Spec L2 PyProof.Rows
set_option autoImplicit false
noncomputable section

section
variable {X : Cx} {c : Dc} {D : Ends} {O O1 : List Addr} {σ : DL.St} {H H1 : Hp} {a b e : Expr} {es : List Expr} {pos : Pos} {fa fb f : DE} {ta tb : DT} {env : Ev}

/-! ### for -/
/-- the iterator J gives the data ds, whatever is done to what is hidden -/
def Gives (K : PySem.W.Frag) (O : List Addr) (H : Hp) (J : It) (ds : List PyData) : Prop := ∀ (O1 : List Addr) (H1 : Hp), Keep O H O1 H1 → (∀ a ∈ O1, Mut (H1 a)) → J.stop ds.length H1 ∧ ∀ (i : Nat) (d : PyData), ds[i]? = some d → J.go i H1 ∧ ∀ x H', J.yld i H1 x H' → Same H1 H' ∧ Dv K (hide O1 H') x d
def rdI (X : Cx) (c : Dc) (f : DA) : TI := fun σ H R => ∃ O env, Rel X.K c O H env σ ∧ Res X c O σ H (f env) fun ds => ∀ J H', Same H H' → Gives X.K O H' J ds → R J H'
theorem PI.imp {X : Cx} {tg e : Expr} {t t' : TI} (h : PI X tg e t) (i : ∀ σ H Q, t' σ H Q → t σ H Q) : PI X tg e t' := ⟨fun pins s σ H Q I q => h.run pins s σ H Q I (i σ H Q q)⟩
def forD (g : DG) (b : DS) : List PyData → DS
  | [] => fun env => .nx env
  | d :: ds => fun env => match g d env with
    | none => .stuck
    | some e1 => match b e1 with
      | .nx e => forD g b ds e
      | .ct e => forD g b ds e
      | .bk e => .nx e
      | r => r
def dFor (f : DA) (g : DG) (b : DS) : DS := fun env => dDo (f env) (fun ds => forD g b ds env) env
theorem s_for {tg iter : Expr} {x : List Stmt} {fi : DA} {g : DG} {is : List Nat} {gb : DS} (hp : PassesOwn (model X.prog X.w) X.A X.env X.xe) (hc : X.calm = true) (hi : PI X tg iter (rdI X c fi)) (hg : PG X tg (rdG X c is g)) (hb : SSs X c x gb)
    (hs : ∀ x, foldedSetIterable iter X.env x = pure x := by intro _; rfl) : SS X c (.For tg iter x [] pos) (dFor fi g gb) := PS.imp (ps_for hp hc hi hg hb hs) fun D σ H ⟨O, env, rel, q⟩ => by
  refine ⟨O, env, rel, (Out.do rel q).imp fun ds q1 J H0 s0 gv => ?_⟩
  have rel0 := rel.ext s0
  have q1' : Out X c D O H0 (forD g gb ds env) := Out.mono (Keep.of s0) q1
  refine ⟨fun i m σ1 H1 => m = ds.length - i ∧ i ≤ ds.length ∧ ∃ O1 env1, Rel X.K c O1 H1 env1 σ1 ∧ Keep O H0 O1 H1 ∧ Out X c D O1 H1 (forD g gb (ds.drop i) env1), ⟨ds.length, by simp, Nat.zero_le _, O, env, rel0, Keep.refl _ _, q1'⟩, ?_⟩
  rintro i m σ1 H1 ⟨rfl, hi, O1, env1, rel1, k1, q2⟩
  obtain ⟨st, go⟩ := gv O1 H1 k1 rel1.dom
  by_cases hlt : i < ds.length
  · right
    have e := List.drop_eq_getElem_cons hlt
    rw [e] at q2
    obtain ⟨g1, g2⟩ := go i ds[i] (List.getElem?_eq_getElem hlt)
    refine ⟨g1, ?_⟩
    unfold forD at q2
    split at q2
    · exact q2.elim
    · rename_i e1 he1
      refine ⟨fun σ' H' => ∃ O' e', Rel X.K c O' H' e' σ' ∧ Keep O H0 O' H' ∧ Out X c D O' H' (forD g gb (ds.drop (i + 1)) e'), fun σ' H' z => ⟨ds.length - (i + 1), by omega, rfl, hlt, z⟩, fun x H' hy => ?_⟩
      obtain ⟨s', hv⟩ := g2 x H' hy
      have q3 := Out.mono (Keep.of s') q2
      refine ⟨O1, env1, _, rel1.ext s', hv, e1, he1, fun σ2 _ rel2 => ⟨O1, e1, rel2, ?_⟩⟩
      cases r : gb e1 with
      | nx e =>
        simp only [r] at q3
        exact fun O' σ' H' k' rel' => ⟨O', e, rel', k1.trans ((Keep.of s').trans k'), Out.mono k' q3⟩
      | ct e =>
        simp only [r] at q3
        exact fun O' σ' H' k' rel' => ⟨O', e, rel', k1.trans ((Keep.of s').trans k'), Out.mono k' q3⟩
      | bk e => simp only [r] at q3; exact q3
      | rt d => simp only [r] at q3; exact q3
      | ex e n fs => simp only [r] at q3; exact q3
      | stuck => simp only [r] at q3; exact q3
  · left
    have e : i = ds.length := by omega
    subst e
    refine ⟨st, ?_⟩
    rw [List.drop_length] at q2
    exact q2 O1 σ1 H1 (Keep.refl _ _) rel1
/-- what a for walks -/
def seqOf : PyData → Option (List PyData)
  | .list ds => some ds
  | .tuple ds => some ds
  | _ => none
def dItems (f : DE) : DA := fun env => do
  let x ← f env
  lift (seqOf x)
theorem gives_list {K : PySem.W.Frag} {p : Addr} {vs : List V} {ds : List PyData} (h : SqL K (hide O H) p vs) (hd : Dvs K (hide O H) vs ds) : Gives K O H (Itl K p) ds := fun O1 H1 k m => by
  have h1 : SqL K H1 p vs := Same.seq (hide_le _ _) (Same.seq k.hide h)
  have hd1 := hd.same k.hide
  refine ⟨⟨vs, h1, by rw [hd.length]; exact Nat.le_refl _⟩, fun i d hi => ?_⟩
  obtain ⟨v, hv, dv⟩ := hd1.get hi
  refine ⟨⟨vs, v, h1, hv⟩, fun x H' hy => ?_⟩
  obtain ⟨rfl, hx⟩ := hy
  have := hx vs h1
  rw [hv] at this
  cases this
  exact ⟨Same.refl _, dv⟩
theorem gives_tup {K : PySem.W.Frag} {p : Addr} {vs : List V} {ds : List PyData} (h : SqT K (hide O H) p vs) (hd : Dvs K (hide O H) vs ds) : Gives K O H (Itt K p) ds := fun O1 H1 k m => by
  have h1 : SqT K H1 p vs := sqT_same (hide_le _ _) (sqT_same k.hide h)
  have hd1 := hd.same k.hide
  refine ⟨⟨vs, h1, by rw [hd.length]; exact Nat.le_refl _⟩, fun i d hi => ?_⟩
  obtain ⟨v, hv, dv⟩ := hd1.get hi
  refine ⟨⟨vs, v, h1, hv⟩, fun x H' hy => ?_⟩
  obtain ⟨rfl, hx⟩ := hy
  have := hx vs h1
  rw [hv] at this
  cases this
  exact ⟨Same.refl _, dv⟩
theorem i_seq {tg : Expr} (h : EE X c e f) : PI X tg e (rdI X c (dItems f)) := ⟨fun pins s σ H R I q => by
  obtain ⟨O, env, rel, q⟩ := q
  have q1 := Res.bind q
  cases r : f env with
  | error er =>
    rw [r] at q1
    refine (pi_list h).run pins s σ H R I ⟨O, env, rel, ?_⟩
    rw [r]
    cases er <;> exact q1
  | ok d =>
    rw [r] at q1
    obtain ⟨ds, hds, q2⟩ := Res.lift (c := c) (o := seqOf d) q1
    cases d <;> first | (cases hds; done) | skip
    · cases hds
      refine (pi_list h).run pins s σ H R I ⟨O, env, rel, ?_⟩
      rw [r]
      intro v H' s' hv
      cases hv with
      | lst h1 h2 => exact ⟨_, rfl, ⟨_, Same.seq (hide_le _ _) h1⟩, q2 _ H' s' (gives_list h1 h2)⟩
    · cases hds
      refine (pi_tup h).run pins s σ H R I ⟨O, env, rel, ?_⟩
      rw [r]
      intro v H' s' hv
      cases hv with
      | tup h1 h2 => exact ⟨_, rfl, ⟨_, sqT_same (hide_le _ _) h1⟩, q2 _ H' s' (gives_tup h1 h2)⟩⟩
def rangeD (lo c : Int) (n : Nat) : List PyData := (List.range n).map fun i => .int (lo + (i : Nat) * c)
theorem rangeD_get {lo c : Int} {n i : Nat} {d : PyData} (h : (rangeD lo c n)[i]? = some d) : i < n ∧ d = .int (lo + (i : Nat) * c) := by
  unfold rangeD at h
  rw [List.getElem?_map] at h
  obtain ⟨j, hj, rfl⟩ := Option.map_eq_some_iff.mp h
  obtain ⟨h1, h2⟩ := List.getElem?_eq_some_iff.mp hj
  rw [List.length_range] at h1
  rw [List.getElem_range] at h2
  subst h2
  exact ⟨h1, rfl⟩
theorem rangeD_length {lo c : Int} {n : Nat} : (rangeD lo c n).length = n := by unfold rangeD; rw [List.length_map, List.length_range]
theorem gives_rangeC {K : PySem.W.Frag} {lo c : Int} {n : Nat} : Gives K O H (Itc lo c n) (rangeD lo c n) := fun O1 H1 k m => by
  refine ⟨by show n ≤ _; rw [rangeD_length]; exact Nat.le_refl _, fun i d hi => ?_⟩
  obtain ⟨h1, rfl⟩ := rangeD_get hi
  refine ⟨h1, fun x H' hy => ?_⟩
  obtain ⟨rfl, rfl⟩ := hy
  exact ⟨Same.refl _, .int _⟩
theorem gives_range {K : PySem.W.Frag} {lo : Int} {n : Nat} : Gives K O H (Itr lo n) (rangeD lo 1 n) := fun O1 H1 k m => by
  refine ⟨by show n ≤ _; rw [rangeD_length]; exact Nat.le_refl _, fun i d hi => ?_⟩
  obtain ⟨h1, rfl⟩ := rangeD_get hi
  refine ⟨h1, fun x H' hy => ?_⟩
  obtain ⟨rfl, rfl⟩ := hy
  rw [Int.mul_one]
  exact ⟨Same.refl _, .int _⟩
def rgB0 (i : Int) : Bool := decide (-4611686018427387904 ≤ i) && decide (i < 4611686018427387904)
noncomputable def rgBo : { f : Int → Bool // f = rgB0 } := Classical.choice ⟨⟨rgB0, rfl⟩⟩
def rgB : Int → Bool := rgBo.1
theorem rgB_eq : rgB = rgB0 := rgBo.2
theorem rgB_of {i : Int} (h : rgB i = true) : -(2 ^ 62) ≤ i ∧ i < 2 ^ 62 := by
  rw [rgB_eq] at h; unfold rgB0 at h
  rw [Bool.and_eq_true] at h
  exact ⟨of_decide_eq_true h.1, of_decide_eq_true h.2⟩
theorem rgB_mk {i : Int} (h1 : -4611686018427387904 ≤ i) (h2 : i < 4611686018427387904) : rgB i = true := by rw [rgB_eq]; unfold rgB0; rw [decide_eq_true h1, decide_eq_true h2]; rfl
def gRange1 (d : PyData) : Option (List PyData) := match d with
  | .int j => if rgB j = true then some (rangeD 0 1 j.toNat) else none
  | _ => none
def gRange2 (d e : PyData) : Option (List PyData) := match d, e with
  | .int i, .int j => if (rgB i && rgB j) = true then some (rangeD i 1 (j - i).toNat) else none
  | _, _ => none
def rg3B0 (i j k : Int) : Bool := decide (k ≠ 0) && decide (k.natAbs < 1073741824) && Builtin.Range.small i j k && decide (0 ≤ Builtin.Range.rangeSize i j k)
noncomputable def rg3Bo : { f : Int → Int → Int → Bool // f = rg3B0 } := Classical.choice ⟨⟨rg3B0, rfl⟩⟩
def rg3B : Int → Int → Int → Bool := rg3Bo.1
theorem rg3B_eq : rg3B = rg3B0 := rg3Bo.2
def gRange3 (d e k : PyData) : Option (List PyData) := match d, e, k with
  | .int i, .int j, .int k => if rg3B i j k = true then some (rangeD i k (Builtin.Range.rangeSize i j k).toNat) else none
  | _, _, _ => none
def dRange1 (f : DE) : DA := fun env => do
  let x ← f env
  lift (gRange1 x)
def dRange2 (f g : DE) : DA := fun env => do
  let x ← f env
  let y ← g env
  lift (gRange2 x y)
def dRange3 (f g h : DE) : DA := fun env => do
  let x ← f env
  let y ← g env
  let z ← h env
  lift (gRange3 x y z)
theorem i_range1 {tg it : Expr} (h : PI X tg it (iRng1 (tCons (rdB X c fa) tNil))) : PI X tg it (rdI X c (dRange1 fa)) := PI.imp h fun σ H R ⟨O, env, rel, q⟩ =>
  ⟨O, env, rel, q.bind.imp fun d q1 v H' s' hv => by
    obtain ⟨z, hz, q2⟩ := Res.lift q1
    unfold gRange1 at hz
    split at hz
    · obtain ⟨hb, rfl⟩ := ite_some hz
      cases hv.int
      exact ⟨_, rfl, (rgB_of hb).1, (rgB_of hb).2, q2 _ H' s' gives_range⟩
    · cases hz⟩
theorem i_range2 {tg it : Expr} (h : PI X tg it (iRng2 (tCons (rdB X c fa) (tCons (rdB X c fb) tNil)))) : PI X tg it (rdI X c (dRange2 fa fb)) := PI.imp h fun σ H R ⟨O, env, rel, q⟩ =>
  ⟨O, env, rel, q.bind.imp fun d q1 v H1 s1 hv => ⟨O, env, rel.ext s1, (Res.bind q1).ext s1 fun d' q2 v' H2 s2 hv' => by
    obtain ⟨z, hz, q3⟩ := Res.lift q2
    unfold gRange2 at hz
    split at hz
    · obtain ⟨hb, rfl⟩ := ite_some hz
      rw [Bool.and_eq_true] at hb
      cases hv.int
      cases hv'.int
      exact ⟨_, _, rfl, ⟨(rgB_of hb.1).1, (rgB_of hb.1).2, (rgB_of hb.2).1, (rgB_of hb.2).2⟩, q3 _ H2 (s1.trans s2) gives_range⟩
    · cases hz⟩⟩
theorem i_range3 {tg it : Expr} {fc : DE} (h : PI X tg it (iRng3 (tCons (rdB X c fa) (tCons (rdB X c fb) (tCons (rdB X c fc) tNil))))) : PI X tg it (rdI X c (dRange3 fa fb fc)) := PI.imp h fun σ H R ⟨O, env, rel, q⟩ =>
  ⟨O, env, rel, q.bind.imp fun d q1 v H1 s1 hv => ⟨O, env, rel.ext s1, (Res.bind q1).ext s1 fun d' q2 v' H2 s2 hv' => ⟨O, env, rel.ext (s1.trans s2), (Res.bind q2).ext (s1.trans s2) fun d'' q3 v'' H3 s3 hv'' => by
    obtain ⟨z, hz, q4⟩ := Res.lift q3
    unfold gRange3 at hz
    split at hz
    · obtain ⟨hb, rfl⟩ := ite_some hz
      rw [rg3B_eq] at hb
      unfold rg3B0 at hb
      rw [Bool.and_eq_true, Bool.and_eq_true, Bool.and_eq_true] at hb
      cases hv.int
      cases hv'.int
      cases hv''.int
      exact ⟨_, _, _, _, rfl, ⟨of_decide_eq_true hb.1.1.1, of_decide_eq_true hb.1.1.2, hb.1.2, (Int.toNat_of_nonneg (of_decide_eq_true hb.2)).symm⟩, q4 _ H3 ((s1.trans s2).trans s3) gives_rangeC⟩
    · cases hz⟩⟩⟩

/-! ### what this def holds is changed -/
theorem own_at {i : Nat} {w : Ow} (rel : Rel X.K c O H env σ) (h : env[i]? = some (.own w)) : ∃ p u, σ[i]? = some (some (.ref p)) ∧ p ∈ O ∧ c.H_0 p = none ∧ H p = some u ∧ OwR X.K (hide O H) u w := let ⟨p, u, h1, h2, h3, h4, h5⟩ := rel.slots i _ h; ⟨p, u, h1, h2, h3.1, h4, h5⟩
theorem own_lst {K : PySem.W.Frag} {u : HO} {ds : List PyData} (h : OwR K H u (.lst ds)) : ∃ vs, u = .lst vs ∧ Dvs K H vs ds := by
  cases u <;> first | exact h.elim | exact ⟨_, rfl, h⟩
theorem own_dic {K : PySem.W.Frag} {u : HO} {ps : List (Key × PyData)} (h : OwR K H u (.dic ps)) : ∃ kvs, u = .dK kvs ∧ Dks K H kvs ps := by
  cases u <;> first | exact h.elim | exact ⟨_, rfl, h⟩
def dApp (i : Nat) (f : DE) : DS := fun env => match env[i]? with
  | some (.own (.lst ds)) => dDo (f env) (fun d => if ds.length < LIM then .nx (env.set i (.own (.lst (ds ++ [d])))) else .stuck) env
  | _ => .stuck
theorem s_append {i : Nat} {st : Stmt} (h : PS X st (tDrop (tBM X.K "list" rAppend (tVar i) (tCons (rdE X c f) tNil)))) : SS X c st (dApp i f) := PS.imp h fun D σ H ⟨O, env, rel, q⟩ => by
    unfold dApp at q
    split at q
    · rename_i ds eds
      obtain ⟨p, u, h1, h2, h3, h4, h5⟩ := own_at rel eds
      obtain ⟨vs, rfl, h6⟩ := own_lst h5
      refine ⟨_, h1, .inl ⟨rfl, vs, SqL.of h4⟩, O, env, rel, (Out.do rel q).imp fun d q1 v H' s' hv => ?_⟩
      split at q1
      · rename_i hlim
        have h4' := s' _ _ h4
        refine ⟨p, vs, v, rfl, rfl, h4', by rw [h6.length]; exact lim_lt hlim, q1 O σ _ ((Keep.of s').trans (Keep.change h2)) ?_⟩
        exact (rel.ext s').change eds h1 h2 h3 (show OwR X.K _ (.lst _) (.lst _) from (h6.same (hide_same s')).app (.one hv))
      · exact q1.elim
    · exact q.elim
end
end
end DL

set_option Elab.async false
set_option linter.all false
set_option maxRecDepth 100000
set_option maxHeartbeats 1000000
namespace DL
open PySem PySem.Spec L2 PyProof.Rows
set_option autoImplicit false

section
variable {X : Cx} {c : Dc} {D : Ends} {O O1 : List Addr} {σ : DL.St} {H H1 : Hp} {a b e : Expr} {es : List Expr} {pos : Pos} {fa fb fc f : DE} {ta tb : DT} {env : Ev} {st : Stmt}

/-! ### xs[i] = e, d[k] = e of what this def holds -/
def dSetIx (i : Nat) (fi f : DE) : DS := fun env => dDo (f env) (fun d => match env[i]? with
  | some (.own (.lst ds)) => dDo (fi env) (fun k => match gInt k with
    | some k => match ixN ds.length k with
      | some j => .nx (env.set i (.own (.lst (ds.set j d))))
      | none => .stuck
    | none => .stuck) env
  | _ => .stuck) env
theorem s_setIx {i : Nat} (h : PS X st (tAsg (rdE X c f) (gSub (tVar i) (rdE X c fa) rSetL))) : SS X c st (dSetIx i fa f) := PS.imp h fun D σ H ⟨O, env, rel, q⟩ =>
  ⟨O, env, rel, (Out.do rel q).imp fun d q1 v H1 s1 hv => by
    split at q1
    · rename_i ds eds
      obtain ⟨p, u, h1, h2, h3, h4, h5⟩ := own_at rel eds
      obtain ⟨vs, rfl, h6⟩ := own_lst h5
      refine ⟨_, h1, O, env, rel.ext s1, (Out.do (rel.ext s1) (Out.mono (Keep.of s1) q1)).imp fun k q2 y H2 s2 hk => ?_⟩
      split at q2
      · rename_i k' hk'
        split at q2
        · rename_i j hj
          have s12 := s1.trans s2
          have h4' := s12 _ _ h4
          have hy : y = .int k' := (Bv.of (c := c) hk).gint hk'
          subst hy
          refine ⟨p, vs, k', j, rfl, rfl, h4', by rw [h6.length]; exact hj, q2 O σ _ ((Keep.of s2).trans (Keep.change h2)) ?_⟩
          exact (rel.ext s12).change eds h1 h2 h3 (show OwR X.K _ (.lst _) (.lst _) from Dvs.set (hv.same (hide_same s2)) j (h6.same (hide_same s12)))
        · exact q2.elim
      · exact q2.elim
    · exact q1.elim⟩
def keyOf : PyData → Option Key
  | .int i => some (.inl i)
  | .str x => some (.inr x)
  | _ => none
theorem keyOf_dv {K : PySem.W.Frag} {v : V} {d : PyData} {k : Key} (h : Dv K H v d) (e : keyOf d = some k) : v = kV k := by
  cases h <;> first | (cases e; done) | (cases e; rfl)
/-- d[k] = v on pairs -/
def putP (ps : List (Key × PyData)) (k : Key) (d : PyData) : List (Key × PyData) :=
  if (ps.any fun kv => decide (kv.1 = k)) = true then ps.map (fun kv => if kv.1 = k then (kv.1, d) else kv) else ps ++ [(k, d)]
def getP (ps : List (Key × PyData)) (k : Key) : Option PyData := (ps.find? fun kv => decide (kv.1 = k)).map (·.2)
section
variable {K : PySem.W.Frag}
theorem Dks.length : ∀ {kvs : List (Key × V)} {ps : List (Key × PyData)}, Dks K H kvs ps → kvs.length = ps.length
  | _, _, .nil => rfl
  | _, _, .cons _ t => by rw [List.length_cons, List.length_cons, Dks.length t]
theorem Dks.any {k : Key} : ∀ {kvs : List (Key × V)} {ps : List (Key × PyData)}, Dks K H kvs ps → (kvs.any fun kv => decide (kv.1 = k)) = (ps.any fun kv => decide (kv.1 = k))
  | _, _, .nil => rfl
  | _, _, .cons _ t => by rw [List.any_cons, List.any_cons, Dks.any t]
theorem Dks.map {k : Key} {v : V} {d : PyData} (h : Dv K H v d) : ∀ {kvs : List (Key × V)} {ps : List (Key × PyData)}, Dks K H kvs ps → Dks K H (kvs.map fun kv => if kv.1 = k then (kv.1, v) else kv) (ps.map fun kv => if kv.1 = k then (kv.1, d) else kv)
  | _, _, .nil => .nil
  | _, _, .cons (k := k') q t => by
    rw [List.map_cons, List.map_cons]
    by_cases e : k' = k
    · rw [if_pos e, if_pos e]; exact .cons h (Dks.map h t)
    · rw [if_neg e, if_neg e]; exact .cons q (Dks.map h t)
theorem Dks.app : ∀ {kvs ls : List (Key × V)} {ps qs : List (Key × PyData)}, Dks K H kvs ps → Dks K H ls qs → Dks K H (kvs ++ ls) (ps ++ qs)
  | _, _, _, _, .nil, s => s
  | _, _, _, _, .cons h t, s => .cons h (Dks.app t s)
theorem Dks.put {k : Key} {v : V} {d : PyData} {kvs : List (Key × V)} {ps : List (Key × PyData)} (h : Dv K H v d) (t : Dks K H kvs ps) : Dks K H (putK kvs k v) (putP ps k d) := by
  unfold putK putP
  rw [t.any (k := k)]
  split
  · exact t.map h
  · exact t.app (.cons h .nil)
theorem Dks.get {k : Key} {d : PyData} : ∀ {kvs : List (Key × V)} {ps : List (Key × PyData)}, Dks K H kvs ps → getP ps k = some d → ∃ v, valV kvs k = some v ∧ Dv K H v d
  | _, _, .nil, e => by cases e
  | _, _, .cons (k := k') (v := v') q t, e => by
    unfold getP at e
    rw [List.find?_cons] at e
    by_cases z : k' = k
    · rw [decide_eq_true z] at e
      cases e
      exact ⟨v', valV_pos z, q⟩
    · rw [decide_eq_false z] at e
      obtain ⟨v, h1, h2⟩ := Dks.get t e
      exact ⟨v, (valV_neg z).trans h1, h2⟩
theorem Dks.none {k : Key} : ∀ {kvs : List (Key × V)} {ps : List (Key × PyData)}, Dks K H kvs ps → getP ps k = .none → valV kvs k = .none
  | _, _, .nil, _ => rfl
  | _, _, .cons (k := k') (v := v') q t, e => by
    unfold getP at e
    rw [List.find?_cons] at e
    by_cases z : k' = k
    · rw [decide_eq_true z] at e; cases e
    · rw [decide_eq_false z] at e
      exact (valV_neg z).trans (Dks.none t e)
end
/-- d[k] = e, d held by this def -/
def dPut (i : Nat) (fi f : DE) : DS := fun env => dDo (f env) (fun d => match env[i]? with
  | some (.own (.dic ps)) => dDo (fi env) (fun k => match keyOf k with
    | some k => if ps.length < LIM then .nx (env.set i (.own (.dic (putP ps k d)))) else .stuck
    | none => .stuck) env
  | _ => .stuck) env
theorem s_dput {i : Nat} (h : PS X st (sDPut (tVar i) (rdE X c fa) (rdE X c f))) : SS X c st (dPut i fa f) := PS.imp h fun D σ H ⟨O, env, rel, q⟩ =>
  ⟨O, env, rel, (Out.do rel q).imp fun d q1 v H1 s1 hv => by
    split at q1
    · rename_i ps eds
      obtain ⟨p, u, h1, h2, h3, h4, h5⟩ := own_at rel eds
      obtain ⟨kvs, rfl, h6⟩ := own_dic h5
      refine ⟨_, h1, O, env, rel.ext s1, (Out.do (rel.ext s1) (Out.mono (Keep.of s1) q1)).imp fun k q2 y H2 s2 hk => ?_⟩
      split at q2
      · rename_i k' hk'
        split at q2
        · rename_i hlim
          have s12 := s1.trans s2
          have h4' := s12 _ _ h4
          have hy : y = kV k' := keyOf_dv hk hk'
          subst hy
          refine ⟨p, _, rfl, .k h4' (by rw [h6.length]; exact lim_lt hlim), q2 O σ _ ((Keep.of s2).trans (Keep.change h2)) ?_⟩
          exact (rel.ext s12).change eds h1 h2 h3 (show OwR X.K _ (.dK _) (.dic _) from Dks.put (hv.same (hide_same s2)) (h6.same (hide_same s12)))
        · exact q2.elim
      · exact q2.elim
    · exact q1.elim⟩
/-- d[k] -/
def unkeyD : PyData → Option (Key × PyData → Key × PyData)
  | _ => none
def getD : List (PyData × PyData) → Key → Option PyData
  | [], _ => none
  | (a, d) :: qs, k => match keyOf a with
    | some k' => if k' = k then some d else getD qs k
    | none => none
theorem keyOf_keyD (k : Key) : keyOf (keyD k) = some k := by cases k <;> rfl
theorem getD_pairs (k : Key) : ∀ ps : List (Key × PyData), getD (ps.map keyPair) k = getP ps k
  | [] => rfl
  | (a, d) :: ps => by
    show (match keyOf (keyD a) with | some k' => if k' = k then some d else getD (ps.map keyPair) k | none => none) = _
    rw [keyOf_keyD]
    dsimp only
    unfold getP
    rw [List.find?_cons]
    by_cases z : a = k
    · rw [if_pos z, decide_eq_true z]; rfl
    · rw [if_neg z, decide_eq_false z]; exact getD_pairs k ps
def gDGet : PyData → PyData → Option PyData
  | .dict qs, k => (keyOf k).bind (getD qs)
  | _, _ => none
theorem e_dget (h : PE X e (tDGet (rdB X c fa) (rdB X c fb))) : EE X c e (dBin gDGet fa fb) := PE.imp h fun σ H Q ⟨O, env, rel, q⟩ =>
  ⟨O, env, rel, q.bind.imp fun d q1 v H1 s1 hv => ⟨O, env, rel.ext s1, (Res.bind q1).ext s1 fun k q2 w H2 s2 hw => by
    obtain ⟨z, hz, q3⟩ := Res.lift q2
    cases d <;> first | (cases hz; done) | skip
    obtain ⟨k', hk, hg⟩ := Option.bind_eq_some_iff.mp (show (keyOf k).bind (getD _) = some z from hz)
    obtain ⟨p, kvs, ps, rfl, h1, rfl, h2⟩ := (hv.ext s2).dic
    rw [getD_pairs] at hg
    obtain ⟨v', h3, h4⟩ := h2.get hg
    have hy : w = kV k' := keyOf_dv hw.dv hk
    subst hy
    exact ⟨p, v', rfl, .inl ⟨kvs, k', h1, rfl, h3.symm⟩, q3 v' H2 (s1.trans s2) h4⟩⟩⟩
/-- d.get(k) -/
def gDGet1 : PyData → PyData → Option PyData
  | .dict qs, k => (keyOf k).map fun k => (getD qs k).getD .none
  | _, _ => none
def gDGet2 : PyData → PyData → PyData → Option PyData
  | .dict qs, k, x => (keyOf k).map fun k => (getD qs k).getD x
  | _, _, _ => none
/-- k in d -/
def gDIn (neg : Bool) : PyData → PyData → Option PyData
  | k, .dict qs => (keyOf k).map fun k => .bool (if neg then !(getD qs k).isSome else (getD qs k).isSome)
  | _, _ => none
theorem dks_look {K : PySem.W.Frag} {kvs : List (Key × V)} {ps : List (Key × PyData)} (h : Dks K H kvs ps) (k : Key) : (∃ d v, getP ps k = some d ∧ valV kvs k = some v ∧ Dv K H v d) ∨ (getP ps k = none ∧ valV kvs k = none) := by
  cases r : getP ps k with
  | some d =>
    obtain ⟨v, h1, h2⟩ := h.get r
    exact .inl ⟨d, v, rfl, h1, h2⟩
  | none => exact .inr ⟨rfl, h.none r⟩
theorem opd_din : OpD X (fun y x H Q => ∃ a o, x = .ref a ∧ DGet H a y o ∧ Q (.bl o.isSome) H) (gDIn false) := fun c O H x y d e z Q m hx hy hg k => by
  cases e <;> first | (cases hg; done) | skip
  obtain ⟨k', hk, rfl⟩ := Option.map_eq_some_iff.mp (show (keyOf d).map _ = some z from hg)
  obtain ⟨p, kvs, ps, rfl, h1, rfl, h2⟩ := hy.dic
  have hy : x = kV k' := keyOf_dv hx.dv hk
  subst hy
  refine ⟨p, _, rfl, .inl ⟨kvs, k', h1, rfl, rfl⟩, ?_⟩
  have e : (valV kvs k').isSome = (getD (ps.map keyPair) k').isSome := by
    rw [getD_pairs]
    rcases dks_look h2 k' with ⟨d', v', e1, e2, _⟩ | ⟨e1, e2⟩
    · rw [e1, e2]; rfl
    · rw [e1, e2]; rfl
  rw [e]
  exact k _ H (Same.refl H) (.bl _)

/-! ### what may be put into a slot: a datum or a new thing -/
abbrev DX := Ev → R Sl
structure XR (X : Cx) (c : Dc) (O : List Addr) (H : Hp) (O' : List Addr) (H' : Hp) (s : Sl) (v : V) : Prop where
  keep : Keep O H O' H'
  stay : ∀ env σ, Rel X.K c O H env σ → Rel X.K c O' H' env σ
  put : ∀ env σ i, Rel X.K c O H env σ → Rel X.K c O' H' (env.set i s) (σ.set i (some v))
def rdX (X : Cx) (c : Dc) (f : DX) : TE := fun σ H Q => ∃ O env, Rel X.K c O H env σ ∧ Res X c O σ H (f env) fun s => ∀ v O' H', XR X c O H O' H' s v → Q v H'
abbrev EX (X : Cx) (c : Dc) (e : Expr) (f : DX) : Prop := PE X e (rdX X c f)
def xE (f : DE) : DX := fun env => do
  let d ← f env
  .ok (.dat d)
def xF (f : DA) : DX := fun env => do
  let ds ← f env
  .ok (.own (.lst ds))
theorem x_e (h : EE X c e f) : EX X c e (xE f) := PE.imp h fun σ H Q ⟨O, env, rel, q⟩ => ⟨O, env, rel, q.bind.imp fun d q1 v H' s hv =>
  (show ∀ v O' H', XR X c O H O' H' (.dat d) v → Q v H' from q1) v O H' ⟨Keep.of s, fun env σ r => r.ext s, fun env σ i r => (r.ext s).put' hv⟩⟩
theorem x_f {f : DA} (h : EF X c e f) : EX X c e (xF f) := PE.imp h fun σ H Q ⟨O, env, rel, q⟩ => ⟨O, env, rel, q.bind.imp fun ds q1 p vs H' s n hu hw =>
  (show ∀ v O' H', XR X c O H O' H' (.own (.lst ds)) v → Q v H' from q1) (.ref p) (p :: O) H' ⟨Keep.grow n s, fun env σ r => r.grow n s (by rw [hu]; trivial), fun env σ i r => r.putNew s n hu (show OwR X.K _ (.lst _) (.lst _) from hw)⟩⟩
/-- {} -/
def xD : DX := fun _ => .ok (.own (.dic []))
theorem x_dnew (h : PE X e (fun _ H Q => ∀ d, H d = none → Q (.ref d) (upd H d (.dK [])))) : EX X c e xD := PE.imp h fun σ H Q ⟨O, env, rel, q⟩ d n =>
  (show ∀ v O' H', XR X c O H O' H' (.own (.dic [])) v → Q v H' from q) (.ref d) (d :: O) _ ⟨Keep.grow n (same_upd n), fun env σ r => r.grow n (same_upd n) (by rw [upd_same]; trivial), fun env σ i r => r.putNew (same_upd n) n upd_same (show OwR X.K _ (.dK []) (.dic []) from .nil)⟩
def dSetX (i : Nat) (f : DX) : DS := fun env => dDo (f env) (fun s => .nx (env.set i s)) env
theorem s_setX {i : Nat} {f : DX} (h : PS X st (tAsg (rdX X c f) (L2.gName i))) : SS X c st (dSetX i f) := PS.imp h fun D σ H ⟨O, env, rel, q⟩ =>
  ⟨O, env, rel, (Out.do rel q).imp fun s q1 v O' H' x => q1 O' _ H' x.keep (x.put _ _ i rel)⟩
/-- a, b = e, e' by the swap -/
def dPar2 (i j : Nat) (f g : DX) : DS := fun env => dDo (f env) (fun s => dDo (g env) (fun t => .nx ((env.set i s).set j t)) env) env
theorem s_par2 {i j : Nat} {f g : DX} (h : PS X st (tPar i j (tCons (rdX X c f) (tCons (rdX X c g) tNil)))) : SS X c st (dPar2 i j f g) := PS.imp h fun D σ H ⟨O, env, rel, q⟩ =>
  ⟨O, env, rel, (Out.do rel q).imp fun s q1 v O' H' x => ⟨O', env, x.stay _ _ rel, (Out.do (x.stay _ _ rel) (Out.mono x.keep q1)).imp fun t q2 w O2 H2 y =>
    ⟨v, w, rfl, q2 O2 _ H2 y.keep (y.put _ _ j (x.put _ _ i rel))⟩⟩⟩
def dPar3 (i j k : Nat) (f g h : DX) : DS := fun env => dDo (f env) (fun s => dDo (g env) (fun t => dDo (h env) (fun u => .nx (((env.set i s).set j t).set k u)) env) env) env
theorem s_par3 {i j k : Nat} {f g h' : DX} (h : PS X st (tPar3 i j k (tCons (rdX X c f) (tCons (rdX X c g) (tCons (rdX X c h') tNil))))) : SS X c st (dPar3 i j k f g h') := PS.imp h fun D σ H ⟨O, env, rel, q⟩ =>
  ⟨O, env, rel, (Out.do rel q).imp fun s q1 v O' H' x => ⟨O', env, x.stay _ _ rel, (Out.do (x.stay _ _ rel) (Out.mono x.keep q1)).imp fun t q2 w O2 H2 y =>
    ⟨O2, env, y.stay _ _ (x.stay _ _ rel), (Out.do (y.stay _ _ (x.stay _ _ rel)) (Out.mono y.keep q2)).imp fun u q3 z O3 H3 y3 =>
      ⟨v, w, z, rfl, q3 O3 _ H3 y3.keep (y3.put _ _ k (y.put _ _ j (x.put _ _ i rel)))⟩⟩⟩⟩

/-! ### comprehensions -/
def Dc.noW (c : Dc) : Dc := { c with W := fun _ _ _ _ => False }
theorem Rel.noW {K : PySem.W.Frag} (r : Rel K c O H env σ) : Rel K c.noW O H env σ := ⟨r.same, r.sub, r.dom0, r.dom, r.new, r.len, r.slots, r.inj, r.exs⟩
def noX {α : Type} : R α → R α
  | .ok a => .ok a
  | .error _ => .error .stuck
theorem Res.noX {α : Type} {r : R α} {k : α → Prop} (h : Res X c O σ H (DL.noX r) k) (c' : Dc) : Res X c' O1 σ H r k := by
  cases r with
  | ok a => exact h
  | error e => exact h.elim
def wipeD (env : Ev) : List Nat → Ev
  | [] => env
  | v :: vs => (wipeD env vs).set v .un
theorem Rel.wipe {K : PySem.W.Frag} (r : Rel K c O H env σ) : ∀ vs : List Nat, Rel K c O H (wipeD env vs) (wipe σ vs)
  | [] => r
  | v :: vs => (Rel.wipe r vs).wipe1 none
theorem wipe_in {σ : DL.St} {i : Nat} : ∀ {vs : List Nat}, i ∈ vs → i < σ.length → (L2.wipe σ vs)[i]? = some none
  | v :: vs, h, hl => by
    unfold L2.wipe
    by_cases e : v = i
    · subst e
      rw [List.getElem?_set_self (by rw [wipe_length]; exact hl)]
    · rw [List.getElem?_set_ne e]
      rcases List.mem_cons.mp h with z | z
      · exact absurd z.symm e
      · exact wipe_in z hl
theorem wipe_off {σ σ' : DL.St} {is vs : List Nat} (h : Off is (L2.wipe σ vs) σ') (s : ∀ i ∈ is, i ∈ vs) : L2.wipe σ' vs = L2.wipe σ vs := by
  refine List.ext_getElem? fun i => ?_
  have hl : σ'.length = σ.length := h.1.trans (wipe_length σ vs)
  by_cases hi : i ∈ vs
  · by_cases hlt : i < σ.length
    · rw [wipe_in hi (by rw [hl]; exact hlt), wipe_in hi hlt]
    · rw [List.getElem?_eq_none (by rw [wipe_length, hl]; omega), List.getElem?_eq_none (by rw [wipe_length]; omega)]
  · rw [wipe_out hi, h.2 i fun z => hi (s i z)]
def compD (g : DG) (t : DT) (f : DE) (env : Ev) : List PyData → R (List PyData)
  | [] => .ok []
  | d :: ds => match g d env with
    | none => .error .stuck
    | some e => do
      let k ← noX (t e)
      if k = true then do
        let x ← noX (f e)
        let xs ← compD g t f env ds
        .ok (x :: xs)
      else compD g t f env ds
def dComp (vs : List Nat) (fi : DA) (g : DG) (t : DT) (f : DE) : DA := fun env => do
  let ds ← fi env
  if ds.length < LIM then compD g t f (wipeD env vs) ds else .error .stuck
def tYesD : DT := fun _ => .ok true
theorem rd_comp {vs is : List Nat} {fi : DA} {g : DG} {t : DT} {f : DE} (hv : ∀ i ∈ is, i ∈ vs) : ∀ σ H Q, rdF X c (dComp vs fi g t f) σ H Q → tLc (rdI X c fi) (rdG X c.noW is g) (rdT X c.noW t) (rdE X c.noW f) vs σ H Q := fun σ H Q ⟨O, env, rel, q⟩ => by
  refine ⟨O, env, rel, q.bind.imp fun ds q1 J H0 s0 gv A nA => ?_⟩
  split at q1
  · rename_i hlim
    have rel0 := (rel.ext s0).wipe vs
    have sA : Same H0 (upd H0 A (.lst [])) := same_upd nA
    have relA := (rel0.grow (p := A) nA sA (by rw [upd_same]; trivial)).noW
    have kA : Keep O H0 (A :: O) (upd H0 A (.lst [])) := Keep.grow nA sA
    refine ⟨fun i m H1 => m = ds.length - i ∧ i ≤ ds.length ∧ Rel X.K c.noW (A :: O) H1 (wipeD env vs) (L2.wipe σ vs) ∧ Keep O H0 (A :: O) H1 ∧ Same H0 H1 ∧ ∃ (acc : List V) (as : List PyData), H1 A = some (.lst acc) ∧ Dvs X.K (hide (A :: O) H1) acc as ∧ acc.length ≤ i ∧
      Res X c O σ H (compD g t f (wipeD env vs) (ds.drop i)) (fun rs => ∀ p ws H', Same H H' → H p = none → H' p = some (.lst ws) → Dvs X.K (hide (p :: O) H') ws (as ++ rs) → Q (.ref p) H'),
      ⟨ds.length, by simp, Nat.zero_le _, relA, kA, sA, [], [], upd_same, .nil, Nat.zero_le _, by simpa using q1⟩, ?_⟩
    rintro i m H1 ⟨rfl, hi, rel1, k1, s1, acc, as, hacc, dacc, lacc, q2⟩
    obtain ⟨stp, go⟩ := gv (A :: O) H1 k1 rel1.dom
    by_cases hlt : i < ds.length
    · right
      have ed := List.drop_eq_getElem_cons hlt
      rw [ed] at q2
      obtain ⟨g1, g2⟩ := go i ds[i] (List.getElem?_eq_getElem hlt)
      refine ⟨g1, ?_⟩
      unfold compD at q2
      split at q2
      · exact q2.elim
      · rename_i e1 he1
        refine ⟨fun H' => Rel X.K c.noW (A :: O) H' (wipeD env vs) (L2.wipe σ vs) ∧ Keep O H0 (A :: O) H' ∧ Same H0 H' ∧ ∃ (acc : List V) (as : List PyData), H' A = some (.lst acc) ∧ Dvs X.K (hide (A :: O) H') acc as ∧ acc.length ≤ i + 1 ∧
          Res X c O σ H (compD g t f (wipeD env vs) (ds.drop (i + 1))) (fun rs => ∀ p ws H', Same H H' → H p = none → H' p = some (.lst ws) → Dvs X.K (hide (p :: O) H') ws (as ++ rs) → Q (.ref p) H'),
          fun H' z => ⟨ds.length - (i + 1), by omega, rfl, hlt, z⟩, fun x H' hy => ?_⟩
        obtain ⟨s', hv'⟩ := g2 x H' hy
        refine ⟨A :: O, wipeD env vs, _, rel1.ext s', hv', e1, he1, fun σ2 o2 rel2 => ⟨wipe_off o2 hv, A :: O, e1, rel2, ?_⟩⟩
        refine Res.noX (c := c) (O := O) (O1 := A :: O) (σ := σ2) (H := H') ?_ c.noW
        have q3 := Res.bind q2
        cases rk : t e1 with
        | error er => rw [rk] at q3; cases er <;> exact q3.elim
        | ok k =>
          rw [rk] at q3
          intro H2 s2
          cases k with
          | false =>
            refine L2.iteF ⟨rel1.ext (s'.trans s2), k1.trans (Keep.of (s'.trans s2)), s1.trans (s'.trans s2), acc, as, s2 _ _ (s' _ _ hacc), dacc.same (hide_same (s'.trans s2)), Nat.le_succ_of_le lacc, q3⟩
          | true =>
            refine L2.iteT ⟨A :: O, e1, rel2.ext s2, ?_⟩
            have q4 : Res X c O σ H (DL.noX (f e1) >>= fun x => compD g t f (wipeD env vs) (ds.drop (i + 1)) >>= fun xs => .ok (x :: xs)) _ := q3
            have q5 := Res.bind q4
            cases rf : f e1 with
            | error er => rw [rf] at q5; cases er <;> exact q5.elim
            | ok d =>
              rw [rf] at q5
              have q6 := Res.bind q5
              intro y H3 s3 hy3
              have s23 := (s'.trans s2).trans s3
              have hacc3 := s23 _ _ hacc
              have rel3 := rel1.ext s23
              refine ⟨acc, hacc3, lim_lt (by omega), ?_⟩
              have hin : A ∈ A :: O := List.mem_cons_self
              have hh : hide (A :: O) (upd H3 A (.lst (acc ++ [y]))) = hide (A :: O) H3 := hide_upd hin
              have kp : Keep (A :: O) H3 (A :: O) (upd H3 A (.lst (acc ++ [y]))) := Keep.change hin
              have sm : Same H0 (upd H3 A (.lst (acc ++ [y]))) := fun b o hb => by
                rw [upd_ne (ne_of_none hb nA)]; exact s23 _ _ (s1 b o hb)
              refine ⟨⟨(rel.same.trans s0).trans sm, rel3.sub, rel3.dom0, fun b hb => ?_, rel3.new, rel3.len, fun j sl ej => ?_, rel3.inj, fun tt ht => (rel3.exs tt ht).keep kp⟩, (k1.trans (Keep.of s23)).trans kp, sm, acc ++ [y], as ++ [d], upd_same, by rw [hh]; exact (dacc.same (hide_same s23)).app (.one hy3), by rw [List.length_append]; exact Nat.succ_le_succ lacc, ?_⟩
              · by_cases hbA : b = A
                · subst hbA; rw [upd_same]; trivial
                · rw [upd_ne hbA]; exact rel3.dom b hb
              · have z := rel3.slots j sl ej
                cases sl with
                | un => trivial
                | exv _ _ =>
                  obtain ⟨a, cls, d, C, h1, h2, h3, h4, h5⟩ := z
                  exact ⟨a, cls, d, C, h1, h2, h3, h4, h5.keep kp⟩
                | obj n fs =>
                  obtain ⟨C, p', dx, vs, a1, a2, a0, a3, a4⟩ := z
                  have hne : p' ≠ A := fun zz => a0 (by rw [zz]; exact hin)
                  exact ⟨C, p', dx, vs, a1, a2, a0, by rw [upd_ne hne]; exact a3, by rw [hh]; exact a4⟩
                | dat d' =>
                  obtain ⟨v', a1, a2⟩ := z
                  exact ⟨v', a1, by rw [hh]; exact a2⟩
                | own w' =>
                  obtain ⟨p', u', a1, a2, a3, a4, a5⟩ := z
                  have hne : p' ≠ A := by
                    rintro rfl
                    obtain ⟨p2, u2, b1, b2, b3, b4, b5⟩ := rel0.slots j _ ej
                    rw [a1] at b1; cases b1
                    rw [nA] at b4; cases b4
                  exact ⟨p', u', a1, a2, a3, by rw [upd_ne hne]; exact a4, by rw [hh]; exact a5⟩
              · refine q6.imp fun rs q7 p ws H' sH n hp hd => ?_
                have q8 : ∀ p ws H', Same H H' → H p = none → H' p = some (.lst ws) → Dvs X.K (hide (p :: O) H') ws (as ++ (d :: rs)) → Q (.ref p) H' := q7
                exact q8 p ws H' sH n hp (by rw [List.append_assoc] at hd; exact hd)
    · left
      have e : i = ds.length := by omega
      subst e
      refine ⟨stp, ?_⟩
      rw [List.drop_length] at q2
      have q3 : ∀ p ws H', Same H H' → H p = none → H' p = some (.lst ws) → Dvs X.K (hide (p :: O) H') ws (as ++ []) → Q (.ref p) H' := q2
      exact q3 A acc H1 (s0.trans s1) (s0.free nA) hacc (by rw [List.append_nil]; exact dacc)
  · exact q1.elim
theorem f_comp {vs is : List Nat} {fi : DA} {g : DG} {t : DT} (hv : ∀ i ∈ is, i ∈ vs) (h : PE X e (tLc (rdI X c fi) (rdG X c.noW is g) (rdT X c.noW t) (rdE X c.noW f) vs)) : EF X c e (dComp vs fi g t f) := PE.imp h (rd_comp hv)
theorem rd_setF {i : Nat} {f : DA} {te : TE} (h : PS X st (tAsg te (L2.gName i))) (hi : ∀ σ H Q, rdF X c f σ H Q → te σ H Q) : SS X c st (dSetF i f) := PS.imp h fun D σ H ⟨O, env, rel, q⟩ =>
  hi _ _ _ ⟨O, env, rel, (Out.do rel q).imp fun ds q1 p vs H' s n hu hw => q1 (p :: O) _ H' (Keep.grow n s) (rel.putNew s n hu (show OwR X.K _ (.lst _) (.lst _) from hw))⟩
theorem rd_setE {i : Nat} {te : TE} (h : PS X st (tAsg te (L2.gName i))) (hi : ∀ σ H Q, rdE X c f σ H Q → te σ H Q) : SS X c st (dSet i f) := PS.imp h fun D σ H ⟨O, env, rel, q⟩ =>
  hi _ _ _ ⟨O, env, rel, (Out.do rel q).imp fun d q1 v H' s b => q1 O _ H' (Keep.of s) ((rel.ext s).put' b)⟩
/-- x = [..]: a list that is held -/
theorem s_setC {i : Nat} {vs is : List Nat} {fi : DA} {g : DG} {t : DT} {f : DE} (hv : ∀ i ∈ is, i ∈ vs) (h : PS X st (tAsg (tLc (rdI X c fi) (rdG X c.noW is g) (rdT X c.noW t) (rdE X c.noW f) vs) (L2.gName i))) : SS X c st (dSetF i (dComp vs fi g t f)) := rd_setF h (rd_comp hv)
/-- a new list, as a datum -/
def dOfF (f : DA) : DE := fun env => do
  let ds ← f env
  .ok (.list ds)
theorem e_ofF {f : DA} (h : EF X c e f) : EE X c e (dOfF f) := PE.imp h fun σ H Q ⟨O, env, rel, q⟩ => ⟨O, env, rel, q.bind.imp fun ds q1 p vs H' s n hu hw =>
  (show ∀ v H', Same H H' → Dv X.K (hide O H') v (.list ds) → Q v H' from q1) (.ref p) H' s (.lst (.inl (.inl (by rw [hide_out (rel.fresh n)]; exact hu))) (hw.same (hide_sub fun a ha => List.mem_cons_of_mem _ ha)))⟩
theorem rd_ofF {f : DA} : ∀ σ H Q, rdE X c (dOfF f) σ H Q → rdF X c f σ H Q := fun σ H Q ⟨O, env, rel, q⟩ => ⟨O, env, rel, q.bind.imp fun ds q1 p vs H' s n hu hw =>
  (show ∀ v H', Same H H' → Dv X.K (hide O H') v (.list ds) → Q v H' from q1) (.ref p) H' s (.lst (.inl (.inl (by rw [hide_out (rel.fresh n)]; exact hu))) (hw.same (hide_sub fun a ha => List.mem_cons_of_mem _ ha)))⟩
/-- x = [..]: a list that nobody changes -/
theorem s_setCE {i : Nat} {vs is : List Nat} {fi : DA} {g : DG} {t : DT} {f : DE} (hv : ∀ i ∈ is, i ∈ vs) (h : PS X st (tAsg (tLc (rdI X c fi) (rdG X c.noW is g) (rdT X c.noW t) (rdE X c.noW f) vs) (L2.gName i))) : SS X c st (dSet i (dOfF (dComp vs fi g t f))) := rd_setE h fun σ H Q q => rd_comp hv σ H Q (rd_ofF σ H Q q)
end
end DL

set_option Elab.async false
set_option linter.all false
set_option maxRecDepth 100000
set_option maxHeartbeats 2000000
namespace DL
open PySem PySem.Spec L2 PyProof.Rows
set_option autoImplicit false

/-! ### a def keeps its promise -/
def startD (k : Nat) (ds : List PyData) : Ev := ds.map Sl.dat ++ List.replicate (k - ds.length) Sl.un
def outR : Fl → R PyData
  | .nx _ => .ok .none
  | .rt d => .ok d
  | .ex _ n fs => .error (.exc n fs)
  | _ => .error .stuck
def runD (k : Nat) (g : DS) (ds : List PyData) : R PyData := outR (g (startD k ds))
def cD (mg : Str → Option Value) (H : Hp) (O : List Addr) (E : XK) : Dc := { H_0 := H, O_0 := O, W := fun cls d _ H' => E cls d H', mg := mg }
theorem rel_start {K : PySem.W.Frag} {mg : Str → Option Value} {H : Hp} {O : List Addr} {E : XK} {N : List Str} {vs : List V} {ds : List PyData} (m : ∀ a ∈ O, Mut (H a)) (h : Dvs K (hide O H) vs ds) : Rel K (cD mg H O E) O H (startD N.length ds) (L2.start N vs) := by
  have hl := h.length
  refine ⟨Same.refl H, fun a ha => ha, m, m, fun a ha => .inl ha, ?_, fun i s e => ?_, fun i j ds' es p ei => ?_, fun t ht => by cases ht⟩
  · unfold startD L2.start
    simp only [List.length_append, List.length_map, List.length_replicate, hl]
  · unfold startD at e
    unfold L2.start
    by_cases hi : i < ds.length
    · rw [List.getElem?_append_left (by rw [List.length_map]; exact hi), List.getElem?_map] at e
      rw [List.getElem?_append_left (by rw [List.length_map, hl]; exact hi), List.getElem?_map]
      obtain ⟨d, hd, rfl⟩ := Option.map_eq_some_iff.mp e
      obtain ⟨v, hv, dv⟩ := h.get hd
      exact ⟨v, by rw [hv]; rfl, dv⟩
    · rw [List.getElem?_append_right (by rw [List.length_map]; omega)] at e
      have := List.mem_of_getElem? e
      rw [List.mem_replicate] at this
      obtain ⟨_, rfl⟩ := this
      trivial
  · exfalso
    unfold startD at ei
    by_cases hi : i < ds.length
    · rw [List.getElem?_append_left (by rw [List.length_map]; exact hi), List.getElem?_map] at ei
      obtain ⟨d, _, z⟩ := Option.map_eq_some_iff.mp ei
      cases z
    · rw [List.getElem?_append_right (by rw [List.length_map]; omega)] at ei
      have := List.mem_of_getElem? ei
      rw [List.mem_replicate] at this
      cases this.2
section
variable {P : Program} {w : World} {K : PySem.W.Frag} {mg : Str → Option Value} {base : Heap}
abbrev cxD (P : Program) (w : World) (K : PySem.W.Frag) (mg : Str → Option Value) (base : Heap) (N : List Str) (qual : Str) (sc : Scope) (f : Addr) (cdv : Value) (A : Around) (outer : List Env) (s : Shared) (H : Hp) (E : XK) : Cx := cxOf (L2.CX P w) P w K mg base N qual sc f cdv A outer s H E
/-- from what the body computes -/
theorem body_ok {X : Cx} {H : Hp} {O : List Addr} {E : XK} {N : List Str} {vs : List V} {ds : List PyData} {n : Nat} {m : List PyData → R PyData} {g : DS} {Q : VK} (hX : X.K = K) (hmg : X.mg = mg) (m1 : ∀ a ∈ O, Mut (H a)) (h : Dvs K (hide O H) vs ds)
    (hm : ∀ ds, ds.length = n → m ds ≠ .error .stuck → runD N.length g ds = m ds)
    (q : match callN n m ds with
      | .ok d => ∀ v H', Same H H' → Dv K (hide O H') v d → Q v H'
      | .error (.exc nm fs) => ∀ (cls : Value) (dd : Option Addr) (H' : Hp), Same H H' → ExcR mg K O H' nm fs cls dd → E cls dd H'
      | .error .stuck => False) : rdS X (cD mg H O E) g { nx := fun _ H' => Q .non H', rt := Q } (L2.start N vs) H := by
  subst hX hmg
  refine ⟨O, startD N.length ds, rel_start m1 h, ?_⟩
  have hne : callN n m ds ≠ .error .stuck := fun z => by rw [z] at q; exact q
  have hl := callN_len hne
  have e1 : callN n m ds = m ds := by
    unfold callN
    rw [show Nat.beq ds.length n = true from by rw [hl]; exact Nat.beq_refl n]
  rw [e1] at q hne
  have hr := hm ds hl hne
  unfold runD at hr
  rw [← hr] at q
  cases r : g (startD N.length ds) with
  | nx e =>
    rw [r] at q
    exact fun O' σ' H' k rel => (show ∀ v H', Same H H' → Dv X.K (hide O H') v .none → Q v H' from q) .non H' rel.same .non
  | rt d =>
    rw [r] at q
    exact fun v H' s hv => (show ∀ v H', Same H H' → Dv X.K (hide O H') v d → Q v H' from q) v H' s hv
  | bk e => rw [r] at q; exact q.elim
  | ct e => rw [r] at q; exact q.elim
  | stuck => rw [r] at q; exact q.elim
  | ex ee nm fs =>
    rw [r] at q
    clear r
    intro O' σ' H' cls dd k rel hx
    have q' : ∀ (cls : Value) (dd : Option Addr) (H' : Hp), Same H H' → ExcR X.mg X.K O H' nm fs cls dd → E cls dd H' := q
    refine q' cls dd H' rel.same ?_
    obtain ⟨C, a1, a2, a3⟩ := hx
    refine ⟨C, a1, a2, ?_⟩
    cases fs with
    | nil => trivial
    | cons p r =>
      cases r with
      | cons _ _ => exact a3
      | nil =>
        obtain ⟨p', v, b1, b2, b3⟩ := a3
        exact ⟨p', v, b1, b2, b3.same (hide_sub rel.sub)⟩
theorem def_ok {x qual : Str} {st : Stmt} {f : Addr} {fd : FuncData} {N ps : List Str} {k n : Nat} {m : List PyData → R PyData} {g : DS} (F : Fun K x qual st f fd) (S : FnScope N ps (defScope st)) (hps : ps.length = n)
    (hm : ∀ ds, ds.length = n → m ds ≠ .error .stuck → runD N.length g ds = m ds)
    (body : ∀ (cdv : Value) (A : Around) (outer : List Env) (s : Shared) (H : Hp) (O : List Addr) (E : XK), Room k (A.deeper (envOfC qual (defScope st) s.heap.objs.size f cdv)) →
      Takes (cxD P w K mg base N qual (defScope st) f cdv A outer s H E) (cD mg H O E).W → PassesOwn (model P w) (A.deeper (envOfC qual (defScope st) s.heap.objs.size f cdv)) (cxD P w K mg base N qual (defScope st) f cdv A outer s H E).env (cxD P w K mg base N qual (defScope st) f cdv A outer s H E).xe →
      SSs (cxD P w K mg base N qual (defScope st) f cdv A outer s H E) (cD mg H O E) (defBody st) g) : FnOk P w K mg base (L2.CX P w) (k + 1) f fd ps (spM K mg n m) := by
  refine F.okX S (fun vs H Q E h => by rw [hps]; exact h.len) (fun cdv A outer s H vs Q E hr h => ?_)
  obtain ⟨O, ds, m1, dvs, q⟩ := h
  exact ⟨_, body cdv A outer s H O E hr (takes_of rfl rfl rfl rfl) (passes_of rfl), body_ok rfl rfl m1 dvs hm q⟩
end
section
variable {X : Cx} {c : Dc} {D : Ends} {O O1 : List Addr} {σ : DL.St} {H H1 : Hp} {a b e : Expr} {es : List Expr} {pos : Pos} {fa fb fc f : DE} {ta tb : DT} {env : Ev} {st : Stmt}

/-! ### raise -/
/-- X(), an own class without an __init__ of its own -/
theorem pmk_own0 {C : Addr} {bmB : List Value} {B newId initId : String} {x : Str} {p : Pos} (F : ExcBaseFacts B newId initId bmB) (q : PySem.W.excIn X.K C bmB newId = true) (gC : X.mg x = some (.ref C)) (kC : PySem.W.keepIn X.K (.ref C) = true) (r : Raises X (.ref C)) (hg : Gl X x := by rfl)
    (hdb : (x == ("__debug__" : Str)) = false := by decide) : PMk X (.Call (.Name x p) [] [] pos) (fun _ H Q => Q (.ref C) none H) := by
  intro pins s σ H Q I h
  refine wpAny_Call_Name_kw (ld_glob I hg gC ?_ hdb)
  have ha : PA X [] tNil := pa_nil
  refine PySem.W.callWith_K0 I.kIn kC ?_
  show wpAny _ _ (call (.ref C) []) _ _ _
  obtain ⟨bm, N, nm, qn, bs, hdct, sn, sub, ab, col, dd, k0, k1, k2, k3, k5, mN, hC, hN, hni, T⟩ := exc_obj I.kIn q
  refine wpAny_call_exc_subT F T hC hN hni (fun h' e hm => ?_) (by show 0 ≤ sizeLine; exact Nat.zero_le _)
  exact mk_of I hm r h (I.hok.gone hm.new)
def dRaise (n : Str) : DS := fun env => .ex env n []
theorem s_raise0 {n : Str} {C : Addr} (gC : X.mg n = some (.ref C)) (h : PS X st (fun _ σ H => c.W (.ref C) none σ H)) : SS X c st (dRaise n) := PS.imp h fun D σ H ⟨O, env, rel, q⟩ =>
  q O σ H (.ref C) none (Keep.refl _ _) rel ⟨C, gC, rfl, trivial⟩
/-- raise X(e), X with one field -/
def dRaise1 (n fld : Str) (f : DE) : DS := fun env => dDo (f env) (fun d => .ex env n [(fld, d)]) env
theorem s_raise1 {n fld : Str} {C : Addr} (gC : X.mg n = some (.ref C)) (h : PS X st (fun _ σ H => tCons (rdE X c f) tNil σ H fun vs H1 => ∃ v, vs = [v] ∧ ∀ d, H1 d = none → c.W (.ref C) (some d) σ (upd H1 d (.xd [(fld, v)])))) : SS X c st (dRaise1 n fld f) := PS.imp h fun D σ H ⟨O, env, rel, q⟩ =>
  ⟨O, env, rel, (Out.do rel q).imp fun d q1 v H' s hv => ⟨v, rfl, fun p np => by
    have s2 := s.trans (same_upd (o := .xd [(fld, v)]) np)
    exact q1 O σ _ (.ref C) (some p) (Keep.of s2) (rel.ext s2) ⟨C, gC, rfl, p, v, rfl, upd_same, hv.same (hide_same (same_upd np))⟩⟩⟩

/-! ### try .. except X: suite -/
/-- one clause -/
def dTry (b : DS) (sub : Str → Option Bool) (h : List (Str × PyData) → DS) : DS := fun env => match b env with
  | .ex e n fs => match sub n with
    | some true => h fs e
    | some false => .ex e n fs
    | none => .stuck
  | r => r
/-- the held exception's field, in a suite -/
def suiteF (d : Option Addr) (fs : List (Str × PyData)) : List (Addr × Str × PyData) := match d, fs with
  | some p, [(f, x)] => [(p, f, x)]
  | _, _ => []
/-- the body's reading under the clause's wish -/
theorem rd_try {K : PySem.W.Frag} {b : DS} {sub : Str → Option Bool} {h : List (Str × PyData) → DS} {W' : WX} {D : Ends} (q : rdS X c (dTry b sub h) D σ H)
    (hW : ∀ (O : List Addr) (H : Hp) (σ : DL.St) (env : Ev) (n : Str) (fs : List (Str × PyData)) (cls : Value) (dd : Option Addr), Rel X.K c O H env σ → ExcR X.mg X.K O H n fs cls dd → Out X c D O H (match sub n with
      | some true => h fs env
      | some false => .ex env n fs
      | none => .stuck) → W' cls dd σ H) : rdS X { c with W := W' } b D σ H := by
  obtain ⟨O, env, rel, q⟩ := q
  have conv : ∀ {O H env σ}, Rel X.K { c with W := W' } O H env σ → Rel X.K c O H env σ := fun r => ⟨r.same, r.sub, r.dom0, r.dom, r.new, r.len, r.slots, r.inj, r.exs⟩
  refine ⟨O, env, ⟨rel.same, rel.sub, rel.dom0, rel.dom, rel.new, rel.len, rel.slots, rel.inj, rel.exs⟩, ?_⟩
  unfold dTry at q
  cases r : b env with
  | nx e => rw [r] at q; exact fun O' σ' H' k rel' => q O' σ' H' k (conv rel')
  | bk e => rw [r] at q; exact fun O' σ' H' k rel' => q O' σ' H' k (conv rel')
  | ct e => rw [r] at q; exact fun O' σ' H' k rel' => q O' σ' H' k (conv rel')
  | rt d => rw [r] at q; exact q
  | stuck => rw [r] at q; exact q
  | ex e n fs => rw [r] at q; exact fun O' σ' H' cls dd k rel' hx => hW O' H' σ' e n fs cls dd (conv rel') hx (Out.mono k q)
/-- try: body, except C: suite -/
theorem s_try1 {b : DS} {sub : Str → Option Bool} {hs : List (Str × PyData) → DS} {cv : Value} {tb : WX → TS} {ts : Addr → Value → Option Addr → TS}
    (h : PS X st (fun D σ H => tb (wOnly X.K cv ts c.W D) D σ H))
    (hb : ∀ W D σ H, rdS X { c with W := W } b D σ H → tb W D σ H)
    (hx : ∀ (n : Str) (k : Bool) (C : Addr), sub n = some k → X.mg n = some (.ref C) → PySem.W.exmOne X.K (.ref C) cv = some k)
    (hsu : ∀ (a : Addr) (cls : Value) (d : Option Addr) (fs : List (Str × PyData)) (D : Ends) (σ : DL.St) (H : Hp), rdS X { c with F := suiteF d fs ++ c.F } (hs fs) D σ H → ts a cls d D σ H) : SS X c st (dTry b sub hs) := PS.imp h fun D σ H q => by
  refine hb _ D σ H (rd_try (K := X.K) (W' := wOnly X.K cv ts c.W D) q fun O H σ env n fs cls dd rel hx' q1 => ?_)
  obtain ⟨C, gC, rfl, hf⟩ := id hx'
  cases sn : sub n with
  | none => rw [sn] at q1; exact q1.elim
  | some k =>
    rw [sn] at q1
    refine ⟨k, hx n k C sn gC, fun hk a na => ?_, fun hk => ?_⟩
    · subst hk
      refine hsu a (.ref C) dd fs D σ H ?_
      have relF : Rel X.K { c with F := suiteF dd fs ++ c.F } O H env σ := ⟨rel.same, rel.sub, rel.dom0, rel.dom, rel.new, rel.len, rel.slots, rel.inj, fun t ht => by
        rcases List.mem_append.mp ht with z | z
        · cases dd with
          | none => cases z
          | some p =>
            cases fs with
            | nil => cases z
            | cons p1 r1 =>
              cases r1 with
              | cons _ _ => cases z
              | nil =>
                obtain ⟨f1, x1⟩ := p1
                have z' : t = (p, f1, x1) := by simpa [suiteF] using z
                subst z'
                obtain ⟨p', v, b1, b2, b3⟩ := hf
                cases b1
                refine ⟨fun zz => ?_, v, b2, b3⟩
                have mm := rel.dom _ zz
                have b2' : H p = some (.xd [(f1, v)]) := b2
                rw [b2'] at mm
                exact mm
        · exact rel.exs t z⟩
      have conv : ∀ {O H env σ}, Rel X.K { c with F := suiteF dd fs ++ c.F } O H env σ → Rel X.K c O H env σ := fun r => ⟨r.same, r.sub, r.dom0, r.dom, r.new, r.len, r.slots, r.inj, fun t ht => r.exs t (List.mem_append_right _ ht)⟩
      refine ⟨O, env, relF, ?_⟩
      have q2 : Out X c D O H (hs fs env) := q1
      cases r : hs fs env with
      | nx e => rw [r] at q2; exact fun O' σ' H' k rel' => q2 O' σ' H' k (conv rel')
      | bk e => rw [r] at q2; exact fun O' σ' H' k rel' => q2 O' σ' H' k (conv rel')
      | ct e => rw [r] at q2; exact fun O' σ' H' k rel' => q2 O' σ' H' k (conv rel')
      | rt d => rw [r] at q2; exact q2
      | stuck => rw [r] at q2; exact q2
      | ex e n fs => rw [r] at q2; exact fun O' σ' H' cls dd k rel' hx => q2 O' σ' H' cls dd k (conv rel') hx
    · subst hk
      exact q1 O σ H (.ref C) dd (Keep.refl _ _) rel hx'
/-- a suite, whatever the exception's fields -/
theorem ss_suite {X' : Cx} {sts : List Stmt} {d : Option Addr} {hs : List (Str × PyData) → DS} (h : ∀ fs, PSs X' sts (rdS X { c with F := suiteF d fs ++ c.F } (hs fs))) : PSs X' sts (fun D σ H => ∃ fs, rdS X { c with F := suiteF d fs ++ c.F } (hs fs) D σ H) :=
  ⟨fun pins s σ H D I ⟨fs, q⟩ => (h fs).run pins s σ H D I q⟩
theorem s_try {b : DS} {sub : Str → Option Bool} {hs : List (Str × PyData) → DS} {cv : Value}
    (h : PS X st (fun D σ H => rdS X { c with W := wOnly X.K cv (fun a cls d D σ H => ∃ fs, rdS X { c with F := suiteF d fs ++ c.F } (hs fs) D σ H) c.W D } b D σ H))
    (hx : ∀ (n : Str) (k : Bool) (C : Addr), sub n = some k → X.mg n = some (.ref C) → PySem.W.exmOne X.K (.ref C) cv = some k) : SS X c st (dTry b sub hs) :=
  s_try1 (tb := fun W => rdS X { c with W := W } b) (ts := fun a cls d D σ H => ∃ fs, rdS X { c with F := suiteF d fs ++ c.F } (hs fs) D σ H) h (fun W D σ H q => q) hx (fun a cls d fs D σ H q => ⟨fs, q⟩)
end
/-- a def that may be called, told once -/
def Def (P : Program) (w : World) (K : PySem.W.Frag) (mg : Str → Option Value) (base : Heap) (x : Str) (n : Nat) (m : List PyData → R PyData) (k : Nat) : Prop :=
  ∃ (f : Addr) (fd : FuncData) (ps : List Str), FnOk P w K mg base (L2.CX P w) k f fd ps (spM K mg n m) ∧ mg x = some (.ref f) ∧ PySem.W.keepIn K (.ref f) = true ∧ Binds K fd ps []
theorem Def.cal {P : Program} {w : World} {K : PySem.W.Frag} {mg : Str → Option Value} {base : Heap} {x : Str} {n : Nat} {m : List PyData → R PyData} {k k' : Nat} {A : Around} (d : Def P w K mg base x n m k) (hr : Room k' A) (h : k ≤ k') : Cal P w K mg base A x n m := by
  obtain ⟨f, fd, ps, F, hm, hk, hb⟩ := d
  exact ⟨k, f, fd, ps, F, hr.mono h, hm, hk, hb⟩
/-- the promise of a law's def -/
def spL (K : PySem.W.Frag) : Sp := fun vs H Q _ => ∃ (a : Addr) (ns : List Int), vs = [.ref a] ∧ SqL K H a (ns.map V.int) ∧ ns.length ≤ 63 ∧ ∀ H', Q (.bl true) H'
theorem spL_of {K : PySem.W.Frag} {mg : Str → Option Value} {m : List PyData → R PyData} (hm : ∀ ns : List Int, ns.length ≤ 63 → m [.list (ns.map .int)] = .ok (.bool true)) {vs : List V} {H : Hp} {Q : VK} {E : XK} (h : spL K vs H Q E) : spM K mg 1 m vs H Q E := by
  obtain ⟨a, ns, rfl, hS, hl, q⟩ := h
  refine ⟨[], [.list (ns.map .int)], (fun _ z => by cases z), by rw [hide_nil]; exact .one (.lst hS (Dvs.ints ns)), ?_⟩
  have e : callN 1 m [.list (ns.map .int)] = .ok (.bool true) := hm ns hl
  rw [e]
  intro v H' _ hv
  cases hv
  exact q H'
end DL

set_option Elab.async false
set_option linter.all false
set_option maxRecDepth 100000
set_option maxHeartbeats 2000000
/-! tuples cut backwards -/
namespace HT
open PySem PySem.Spec PyProof.Rows
section
variable {prog : Program} {w : World} {A : Around} {E : Value → Shared → Prop} {s : Shared}
theorem dl_sliceNeg {sl : Addr} {vl vu vs : Value} {lo hi : Option Int} {n : Nat} {Q : Int × Int × Nat → Shared → Prop} (hs : s.heap.IsSliceOf sl vl vu vs) (pl : IsPart vl lo) (pu : IsPart vu hi) (ps : IsPart vs (some (-1)))
    (h : Q ((Builtin.Slice.sliceAdjust lo hi (-1) (n : Int)).1, -1, Builtin.Slice.slicePlaces (Builtin.Slice.sliceAdjust lo hi (-1) (n : Int)).1 (Builtin.Slice.sliceAdjust lo hi (-1) (n : Int)).2 (-1)) s) :
    wpAny (model prog w) A (Builtin.Slice.sliceApplied (.ref sl) (pure (n : Int))) Q E s := by
  obtain ⟨os, hos, hcs, hds⟩ := id hs
  unfold Builtin.Slice.sliceApplied Builtin.Slice.sliceFields
  refine wpAny_bind (wpAny_bind (wpAny_field hos hds (x := vl) rfl (wpAny_bind (wpAny_field hos hds (x := vu) rfl (wpAny_bind (wpAny_field hos hds (x := vs) rfl (wpAny_pure ?_)))))))
  refine wpAny_bind (slicePart_ ps ?_)
  show wpAny _ _ (if ((-1 : Int) == 0) = true then _ else _) _ _ s
  rw [if_neg (by decide)]
  refine wpAny_bind (slicePart_ pl (wpAny_bind (slicePart_ pu (wpAny_bind (wpAny_pure ?_)))))
  exact wpAny_pure h
theorem dl_tupleNeg {t sl : Addr} {items : Array Value} {vl vu vs : Value} {lo hi : Option Int} {Q : Value → Shared → Prop} (ht : IsTup s.heap t items) (hs : s.heap.IsSliceOf sl vl vu vs) (pl : IsPart vl lo) (pu : IsPart vu hi) (ps : IsPart vs (some (-1)))
    (L : List Value) (hL : ((List.range (Builtin.Slice.slicePlaces (Builtin.Slice.sliceAdjust lo hi (-1) (items.size : Int)).1 (Builtin.Slice.sliceAdjust lo hi (-1) (items.size : Int)).2 (-1))).filterMap fun (m : Nat) => items[((Builtin.Slice.sliceAdjust lo hi (-1) (items.size : Int)).1 + (m : Int) * (-1)).toNat]?) = L)
    (h : Q (.ref s.heap.objs.size) { s with heap := s.heap.push { cls := .type "tuple", data := .seq L.toArray } }) (hsz : L.length ≤ sizeLine) : wpAny (model prog w) A (getItem (.ref t) (.ref sl)) Q E s := by
  have htake : sizeOk (.seq L.toArray) := by
    show L.toArray.size ≤ sizeLine
    rw [List.size_toArray]; exact hsz
  obtain ⟨os, hos, hcs, hds⟩ := id hs
  have hTs : s.TypeIs (.ref sl) "slice" := ⟨os, hos, hcs⟩
  unfold getItem
  try with_reducible refine wpAny_holding ?_
  first | refine wpAny_bind (wpAny_pure ?_) | skip
  refine wpAny_bind (wpAny_sequenceKey ht.typeIs (by decide) ?_)
  refine wpAny_bind (wpAny_callSpecial?_slot (name := Str.ofString "__getitem__") ht.typeIs PyProof.Rows.slot_tuple_getitem
    (wpAny_call_entry PyProof.Rows.slot_tuple_getitem ht.typeIs entry_tuple_getitem ?_ (args_tuple_getitem _ _)))
  show wpAny _ _ (Builtin.Tuple.tupleItemsOf (.ref t) >>= _) _ _ s
  refine wpAny_bind (tupleItemsOf_ ht ?_)
  refine wpAny_bind (wpAny_typeOf hTs ?_)
  rw [if_pos (by decide)]
  refine wpAny_bind (dl_sliceNeg hs pl pu ps ?_)
  have hno : ∀ (x : Int) (k : Nat), ¬ ((x == 0 && (-1 : Int) == 1 && k == items.size) = true) := by
    intro x k q
    rw [Bool.and_eq_true, Bool.and_eq_true] at q
    exact absurd q.1.2 (by decide)
  show wpAny _ _ (if ((Builtin.Slice.sliceAdjust lo hi (-1) (items.size : Int)).1 == 0 && (-1 : Int) == 1 && Builtin.Slice.slicePlaces (Builtin.Slice.sliceAdjust lo hi (-1) (items.size : Int)).1 (Builtin.Slice.sliceAdjust lo hi (-1) (items.size : Int)).2 (-1) == items.size) = true then _ else _) _ _ s
  rw [if_neg (hno _ _), hL]
  first
    | exact wpAny_bind (m := Builtin.Tuple.tupleExact _) (wpAny_newObj_type (wpAny_pure ⟨_, rfl, wpAny_pure h⟩) htake)
    | exact wpAny_bind (m := Builtin.Tuple.tupleExact _) (wpAny_newObj_type (wpAny_bind (wpAny_pure (wpAny_pure ⟨_, rfl, wpAny_pure h⟩))) htake)
    | exact wpAny_bind (wpAny_bind (m := Builtin.Tuple.tupleExact _) (wpAny_newObj_type (wpAny_pure (wpAny_pure ⟨_, rfl, wpAny_pure h⟩)) htake))
    | exact wpAny_bind (wpAny_bind (m := Builtin.Tuple.tupleExact _) (wpAny_newObj_type (wpAny_pure ⟨_, rfl, wpAny_pure h⟩) htake))
end
end HT
namespace DL
open PySem PySem.Spec L2 PyProof.Rows
set_option autoImplicit false
/-- the items of t[lo:hi:-1] -/
def pickN {α : Type} (ds : List α) (lo hi : Option Int) : List α := (List.range (Builtin.Slice.slicePlaces (Builtin.Slice.sliceAdjust lo hi (-1) (ds.length : Int)).1 (Builtin.Slice.sliceAdjust lo hi (-1) (ds.length : Int)).2 (-1))).filterMap fun (m : Nat) => ds[((Builtin.Slice.sliceAdjust lo hi (-1) (ds.length : Int)).1 + (m : Int) * (-1)).toNat]?
section
variable {X : Cx} {c : Dc} {D : Ends} {O O1 : List Addr} {σ : DL.St} {H H1 : Hp} {a b e : Expr} {es : List Expr} {pos : Pos} {fa fb fc f : DE} {env : Ev}
theorem filterMap_paired {α β : Type} {F : α → β → Prop} {xs : List α} {ys : List β} (h : Paired F xs ys) (f : Nat → Nat) : ∀ l : List Nat, Paired F (l.filterMap fun m => xs[f m]?) (l.filterMap fun m => ys[f m]?)
  | [] => .nil
  | m :: l => by
    rw [List.filterMap_cons, List.filterMap_cons]
    have ih := filterMap_paired h f l
    have key : ∀ {xs : List α} {ys : List β}, Paired F xs ys → ∀ i : Nat, (xs[i]? = none ∧ ys[i]? = none) ∨ ∃ x y, xs[i]? = some x ∧ ys[i]? = some y ∧ F x y := by
      intro xs ys h
      induction h with
      | nil => intro i; exact .inl ⟨by simp, by simp⟩
      | cons r t ih =>
        intro i
        cases i with
        | zero => exact .inr ⟨_, _, rfl, rfl, r⟩
        | succ j => simpa using ih j
    rcases key h (f m) with ⟨e1, e2⟩ | ⟨x, y, e1, e2, r⟩
    · rw [e1, e2]; exact ih
    · rw [e1, e2]; exact .cons r ih
theorem dvs_paired {K : PySem.W.Frag} : ∀ {vs : List V} {ds : List PyData}, Dvs K H vs ds → Paired (Dv K H) vs ds
  | _, _, .nil => .nil
  | _, _, .cons h t => .cons h (dvs_paired t)
theorem paired_dvs {K : PySem.W.Frag} : ∀ {vs : List V} {ds : List PyData}, Paired (Dv K H) vs ds → Dvs K H vs ds
  | _, _, .nil => .nil
  | _, _, .cons h t => .cons h (paired_dvs t)
def dSlN (f : DE) (l u : DO) : DE := fun env => do
  let x ← f env
  let lo ← l env
  let hi ← u env
  lift (match x with
    | .tuple ds => if (pickN ds lo hi).length < LIM then some (.tuple (pickN ds lo hi)) else none
    | _ => none)
theorem e_slN {lo hi : Option Expr} {l u : DO} {k : Nat} {p1 p2 p3 : Pos} (ha : EB X c a fa) (hl : PO X lo (rdO X c l)) (hu : PO X hi (rdO X c u)) : EE X c (.Subscript a (.Slice lo hi (some (.UnaryOp .USub (.Constant (.int 1) k p1) p2)) p3) pos) (dSlN fa l u) := ⟨fun pins s σ H Q I h => by
  obtain ⟨O, env, rel, q⟩ := h
  refine Subscript_ (thn (ha.run pins s σ H (fun x H1 => rdO X c l σ H1 fun lo H2 => rdO X c u σ H2 fun hi H3 => ∃ a xs, x = V.ref a ∧ SqT X.K H3 a xs ∧ (pickN xs lo hi).length ≤ sizeLine ∧ ∀ p, H3 p = none → Q (.ref p) (upd H3 p (.tup (pickN xs lo hi)))) I ?_) fun v s1 ⟨x, H1, I1, r1, q1⟩ => ?_)
  · refine ⟨O, env, rel, q.bind.imp fun d q1 v H1 s1 b1 => ⟨O, env, rel.ext s1, (Res.bind q1).ext s1 fun lo q2 H2 s2 => ⟨O, env, rel.ext (s1.trans s2), (Res.bind q2).ext (s1.trans s2) fun hi q3 H3 s3 => ?_⟩⟩⟩
    obtain ⟨z, hz, q4⟩ := q3.lift
    have s := (s1.trans s2).trans s3
    have m : ∀ a ∈ O, Mut (H3 a) := (rel.ext s).dom
    have b3 := b1.ext (s2.trans s3)
    cases d <;> first | (cases hz; done) | skip
    rename_i ds
    obtain ⟨hlim, rfl⟩ := ite_some hz
    obtain ⟨a, xs, rfl, h1, h1', d1⟩ := b3.tup
    have hp : Dvs X.K (hide O H3) (pickN xs lo hi) (pickN ds lo hi) := by
      unfold pickN
      rw [d1.length]
      exact paired_dvs (filterMap_paired (dvs_paired d1) _ _)
    exact ⟨a, xs, rfl, h1, by rw [hp.length]; exact lim_le hlim, fun p np => q4 _ _ (s.trans (same_upd np)) (.newT m np hp)⟩
  · have hst : PO X (some (.UnaryOp .USub (.Constant (.int 1) k p1) p2)) (tPart (tUn (rU fun i => .int (-i)) (tC (.int 1)))) := po_some (pe_un un_neg pe_int)
    refine wpAny_Slice (thn (hl.run pins s1 σ H1 _ I1 q1) fun vl s2 ⟨lo', H2, I2, pl, q2⟩ => thn (hu.run pins s2 σ H2 _ I2 q2) fun vu s3 ⟨hi', H3, I3, pu, q3⟩ => ?_)
    refine thn (hst.run pins s3 σ H3 (fun o H4 => o = some (-1) ∧ H4 = H3) I3 ⟨1, rfl, -1, rfl, rfl, rfl⟩) fun vs s4 ⟨o, H4, I4, ps, eo, e4⟩ => ?_
    subst eo e4
    obtain ⟨a', xs, rfl, hx, hsz, q4⟩ := q3
    cases r1
    have I5 : L2.Inv X pins σ H4 { s4 with heap := s4.heap.push { cls := .type "slice", data := .fields #[vl, vu, vs] } } := I4.kept (t' := s4.toks) fun b ob q => Heap.get?_push_of_some _ q
    obtain ⟨its, r, ht, hz⟩ := I5.tuple hx
    have hlen := r.length
    show wpAny (model X.prog X.w) X.A (subscriptTail a (.Slice lo hi (some (.UnaryOp .USub (.Constant (.int 1) k p1) p2)) p3) (.ref a') (.ref s4.heap.objs.size)) (EP X pins σ Q) X.xe { s4 with heap := s4.heap.push { cls := .type "slice", data := .fields #[vl, vu, vs] } }
    refine tail_any (ops := [.ref a', .ref s4.heap.objs.size]) ht.typeIs (PyProof.Rows.slot_tuple_getitem.lookup) ?_ (by with_unfolding_all rfl)
    have hp : Vals (pickN xs lo' hi') (pickN its lo' hi') := by
      unfold pickN
      rw [hlen]
      exact filterMap_paired r _ _
    refine HT.dl_tupleNeg ht (Heap.IsSliceOf.new _ vl vu vs) pl pu ps (pickN its lo' hi') (by unfold pickN; simp only [List.size_toArray, List.getElem?_toArray]) ?_ (by rw [← hp.length]; exact hsz)
    refine ⟨.ref _, _, I5.laid (t' := s4.toks) (o := .tup (pickN xs lo' hi')) (fun b ob q => Heap.get?_push_of_some _ q) (Nat.le_refl _) ?_, rfl, q4 _ (I5.hok.fresh (Nat.le_refl _))⟩
    exact ⟨hsz, _, hp, IsTup.new _ _⟩⟩
def dRevL (f : DE) : DE := fun env => do
  let x ← f env
  lift (match x with
    | .list ds => some (.list ds.reverse)
    | _ => none)
theorem e_revL (h : PE X e (tRevL X.K (rdB X c f))) : EE X c e (dRevL f) := PE.imp h fun σ H Q ⟨O, env, rel, q⟩ => ⟨O, env, rel, q.bind.imp fun d q1 v H' s b => by
  obtain ⟨z, hz, q2⟩ := Res.lift q1
  cases d <;> first | (cases hz; done) | skip
  cases hz
  obtain ⟨a, xs, rfl, h1, d1⟩ := b.lst
  exact ⟨a, xs, rfl, h1, fun p np => q2 _ _ (s.trans (same_upd np)) (.newL (rel.ext s).dom np d1.rev)⟩⟩
/-- xs.count(k), ints -/
def gCount : PyData → List PyData → Option PyData
  | .list ds, [.int k] => (intsOf ds).map fun ns => .int (ns.count k : Nat)
  | _, _ => none
def listOf : PyData → Option (List PyData)
  | .list ds => some ds
  | _ => none
def dCount (f g : DE) : DE := fun env => do
  let x ← f env
  let ds ← lift (listOf x)
  let y ← g env
  lift (gCount (.list ds) [y])
theorem e_count (h : PE X e (tBM X.K "list" (rCntI X.K) (rdB X c fa) (tCons (rdB X c fb) tNil))) : EE X c e (dCount fa fb) := PE.imp h fun σ H Q ⟨O, env, rel, q⟩ => ⟨O, env, rel, q.bind.imp fun d q1 v H1 s1 b1 => by
  obtain ⟨ds, hds, q2⟩ := Res.lift (Res.bind q1)
  cases d <;> first | (cases hds; done) | skip
  cases hds
  obtain ⟨a, xs, rfl, h1, d1⟩ := b1.lst
  refine ⟨.inl ⟨rfl, xs, h1⟩, O, env, rel.ext s1, (Res.bind q2).ext s1 fun d' q2 w H2 s2 b2 => ?_⟩
  obtain ⟨z, hz, q3⟩ := Res.lift q2
  unfold gCount at hz
  split at hz
  · rename_i e1 e2
    cases e1; cases e2
    obtain ⟨ns, hns, rfl⟩ := Option.map_eq_some_iff.mp hz
    rw [intsOf_eq hns] at d1
    rw [dvs_ints d1] at h1
    have hw := b2.int
    subst hw
    exact ⟨a, ns, _, rfl, rfl, Same.seq s2 h1, q3 _ H2 (s1.trans s2) (.int _)⟩
  · cases hz⟩
end
end DL

set_option Elab.async false
set_option linter.all false
set_option maxRecDepth 100000
set_option maxHeartbeats 2000000
namespace DL
open PySem PySem.Spec L2 PyProof.Rows
set_option autoImplicit false
section
variable {X : Cx} {c : Dc} {D : Ends} {O O1 : List Addr} {σ : DL.St} {H H1 : Hp} {a b e : Expr} {es : List Expr} {pos : Pos} {fa fb fc f : DE} {env : Ev}
theorem Res.hid {α : Type} {r : R α} {k k' : α → Prop} (s : Same H H1) (sb : ∀ a ∈ O, a ∈ O1) (h : Res X c O σ H r k) (i : ∀ a, k a → k' a) : Res X c O1 σ H1 r k' := by
  cases r with
  | ok a => exact i a h
  | error e =>
    cases e with
    | stuck => exact h
    | exc n fs =>
      intro cls dd H' s' hx
      refine h cls dd H' (s.trans s') ?_
      obtain ⟨C, a1, a2, a3⟩ := hx
      refine ⟨C, a1, a2, ?_⟩
      cases fs with
      | nil => trivial
      | cons p r =>
        cases r with
        | cons _ _ => exact a3
        | nil =>
          obtain ⟨p', v, b1, b2, b3⟩ := a3
          exact ⟨p', v, b1, b2, b3.same (hide_sub sb)⟩
theorem pts_yes : PTs X [] (rdT X c tYesD) := ⟨fun pins s σ H Q I ⟨O, env, rel, q⟩ => pts_nil.run pins s σ H Q I (q H (Same.refl H))⟩
/-- {k: e} -/
def xD1 (k : Key) (f : DE) : DX := fun env => do
  let d ← f env
  .ok (.own (.dic [(k, d)]))
theorem x_d1 {k : Int} (h : PE X e (tDisp [(rdE X c (dC (.int k)), rdE X c f)])) : EX X c e (xD1 (.inl k) f) := PE.imp h fun σ H Q ⟨O, env, rel, q⟩ p np => by
  have s0 : Same H (upd H p (.dK [])) := same_upd np
  have rel0 := rel.grow np s0 (by rw [upd_same]; trivial)
  refine ⟨p :: O, env, rel0, fun v1 H1 s1 h1 => ⟨p :: O, env, rel0.ext s1, q.bind.hid (s0.trans s1) (fun a ha => List.mem_cons_of_mem _ ha) fun d q1 v H2 s2 h2 => ?_⟩⟩
  have e1 : v1 = .int k := by cases h1; rfl
  subst e1
  have sp := s1.trans s2
  have s3 : Same H (upd H2 p (.dK [(.inl k, v)])) := fun b o hb => by
    rw [upd_ne (ne_of_none hb np)]; exact sp _ _ (s0 b o hb)
  refine ⟨sp _ _ upd_same, [(.inl k, v)], rfl, (by show 1 ≤ 15; decide), ?_⟩
  have q2 : ∀ v O' H', XR X c O H O' H' (.own (.dic [(.inl k, d)])) v → Q v H' := q1
  have hw : OwR X.K (hide (p :: O) (upd H2 p (.dK [(.inl k, v)]))) (.dK [(.inl k, v)]) (.dic [(.inl k, d)]) := by
    rw [hide_upd List.mem_cons_self]
    exact .cons h2 .nil
  exact q2 (.ref p) (p :: O) _ ⟨Keep.grow np s3, fun env σ r => r.grow np s3 (by rw [upd_same]; trivial), fun env σ i r => r.putNew s3 np upd_same hw⟩
end
/-- try: body, except x: suite -/
theorem s_tryO {x : Str} {cv : Value} {body suite : List Stmt} {b₀ : Stmt} {np pos pos' : Pos} {b : DS} {sub : Str → Option Bool} {hs : List (Str × PyData) → DS} {X : Cx} {c : Dc}
    (h1 : X.stack = X.env :: X.outer) (h2 : X.env.frame = some X.env.locals) (hc : Names X x cv) (tk : Takes X c.W)
    (hb : ∀ (W : WX) (pn : List (Addr × Obj)) (xe : Value → Shared → Prop), Takes (X.tr pn xe) W → PassesOwn (model X.prog X.w) X.A X.env xe → SSs (X.tr pn xe) { c with W := W } body b)
    (hsu : ∀ (a : Addr) (oe : Obj) (cls : Value) (d : Option Addr) (pn : List (Addr × Obj)), Zc cls d oe → (∃ vs, oe.data = .fields vs) → ∀ fs, SSs (X.suite a ((a, oe) :: pn)) { c with F := suiteF d fs ++ c.F } (b₀ :: suite) (hs fs))
    (hx : ∀ (n : Str) (k : Bool) (C : Addr), sub n = some k → X.mg n = some (.ref C) → PySem.W.exmOne X.K (.ref C) cv = some k) :
    SS X c (.Try body [.ExceptHandler (some (.Name x np)) none (b₀ :: suite) pos'] [] [] pos) (dTry b sub hs) :=
  s_try (ps_try_only (tb := fun W => rdS X { c with W := W } b) (ts := fun a cls d D σ H => ∃ fs, rdS X { c with F := suiteF d fs ++ c.F } (hs fs) D σ H) h1 h2 hc tk (fun W pn xe tk1 hp1 => hb W pn xe tk1 hp1)
    (fun a oe cls d pn hz hf => ss_suite (fun fs => hsu a oe cls d pn hz hf fs))) hx
/-! ### the own exceptions -/
def cOf (mg : Str → Option Value) (n : Str) : Addr := match mg n with
  | some (.ref C) => C
  | _ => 0
theorem cOf_eq {mg : Str → Option Value} {n : Str} {C : Addr} (h : mg n = some (.ref C)) : cOf mg n = C := by unfold cOf; rw [h]
abbrev veL : List Value := [.type "ValueError", .type "Exception", .type "BaseException", .type "object"]
/-- a class without an __init__ -/
structure ExT (K : PySem.W.Frag) (mg : Str → Option Value) (n : Str) : Prop where
  g : mg n = some (.ref (cOf mg n))
  ex : PySem.W.excIn K (cOf mg n) veL "ValueError.__new__" = true
  kp : PySem.W.keepIn K (.ref (cOf mg n)) = true
  sb : PySem.W.subIn K (.ref (cOf mg n)) (.type "BaseException") = some true
  ty : PySem.W.typeIn K (.ref (cOf mg n)) = some (.type "type")
theorem ExT.mk' {K : PySem.W.Frag} {mg : Str → Option Value} {n : Str} {C : Addr} (g : mg n = some (.ref C)) (ex : PySem.W.excIn K C veL "ValueError.__new__" = true) (kp : PySem.W.keepIn K (.ref C) = true)
    (sb : PySem.W.subIn K (.ref C) (.type "BaseException") = some true) (ty : PySem.W.typeIn K (.ref C) = some (.type "type")) : ExT K mg n := by
  have e := cOf_eq g
  exact ⟨by rw [e]; exact g, by rw [e]; exact ex, by rw [e]; exact kp, by rw [e]; exact sb, by rw [e]; exact ty⟩
/-- except n: which of the names ns are taken -/
def subT (l : List (Str × Bool)) (n : Str) : Option Bool := l.lookup n
def SubT (K : PySem.W.Frag) (mg : Str → Option Value) (n : Str) (l : List (Str × Bool)) : Prop := ∀ (x : Str) (k : Bool) (C : Addr), subT l x = some k → mg x = some (.ref C) → PySem.W.exmOne K (.ref C) (.ref (cOf mg n)) = some k
theorem SubT.nil {K : PySem.W.Frag} {mg : Str → Option Value} {n : Str} : SubT K mg n [] := fun x k C h _ => by cases h
theorem SubT.cons {K : PySem.W.Frag} {mg : Str → Option Value} {n x : Str} {k : Bool} {l : List (Str × Bool)} {C C' : Addr} (g : mg x = some (.ref C)) (g' : mg n = some (.ref C')) (h : PySem.W.exmOne K (.ref C) (.ref C') = some k) (t : SubT K mg n l) : SubT K mg n ((x, k) :: l) := fun y j B hy gy => by
  unfold subT at hy
  rw [List.lookup_cons] at hy
  rw [cOf_eq g']
  split at hy
  · rename_i e
    have e' : y = x := by simpa using e
    subst e'
    rw [g] at gy
    cases gy; cases hy
    exact h
  · have := t y j B hy gy
    rwa [cOf_eq g'] at this
/-- what «except S» says of an error of the class at C -/
theorem exm_of {K : PySem.W.Frag} {S C : Addr} {b : Bool} (h1 : PySem.W.subIn K (.ref S) (.type "BaseException") = some true) (h2 : PySem.W.isClsIn K S = true) (h3 : PySem.W.typeIn K (.ref S) = some (.type "type")) (h4 : PySem.W.subIn K (.ref C) (.ref S) = some b) :
    PySem.W.exmOne K (.ref C) (.ref S) = some b := by
  have e1 : (PySem.W.subIn K (.ref S) (.type "BaseException") == some true) = true := by rw [h1] <;> rfl
  have e2 : ((PySem.W.clsIn K S).isSome && PySem.W.typeIn K (.ref S) == some (.type "type")) = true := by
    have h2' : (PySem.W.clsIn K S).isSome = true := h2
    rw [h2', h3] <;> rfl
  show (if (PySem.W.subIn K (.ref S) (.type "BaseException") == some true) = true then (if ((PySem.W.clsIn K S).isSome && PySem.W.typeIn K (.ref S) == some (.type "type")) = true then PySem.W.subIn K (.ref C) (.ref S) else none) else none) = some b
  rw [if_pos e1, if_pos e2]
  exact h4
end DL

set_option Elab.async false
set_option linter.all false
set_option maxRecDepth 100000
set_option maxHeartbeats 2000000
namespace DL
open PySem PySem.Spec L2 PyProof.Rows
set_option autoImplicit false
noncomputable section
/-- a while's fuel: a number that nobody unfolds -/
noncomputable def FUEL : { n : Nat // n = 18446744073709551616 } := Classical.choice ⟨⟨18446744073709551616, rfl⟩⟩
theorem fuel_lt {n : Nat} (h : n < 18446744073709551616) : n < FUEL.1 := by rw [FUEL.2]; exact h
/-! ### plain evaluation -/
theorem R_ok {α β : Type} (a : α) (f : α → R β) : ((Except.ok a : R α) >>= f) = f a := rfl
theorem R_er {α β : Type} (e : Er) (f : α → R β) : ((Except.error e : R α) >>= f) = .error e := rfl
theorem lift_some {α : Type} (a : α) : lift (some a) = .ok a := rfl
theorem lift_none {α : Type} : lift (none : Option α) = .error .stuck := rfl
theorem dDo_ok {α : Type} (a : α) (k : α → Fl) (env : Ev) : dDo (.ok a) k env = k a := rfl
theorem dDo_exc {α : Type} (n : Str) (fs : List (Str × PyData)) (k : α → Fl) (env : Ev) : dDo (.error (.exc n fs)) k env = .ex env n fs := rfl
theorem dSeq_of {s t : DS} {env : Ev} : dSeq s t env = (match s env with | .nx e => t e | r => r) := rfl
theorem dSeq_nx {s t : DS} {env e : Ev} (h : s env = .nx e) : dSeq s t env = t e := by unfold dSeq; rw [h]
theorem dSeq_rt {s t : DS} {env : Ev} {d : PyData} (h : s env = .rt d) : dSeq s t env = .rt d := by unfold dSeq; rw [h]
theorem dSeq_ex {s t : DS} {env e : Ev} {n : Str} {fs : List (Str × PyData)} (h : s env = .ex e n fs) : dSeq s t env = .ex e n fs := by unfold dSeq; rw [h]
theorem dIfS_t {t : DT} {a b : DS} {env : Ev} (h : t env = .ok true) : dIfS t a b env = a env := by unfold dIfS; rw [h]; rfl
theorem dIfS_f {t : DT} {a b : DS} {env : Ev} (h : t env = .ok false) : dIfS t a b env = b env := by unfold dIfS; rw [h]; rfl
theorem dIfS_x {t : DT} {a b : DS} {env : Ev} {n : Str} {fs : List (Str × PyData)} (h : t env = .error (.exc n fs)) : dIfS t a b env = .ex env n fs := by unfold dIfS; rw [h]; rfl
theorem ixN_nat {n i : Nat} (h : i < n) : ixN n (i : Int) = some i := by
  unfold ixN
  simp [h]
theorem callN_eq {n : Nat} {m : List PyData → R PyData} {ds : List PyData} (h : Nat.beq ds.length n = true) : callN n m ds = m ds := by
  unfold callN; rw [h]
theorem lim_0 : (0 < LIM) = True := eq_true (by decide)
theorem lim_1 : (1 < LIM) = True := eq_true (by decide)
theorem lim_2 : (2 < LIM) = True := eq_true (by decide)
theorem lim_3 : (3 < LIM) = True := eq_true (by decide)
theorem lim_4 : (4 < LIM) = True := eq_true (by decide)
theorem lim_5 : (5 < LIM) = True := eq_true (by decide)
theorem lim_6 : (6 < LIM) = True := eq_true (by decide)
theorem lim_7 : (7 < LIM) = True := eq_true (by decide)
theorem lim_8 : (8 < LIM) = True := eq_true (by decide)
theorem lim_9 : (9 < LIM) = True := eq_true (by decide)
theorem lim_10 : (10 < LIM) = True := eq_true (by decide)
theorem lim_11 : (11 < LIM) = True := eq_true (by decide)
theorem lim_12 : (12 < LIM) = True := eq_true (by decide)
theorem lim_13 : (13 < LIM) = True := eq_true (by decide)
theorem lim_14 : (14 < LIM) = True := eq_true (by decide)
theorem lim_15 : (15 < LIM) = True := eq_true (by decide)
theorem lim_16 : (16 < LIM) = True := eq_true (by decide)
theorem lim_17 : (17 < LIM) = True := eq_true (by decide)
theorem lim_18 : (18 < LIM) = True := eq_true (by decide)
theorem lim_19 : (19 < LIM) = True := eq_true (by decide)
theorem lim_20 : (20 < LIM) = True := eq_true (by decide)
theorem lim_21 : (21 < LIM) = True := eq_true (by decide)
theorem lim_22 : (22 < LIM) = True := eq_true (by decide)
theorem lim_23 : (23 < LIM) = True := eq_true (by decide)
theorem lim_24 : (24 < LIM) = True := eq_true (by decide)
theorem O_map_some {α β : Type} (f : α → β) (a : α) : (some a).map f = some (f a) := rfl
theorem isi_int_none : isiD "int" .none = some false := by show kitB "NoneType" "int" = some false; decide +kernel
theorem isi_int_bool (b : Bool) : isiD "int" (.bool b) = some true := by show kitB "bool" "int" = some true; decide +kernel
theorem isi_int_int (i : Int) : isiD "int" (.int i) = some true := by show kitB "int" "int" = some true; decide +kernel
theorem isi_int_str (x : Str) : isiD "int" (.str x) = some false := by show kitB "str" "int" = some false; decide +kernel
theorem isi_int_list (l : List PyData) : isiD "int" (.list l) = some false := by show kitB "list" "int" = some false; decide +kernel
theorem isi_int_tuple (l : List PyData) : isiD "int" (.tuple l) = some false := by show kitB "tuple" "int" = some false; decide +kernel
theorem isi_bool_none : isiD "bool" .none = some false := by show kitB "NoneType" "bool" = some false; decide +kernel
theorem isi_bool_bool (b : Bool) : isiD "bool" (.bool b) = some true := by show kitB "bool" "bool" = some true; decide +kernel
theorem isi_bool_int (i : Int) : isiD "bool" (.int i) = some false := by show kitB "int" "bool" = some false; decide +kernel
theorem isi_bool_str (x : Str) : isiD "bool" (.str x) = some false := by show kitB "str" "bool" = some false; decide +kernel
theorem isi_bool_list (l : List PyData) : isiD "bool" (.list l) = some false := by show kitB "list" "bool" = some false; decide +kernel
theorem isi_bool_tuple (l : List PyData) : isiD "bool" (.tuple l) = some false := by show kitB "tuple" "bool" = some false; decide +kernel
theorem isi_str_none : isiD "str" .none = some false := by show kitB "NoneType" "str" = some false; decide +kernel
theorem isi_str_bool (b : Bool) : isiD "str" (.bool b) = some false := by show kitB "bool" "str" = some false; decide +kernel
theorem isi_str_int (i : Int) : isiD "str" (.int i) = some false := by show kitB "int" "str" = some false; decide +kernel
theorem isi_str_str (x : Str) : isiD "str" (.str x) = some true := by show kitB "str" "str" = some true; decide +kernel
theorem isi_str_list (l : List PyData) : isiD "str" (.list l) = some false := by show kitB "list" "str" = some false; decide +kernel
theorem isi_str_tuple (l : List PyData) : isiD "str" (.tuple l) = some false := by show kitB "tuple" "str" = some false; decide +kernel
theorem isi_tuple_none : isiD "tuple" .none = some false := by show kitB "NoneType" "tuple" = some false; decide +kernel
theorem isi_tuple_bool (b : Bool) : isiD "tuple" (.bool b) = some false := by show kitB "bool" "tuple" = some false; decide +kernel
theorem isi_tuple_int (i : Int) : isiD "tuple" (.int i) = some false := by show kitB "int" "tuple" = some false; decide +kernel
theorem isi_tuple_str (x : Str) : isiD "tuple" (.str x) = some false := by show kitB "str" "tuple" = some false; decide +kernel
theorem isi_tuple_list (l : List PyData) : isiD "tuple" (.list l) = some false := by show kitB "list" "tuple" = some false; decide +kernel
theorem isi_tuple_tuple (l : List PyData) : isiD "tuple" (.tuple l) = some true := by show kitB "tuple" "tuple" = some true; decide +kernel
theorem isi_list_none : isiD "list" .none = some false := by show kitB "NoneType" "list" = some false; decide +kernel
theorem isi_list_bool (b : Bool) : isiD "list" (.bool b) = some false := by show kitB "bool" "list" = some false; decide +kernel
theorem isi_list_int (i : Int) : isiD "list" (.int i) = some false := by show kitB "int" "list" = some false; decide +kernel
theorem isi_list_str (x : Str) : isiD "list" (.str x) = some false := by show kitB "str" "list" = some false; decide +kernel
theorem isi_list_list (l : List PyData) : isiD "list" (.list l) = some true := by show kitB "list" "list" = some true; decide +kernel
theorem isi_list_tuple (l : List PyData) : isiD "list" (.tuple l) = some false := by show kitB "tuple" "list" = some false; decide +kernel
end
end DL
local macro_rules | `(tactic| simp! only [$ts,*]) => `(tactic| simp only [DL.R_ok, DL.R_er, DL.lift_some, DL.lift_none, DL.dDo_ok, DL.dDo_exc, DL.runD, DL.startD,
  DL.outR, DL.dSeq_of, DL.dSkip, DL.dIfS, DL.dRet, DL.dRetN, DL.dExpr, DL.dSet,
  DL.dSetF, DL.dSetX, DL.dPar2, DL.dPar3, DL.dRaise, DL.dRaise1, DL.dAsgG, DL.dApp,
  DL.dAug, DL.dTest, DL.dNotT, DL.dAndT, DL.dOrT, DL.dAndV, DL.dOrV, DL.dNotV,
  DL.dIf, DL.dNeg, DL.dChain, DL.dC, DL.dVar, DL.dVarB, DL.dBin, DL.gI,
  DL.gIC, DL.gAdd, DL.modB, DL.shrB, DL.dIx, DL.gIx, DL.dTup, DL.dLst,
  DL.dLstF, DL.dNil, DL.dCons, DL.dCallG, DL.gLen, DL.gAbs, DL.gMax2, DL.gMin2,
  DL.gIntOf, DL.gTuple, DL.gList, DL.dBool, DL.dIsi, DL.O_map_some, DL.isi_int_none, DL.isi_int_bool,
  DL.isi_int_int, DL.isi_int_str, DL.isi_int_list, DL.isi_int_tuple, DL.isi_bool_none, DL.isi_bool_bool, DL.isi_bool_int, DL.isi_bool_str,
  DL.isi_bool_list, DL.isi_bool_tuple, DL.isi_str_none, DL.isi_str_bool, DL.isi_str_int, DL.isi_str_str, DL.isi_str_list, DL.isi_str_tuple,
  DL.isi_tuple_none, DL.isi_tuple_bool, DL.isi_tuple_int, DL.isi_tuple_str, DL.isi_tuple_list, DL.isi_tuple_tuple, DL.isi_list_none, DL.isi_list_bool,
  DL.isi_list_int, DL.isi_list_str, DL.isi_list_list, DL.isi_list_tuple, DL.xE, DL.xF, DL.xD, DL.xD1,
  DL.dBits, DL.dItems, DL.seqOf, DL.dRange1, DL.dRange2, DL.dRange3, DL.gN, DL.gIsN,
  DL.isN, DL.dOfF, DL.Ow.data, DL.tYesD, DL.dFor, DL.dComp, DL.wipeD, DL.dCount,
  DL.listOf, DL.dPut, DL.keyOf, DL.freeze, List.getElem?_cons_zero, List.getElem?_cons_succ, List.getElem?_nil, List.set_cons_zero,
  List.set_cons_succ, List.length_cons, List.length_nil, List.map_cons, List.map_nil, List.length_map, List.append_nil, List.nil_append,
  List.cons_append, List.replicate, List.replicate_succ, List.replicate_zero, Nat.reduceAdd, Nat.reduceSub, Nat.reduceLT, Nat.reduceBEq,
  Nat.zero_add, Nat.add_zero, DL.dCall, DL.callN, Nat.beq_eq_true_eq, reduceIte, Int.reduceLT, Int.reduceLE,
  Int.reduceNeg, Int.reduceSub, Int.reduceAdd, Int.reduceMul, Int.reduceToNat, Int.reduceDiv, Int.reduceMod, Bool.not_true,
  Bool.not_false, Bool.true_and, Bool.and_true, Bool.false_eq_true, decide_true, decide_false, DL.lim_0, DL.lim_1,
  DL.lim_2, DL.lim_3, DL.lim_4, DL.lim_5, DL.lim_6, DL.lim_7, DL.lim_8, DL.lim_9,
  DL.lim_10, DL.lim_11, DL.lim_12, DL.lim_13, DL.lim_14, DL.lim_15, DL.lim_16, DL.lim_17,
  DL.lim_18, DL.lim_19, DL.lim_20, DL.lim_21, DL.lim_22, DL.lim_23, DL.lim_24, $ts,*])
namespace DL
open PySem PySem.Spec L2 PyProof.Rows
set_option autoImplicit false
noncomputable section
/-! ### loops -/
def StepP (I : Ev → Prop) (R : Fl → Prop) : Fl → Prop
  | .nx e => I e
  | .ct e => I e
  | .bk e => R (.nx e)
  | r => R r
theorem forD_R {g : DG} {b : DS} {R : Fl → Prop} (I : Nat → Ev → Prop) : ∀ {ds : List PyData} {env : Ev} (k : Nat), I k env → (∀ i d e, ds[i]? = some d → I (k + i) e → ∃ e1, g d e = some e1 ∧ StepP (I (k + i + 1)) R (b e1)) → (∀ e, I (k + ds.length) e → R (.nx e)) → R (forD g b ds env)
  | [], env, k, h0, _, fin => fin env h0
  | d :: ds, env, k, h0, step, fin => by
    obtain ⟨e1, h1, h2⟩ := step 0 d env rfl h0
    unfold forD
    rw [h1]
    have next : ∀ e, I (k + 1) e → R (forD g b ds e) := fun e he => forD_R I (k + 1) he (fun i d' e' hi he' => by
      have e3 : k + 1 + i = k + (i + 1) := by omega
      rw [e3] at he' ⊢
      exact step (i + 1) d' e' (by simpa using hi) he') fun e' he' => fin e' (by
        have e3 : k + 1 + ds.length = k + (d :: ds).length := by simp only [List.length_cons]; omega
        rwa [e3] at he')
    show R (match b e1 with
      | .nx e => forD g b ds e
      | .ct e => forD g b ds e
      | .bk e => .nx e
      | r => r)
    cases r : b e1 with
    | nx e => rw [r] at h2; exact next e h2
    | ct e => rw [r] at h2; exact next e h2
    | bk e => rw [r] at h2; exact h2
    | rt d => rw [r] at h2; exact h2
    | ex e n fs => rw [r] at h2; exact h2
    | stuck => rw [r] at h2; exact h2
/-- a loop that goes through -/
theorem forD_nx {g : DG} {b : DS} {ds : List PyData} {env : Ev} (I : Nat → Ev → Prop) (h0 : I 0 env) (step : ∀ i d e, ds[i]? = some d → I i e → ∃ e1 e2, g d e = some e1 ∧ b e1 = .nx e2 ∧ I (i + 1) e2) : ∃ e, forD g b ds env = .nx e ∧ I ds.length e :=
  forD_R (R := fun fl => ∃ e, fl = .nx e ∧ I ds.length e) (fun i e => I i e) 0 h0 (fun i d e hi he => by
    rw [Nat.zero_add] at he ⊢
    obtain ⟨e1, e2, h1, h2, h3⟩ := step i d e hi he
    exact ⟨e1, h1, by rw [h2]; exact h3⟩) fun e he => ⟨e, rfl, by rwa [Nat.zero_add] at he⟩
theorem whileD_R {t : DT} {b : DS} {R : Fl → Prop} (I : Nat → Ev → Prop) (step : ∀ n e, I n e → (t e = .ok false ∧ R (.nx e)) ∨ (t e = .ok true ∧ StepP (fun e' => ∃ m, m < n ∧ I m e') R (b e))) : ∀ (n k : Nat) (e : Ev), I n e → n < k → R (whileD t b k e) := by
  intro n
  induction n using Nat.strongRecOn with
  | _ n ih =>
    intro k e he hk
    cases k with
    | zero => omega
    | succ k =>
      unfold whileD
      rcases step n e he with ⟨h1, h2⟩ | ⟨h1, h2⟩
      · rw [h1]; exact h2
      · rw [h1]
        show R (match b e with
          | .nx e => whileD t b k e
          | .ct e => whileD t b k e
          | .bk e => .nx e
          | r => r)
        cases r : b e with
        | nx e' => rw [r] at h2; obtain ⟨m, hm, hI⟩ := h2; exact ih m hm k e' hI (by omega)
        | ct e' => rw [r] at h2; obtain ⟨m, hm, hI⟩ := h2; exact ih m hm k e' hI (by omega)
        | bk e' => rw [r] at h2; exact h2
        | rt d => rw [r] at h2; exact h2
        | ex e' n' fs => rw [r] at h2; exact h2
        | stuck => rw [r] at h2; exact h2
/-- a while that goes through: I measure env, with a measure below the fuel -/
theorem dWhile_nx {t : DT} {b : DS} {μ : Ev → Nat} {env : Ev} (I : Nat → Ev → Prop) (J : Ev → Prop) (n : Nat) (h0 : I n env) (hn : n < μ env) (step : ∀ n e, I n e → (t e = .ok false ∧ J e) ∨ (t e = .ok true ∧ ∃ e' m, b e = .nx e' ∧ m < n ∧ I m e')) : ∃ e, dWhile μ t b env = .nx e ∧ J e :=
  whileD_R (R := fun fl => ∃ e, fl = .nx e ∧ J e) I (fun n e he => by
    rcases step n e he with ⟨h1, h2⟩ | ⟨h1, e', m, h2, h3, h4⟩
    · exact .inl ⟨h1, e, rfl, h2⟩
    · exact .inr ⟨h1, by rw [h2]; exact ⟨m, h3, h4⟩⟩) n (μ env) env h0 hn
theorem rangeD_at {lo c : Int} {n i : Nat} {d : PyData} (h : (rangeD lo c n)[i]? = some d) : i < n ∧ d = .int (lo + (i : Nat) * c) := rangeD_get h
theorem map_int_at {ns : List Int} {i : Nat} {d : PyData} (h : (ns.map PyData.int)[i]? = some d) : ∃ z, ns[i]? = some z ∧ d = .int z := by
  rw [List.getElem?_map] at h
  obtain ⟨z, h1, h2⟩ := Option.map_eq_some_iff.mp h
  exact ⟨z, h1, h2.symm⟩
theorem rangeSize1 {i j : Int} : (Builtin.Range.rangeSize i j 1) = if i < j then j - i else 0 := by
  unfold Builtin.Range.rangeSize
  split <;> simp_all <;> omega
theorem shaped_int (i : Int) : SeqAt.shaped (.int i) = true := by simp [SeqAt.shaped, PyData.canLay0, PyData.depth]
theorem shaped_none : SeqAt.shaped (.none) = true := by simp [SeqAt.shaped, PyData.canLay0, PyData.depth]
theorem shaped_bool (b : Bool) : SeqAt.shaped (.bool b) = true := by simp [SeqAt.shaped, PyData.canLay0, PyData.depth]
/-- data whose lists and tuples go at most n deep -/
def Shp (n : Nat) (d : PyData) : Prop := d.canLay0 = true ∧ d.depth ≤ n
theorem Shp.int (n : Nat) (i : Int) : Shp n (.int i) := ⟨by simp [PyData.canLay0], by simp [PyData.depth]⟩
theorem Shp.bool (n : Nat) (i : Bool) : Shp n (.bool i) := ⟨by simp [PyData.canLay0], by simp [PyData.depth]⟩
theorem Shp.none (n : Nat) : Shp n .none := ⟨by simp [PyData.canLay0], by simp [PyData.depth]⟩
theorem Shp.all {n : Nat} : ∀ {l : List PyData}, (∀ d ∈ l, Shp n d) → PyData.canLayAll0 l = true ∧ PyData.depthAll l ≤ n
  | [], _ => ⟨by simp [PyData.canLayAll0], by simp [PyData.depthAll]⟩
  | d :: l, h => by
    obtain ⟨h1, h2⟩ := h d List.mem_cons_self
    obtain ⟨h3, h4⟩ := Shp.all fun e he => h e (List.mem_cons_of_mem _ he)
    refine ⟨by simp only [PyData.canLayAll0, h1, h3, Bool.and_self], ?_⟩
    simp only [PyData.depthAll]
    omega
theorem Shp.list {n : Nat} {l : List PyData} (h : ∀ d ∈ l, Shp n d) : Shp (n + 1) (.list l) := by
  obtain ⟨h1, h2⟩ := Shp.all h
  exact ⟨by simp only [PyData.canLay0, h1], by simp only [PyData.depth]; omega⟩
theorem Shp.tuple {n : Nat} {l : List PyData} (h : ∀ d ∈ l, Shp n d) : Shp (n + 1) (.tuple l) := by
  obtain ⟨h1, h2⟩ := Shp.all h
  exact ⟨by simp only [PyData.canLay0, h1], by simp only [PyData.depth]; omega⟩
theorem Shp.ints (n : Nat) (l : List Int) : ∀ d ∈ l.map PyData.int, Shp n d := fun d h => by
  obtain ⟨i, _, rfl⟩ := List.mem_map.mp h
  exact .int n i
theorem Shp.ok {n : Nat} {d : PyData} (h : Shp n d) (hn : n ≤ 64) : SeqAt.shaped d = true := by
  unfold SeqAt.shaped
  rw [h.1, decide_eq_true (Nat.le_trans h.2 hn)]; rfl
theorem gEq_of {neg : Bool} {d e : PyData} {b : Bool} (h1 : SeqAt.shaped d = true) (h2 : SeqAt.shaped e = true) (h : PyData.eqv d e = b) : gEq neg d e = some (.bool (if neg then !b else b)) := by
  unfold gEq
  rw [h1, h2, h]; rfl
theorem eqv_int (i j : Int) : PyData.eqv (.int i) (.int j) = decide (i = j) := by
  simp only [PyData.eqv]
  by_cases h : i = j <;> simp [h]
theorem eqv_str (i j : Str) : PyData.eqv (.str i) (.str j) = decide (i = j) := by
  simp only [PyData.eqv]
  by_cases h : i = j <;> simp [h]
theorem gEq_intf (i j : Int) : gEq false (.int i) (.int j) = some (.bool (decide (i = j))) := gEq_of (shaped_int i) (shaped_int j) (eqv_int i j)
theorem gEq_intt (i j : Int) : gEq true (.int i) (.int j) = some (.bool (!decide (i = j))) := gEq_of (shaped_int i) (shaped_int j) (eqv_int i j)
theorem gEq_nit (j : Int) : gEq true .none (.int j) = some (.bool true) := gEq_of (b := false) shaped_none (shaped_int j) (by simp only [PyData.eqv])
theorem gEq_nif (j : Int) : gEq false .none (.int j) = some (.bool false) := gEq_of (b := false) shaped_none (shaped_int j) (by simp only [PyData.eqv])
theorem gIn_of {neg : Bool} {d : PyData} {es : List PyData} {b : Bool} (h1 : SeqAt.shaped d = true) (h2 : SeqAt.shaped (.list es) = true) (h : (es.any fun z => PyData.eqv z d) = b) : gIn neg d (.list es) = some (.bool (if neg then !b else b)) := by
  unfold gIn
  dsimp only
  rw [h1, h2, h]; rfl
theorem atI_nat {xs : List PyData} {i : Nat} {d : PyData} (h : xs[i]? = some d) : L2.atI xs (i : Int) = some d := by
  unfold L2.atI
  rw [ixN_nat (List.getElem?_eq_some_iff.mp h).1]
  exact h
theorem atI_last {xs : List PyData} {d : PyData} (h : xs.getLast? = some d) : L2.atI xs (-1) = some d := by
  have hne : xs ≠ [] := by rintro rfl; cases h
  have hl : 0 < xs.length := List.length_pos_iff.mpr hne
  have e : ixN xs.length (-1) = some (xs.length - 1) := by
    unfold ixN
    rw [if_neg (by omega), if_pos (by omega)]
    congr 1
    omega
  unfold L2.atI
  rw [e]
  show xs[xs.length - 1]? = some d
  rw [← List.getLast?_eq_getElem?]; exact h
theorem getLast?_map_int {vs : List Int} {v : Int} (h : vs.getLast? = some v) : (vs.map PyData.int).getLast? = some (.int v) := by
  rw [List.getLast?_map, h]; rfl
/-! ### a loop that no break ends, item by item -/
inductive Pass (g : DG) (b : DS) : List PyData → Ev → Ev → Prop
  | nil {e : Ev} : Pass g b [] e e
  | cons {d : PyData} {ds : List PyData} {e e1 e2 e3 : Ev} : g d e = some e1 → b e1 = .nx e2 → Pass g b ds e2 e3 → Pass g b (d :: ds) e e3
theorem Pass.run {g : DG} {b : DS} : ∀ {ds : List PyData} {e e' : Ev}, Pass g b ds e e' → forD g b ds e = .nx e'
  | _, _, _, .nil => rfl
  | _, _, _, .cons h1 h2 t => by
    unfold forD
    rw [h1]
    dsimp only
    rw [h2]
    exact t.run
theorem Pass.app {g : DG} {b : DS} : ∀ {ds es : List PyData} {e e' e'' : Ev}, Pass g b ds e e' → Pass g b es e' e'' → Pass g b (ds ++ es) e e''
  | _, _, _, _, _, .nil, t => t
  | _, _, _, _, _, .cons h1 h2 s, t => .cons h1 h2 (s.app t)
theorem Pass.one {g : DG} {b : DS} {d : PyData} {e e1 e2 : Ev} (h1 : g d e = some e1) (h2 : b e1 = .nx e2) : Pass g b [d] e e2 := .cons h1 h2 .nil
theorem small_of {i j k : Int} {n : Nat} (h1 : -1000000000 < i) (h2 : i < 1000000000) (h3 : -1000000000 < j) (h4 : j < 1000000000) (h5 : -1000 < k) (h6 : k < 1000) (h : Builtin.Range.rangeSize i j k = n) (hn : n < 10000000000) : Builtin.Range.small i j k = true := by
  unfold Builtin.Range.small
  have hb : ∀ x : Int, -9000000000000000000 < x → x < 9000000000000000000 → Builtin.Range.rangeFitsLong x = true := fun x a b => by
    unfold Builtin.Range.rangeFitsLong
    rw [decide_eq_true (by omega), decide_eq_true (by omega)]; rfl
  rw [h, hb i (by omega) (by omega), hb j (by omega) (by omega), hb k (by omega) (by omega), hb n (by omega) (by omega)]
  split
  · rw [hb _ (by omega) (by omega)]; simp
  · rw [hb _ (by omega) (by omega)]; simp
theorem gRange3_eq {i j k : Int} (n : Nat) (h1 : -1000000000 < i) (h2 : i < 1000000000) (h3 : -1000000000 < j) (h4 : j < 1000000000) (h5 : -1000 < k) (h6 : k < 1000) (h7 : k ≠ 0) (h : Builtin.Range.rangeSize i j k = n) (hn : n < 10000000000) : gRange3 (.int i) (.int j) (.int k) = some (rangeD i k n) := by
  unfold gRange3
  rw [rg3B_eq]
  unfold rg3B0
  have e : k.natAbs < 1073741824 := by omega
  simp only [small_of h1 h2 h3 h4 h5 h6 h hn, h, h7, e, ne_eq, not_false_eq_true, decide_true, Bool.and_self, Bool.true_and, show (0 : Int) ≤ (n : Int) by omega, reduceIte, Int.toNat_natCast]
theorem gRange2_eq {i j : Int} (n : Nat) (h1 : -1000000000 < i) (h2 : i < 1000000000) (h3 : -1000000000 < j) (h4 : j < 1000000000) (h : (j - i).toNat = n) : gRange2 (.int i) (.int j) = some (rangeD i 1 n) := by
  unfold gRange2
  dsimp only
  rw [if_pos (by rw [rgB_mk (by omega) (by omega), rgB_mk (by omega) (by omega)]; rfl), h]
theorem gRange1_eq {j : Int} (n : Nat) (h3 : -1000000000 < j) (h4 : j < 1000000000) (h : j.toNat = n) : gRange1 (.int j) = some (rangeD 0 1 n) := by
  unfold gRange1
  dsimp only
  rw [if_pos (rgB_mk (by omega) (by omega)), h]
theorem gRange1_nat (n : Nat) (h : n < 1000000000) : gRange1 (.int (n : Nat)) = some (rangeD 0 1 n) := gRange1_eq n (by omega) (by omega) (by omega)
theorem divB_lit {i j : Int} (h : 0 < j) (h' : j < 18446744073709551616) : divB i j = true := by
  rw [divB_eq]; unfold divB0
  have e : j.natAbs < 2 ^ 64 := by
    have : (j.natAbs : Int) = j := Int.natAbs_of_nonneg (Int.le_of_lt h)
    omega
  rw [decide_eq_true h, decide_eq_true (Nat.lt_of_lt_of_le (PySem.Flt.log2_lt_of (by decide) e) (by decide))]; rfl
theorem getP_nil (k : Key) : getP [] k = none := rfl
theorem getP_cons (a : Key) (x : PyData) (ps : List (Key × PyData)) (k : Key) : getP ((a, x) :: ps) k = if a = k then some x else getP ps k := by
  unfold getP
  rw [List.find?_cons]
  by_cases h : a = k
  · simp [h]
  · simp [h]
theorem getP_map (k k' : Key) (d : PyData) : ∀ ps : List (Key × PyData), getP (ps.map fun kv => if kv.1 = k then (kv.1, d) else kv) k' = if k' = k then (getP ps k).map (fun _ => d) else getP ps k'
  | [] => by by_cases h : k' = k <;> simp [getP_nil, h]
  | (a, x) :: ps => by
    have ih := getP_map k k' d ps
    rw [List.map_cons]
    by_cases ha : a = k
    · subst ha
      rw [if_pos rfl, getP_cons, getP_cons, getP_cons, ih]
      by_cases h : k' = a
      · subst h; simp
      · simp [h, Ne.symm h]
    · rw [if_neg ha, getP_cons, getP_cons, getP_cons, ih]
      by_cases h : k' = k
      · subst h; simp [ha]
      · simp [h]
theorem getP_any (k : Key) : ∀ ps : List (Key × PyData), (ps.any fun kv => decide (kv.1 = k)) = (getP ps k).isSome
  | [] => rfl
  | (a, x) :: ps => by
    rw [List.any_cons, getP_any k ps, getP_cons]
    by_cases h : a = k <;> simp [h]
theorem getP_append (k : Key) (b : Key) (d : PyData) : ∀ ps : List (Key × PyData), getP (ps ++ [(b, d)]) k = (getP ps k).or (if b = k then some d else none)
  | [] => by simp [getP_nil, getP_cons]
  | (a, x) :: ps => by
    rw [List.cons_append, getP_cons, getP_cons, getP_append k b d ps]
    by_cases h : a = k <;> simp [h]
theorem getP_putP (ps : List (Key × PyData)) (k k' : Key) (d : PyData) : getP (putP ps k d) k' = if k' = k then some d else getP ps k' := by
  unfold putP
  rw [getP_any]
  cases h : getP ps k with
  | some x =>
    rw [if_pos (by rfl), getP_map, h]; rfl
  | none =>
    rw [if_neg (by simp), getP_append]
    by_cases e : k' = k
    · subst e; simp [h]
    · simp [e, Ne.symm e]
theorem length_putP (ps : List (Key × PyData)) (k : Key) (d : PyData) : (putP ps k d).length ≤ ps.length + 1 := by
  unfold putP
  split <;> simp
theorem dRange3_of {fa fb fc : DE} {env : Ev} {a b c : PyData} {l : List PyData} (ha : fa env = .ok a) (hb : fb env = .ok b) (hc : fc env = .ok c) (h : gRange3 a b c = some l) : dRange3 fa fb fc env = .ok l := by
  unfold dRange3
  rw [ha, hb, hc]
  show lift (gRange3 a b c) = _
  rw [h]; rfl
theorem dRange2_of {fa fb : DE} {env : Ev} {a b : PyData} {l : List PyData} (ha : fa env = .ok a) (hb : fb env = .ok b) (h : gRange2 a b = some l) : dRange2 fa fb env = .ok l := by
  unfold dRange2
  rw [ha, hb]
  show lift (gRange2 a b) = _
  rw [h]; rfl
theorem dRange1_of {fa : DE} {env : Ev} {a : PyData} {l : List PyData} (ha : fa env = .ok a) (h : gRange1 a = some l) : dRange1 fa env = .ok l := by
  unfold dRange1
  rw [ha]
  show lift (gRange1 a) = _
  rw [h]; rfl
theorem dFor_of {fi : DA} {g : DG} {b : DS} {env : Ev} {l : List PyData} (h : fi env = .ok l) : dFor fi g b env = forD g b l env := by
  unfold dFor; rw [h]; rfl
theorem compD_map {i : Nat} {f : DE} {env : Ev} (F : PyData → PyData) : ∀ {ds : List PyData}, (∀ d ∈ ds, f (env.set i (.dat d)) = .ok (F d)) → compD (gN i) tYesD f env ds = .ok (ds.map F)
  | [], _ => rfl
  | d :: ds, h => by
    have ih := compD_map F (ds := ds) fun e he => h e (List.mem_cons_of_mem _ he)
    have h1 := h d List.mem_cons_self
    unfold compD
    show (noX (tYesD (env.set i (.dat d))) >>= fun k => if k = true then (noX (f (env.set i (.dat d))) >>= fun x => compD (gN i) tYesD f env ds >>= fun xs => .ok (x :: xs)) else compD (gN i) tYesD f env ds) = _
    rw [h1, ih]; rfl
theorem compD_ints {i : Nat} {f : DE} {env : Ev} (F : Int → PyData) {ns : List Int} (h : ∀ z ∈ ns, f (env.set i (.dat (.int z))) = .ok (F z)) : compD (gN i) tYesD f env (ns.map .int) = .ok (ns.map F) := by
  have := compD_map (i := i) (f := f) (env := env) (fun d => match d with | .int z => F z | _ => .none) (ds := ns.map .int) fun d hd => by
    obtain ⟨z, hz, rfl⟩ := List.mem_map.mp hd
    exact h z hz
  rw [this, List.map_map]; rfl
theorem compD_range {i : Nat} {f : DE} {env : Ev} (F : Nat → PyData) {n : Nat} (h : ∀ k, k < n → f (env.set i (.dat (.int (k : Nat)))) = .ok (F k)) : compD (gN i) tYesD f env (rangeD 0 1 n) = .ok ((List.range n).map F) := by
  have e : rangeD 0 1 n = ((List.range n).map fun (k : Nat) => (k : Int)).map PyData.int := by
    unfold rangeD
    rw [List.map_map]
    refine List.map_congr_left fun k _ => ?_
    show PyData.int _ = PyData.int _
    rw [Int.mul_one, Int.zero_add]
  rw [e, compD_ints (fun z => F z.toNat) fun z hz => by
    obtain ⟨k, hk, rfl⟩ := List.mem_map.mp hz
    exact h k (List.mem_range.mp hk), List.map_map]
  rfl
theorem boolsOf_rep (b : Bool) : ∀ n : Nat, boolsOf (List.replicate n (.bool b)) = some (List.replicate n b)
  | 0 => rfl
  | n + 1 => by
    rw [List.replicate_succ, List.replicate_succ]
    unfold boolsOf
    rw [boolsOf_rep b n]; rfl
theorem all_rep {l : List PyData} {d : PyData} (h : ∀ x ∈ l, x = d) : l = List.replicate l.length d := List.eq_replicate_iff.mpr ⟨rfl, h⟩
theorem any_false {l : List PyData} (h : ∀ x ∈ l, x = .bool false) : gAny [.list l] = some (.bool false) := by
  rw [all_rep h]
  unfold gAny
  dsimp only
  rw [boolsOf_rep]
  simp
theorem all_true {l : List PyData} (h : ∀ x ∈ l, x = .bool true) : gAll [.list l] = some (.bool true) := by
  rw [all_rep h]
  unfold gAll
  dsimp only
  rw [boolsOf_rep]
  simp
theorem intsOf_map' : ∀ ns : List Int, intsOf (ns.map .int) = some ns
  | [] => rfl
  | n :: ns => by
    rw [List.map_cons]
    unfold intsOf
    rw [intsOf_map' ns]; rfl
theorem gSum_ints (ns : List Int) : gSum [.list (ns.map .int)] = some (.int ns.sum) := by
  unfold gSum
  dsimp only
  rw [intsOf_map']; rfl
theorem gCount_ints (ns : List Int) (k : Int) : gCount (.list (ns.map .int)) [.int k] = some (.int (ns.count k : Nat)) := by
  unfold gCount
  dsimp only
  rw [intsOf_map']; rfl
theorem dComp_of {vs : List Nat} {fi : DA} {g : DG} {t : DT} {f : DE} {env : Ev} {ds rs : List PyData} (h : fi env = .ok ds) (hl : ds.length < LIM) (hc : compD g t f (wipeD env vs) ds = .ok rs) : dComp vs fi g t f env = .ok rs := by
  unfold dComp
  rw [h]
  show (if ds.length < LIM then compD g t f (wipeD env vs) ds else .error .stuck) = _
  rw [if_pos hl, hc]
end
end DL

set_option Elab.async false
set_option linter.all false
set_option maxRecDepth 100000
set_option maxHeartbeats 2000000
namespace PySem
namespace FX_place
open PySem.W PySem.Calls PyProof.Rows PySem.HandSPX
/-! ### the text of __init__ -/
def iA (p1 p2 : Pos) : Arguments := { posonlyargs := [], args := [{ arg := "self", annotation := none, pos := p1 }, { arg := "place", annotation := none, pos := p2 }], vararg := none, kwonlyargs := [], kw_defaults := [], kwarg := none, defaults := [] }
def iB (q1 q2 q3 q4 : Pos) : List Stmt := [.Assign [.Attribute (.Name "self" q1) "place" q2] (.Name "place" q3) q4]
def iS : Scope := { kind := .function, names := [(PySem.Str.ofString "self", .local), (PySem.Str.ofString "place", .local)], isGenerator := false, isCoroutine := false, more := [] }
structure FxTxt (K : Frag) (mg : Str → Option Value) (cn cq : Str) (C fI : Addr) : Prop where
  gC : mg cn = some (.ref C)
  cls : ∃ nm q N bs bm sn sub ab col dd k0 k1 k2 k3 k5, K.lookup C = some (excClassObj nm q C N bs bm true sn sub ab col dd k0 k1 k2 k3 k5 "ValueError.__new__") ∧ refsVE bm = true
  sa : findIn K (.ref C) "__setattr__" = some (some (.builtin "object.__setattr__"))
  ga : findIn K (.ref C) "__getattribute__" = some (some (.builtin "BaseException.__getattribute__"))
  gg : findIn K (.ref C) "__getattr__" = some none
  noN : findIn K (.ref C) "place" = some none
  iC : findIn K (.ref C) "__init__" = some (some (.ref fI))
  tC : typeIn K (.ref fI) = some (.type "function")
  kC : keepIn K (.ref C) = true
  exC : subIn K (.ref C) (.type "BaseException") = some true
  tyC : typeIn K (.ref C) = some (.type "type")
  hdC : hasDictIn K C = true
  te : exmOne K (.ref C) (.ref C) = some true
  fn : ∃ (oc : Value) (od : Option Addr) (doc pm : Value) (an : Option Addr) (cdv ct : Value) (osl : Array (Option Value)) (p1 p2 q1 q2 q3 q4 : Pos),
    K.lookup fI = some ⟨oc, od, .func (fnOf "__init__" cq (iA p1 p2) (iB q1 q2 q3 q4) iS .none .none doc pm an cdv ct), osl⟩ ∧ codeIn K cdv cq = true
theorem one_size (v : Value) : [v].length ≤ sizeLine := by
  rw [sizeLine_eq]
  exact (by decide : 1 ≤ 16777216)
theorem kept_but {K : Frag} {h h' : Heap} {x : Addr} (X : K.In h) (hx : K.lookup x = none) (k : ∀ b o, b ≠ x → h.get? b = some o → h'.get? b = some o) : K.In h' := fun a o e =>
  k a o (fun z => by rw [z, hx] at e; cases e) (X a o e)
theorem ldC {M : Model} {s : Shared} {name : Str} {scope : Scope} {L a : Addr} {cd : Value} {m : Str → Option Value} {x : Str} {pos : Pos} {v : Value} {Q : Value → Shared → Prop} {A : Around} {E : Value → Shared → Prop} (hn : s.heap.Ns L m) (hv : m x = some v) (h : Q v s)
    (hk : scope.kind = .function := by rfl) (hl : (envOfC name scope L a cd).kindOf x = some .local := by rfl) (hd : (x == ("__debug__" : Str)) = false := by decide) :
    wpAny M A (eval (.Name x pos) (envOfC name scope L a cd)) Q E s := wpAny_Name (wpAny_loadName_local hk hl hn hv h) hd
structure InitEnd (h h' : Heap) (x C dx t1 : Addr) (v : Value) : Prop where
  keep : ∀ b o, b ≠ x → h.get? b = some o → h'.get? b = some o
  obj : h'.get? x = some { cls := .ref C, dict := some dx, data := .fields #[.ref t1, .none, .none, .none, .bool false, .none] }
  dbig : h.objs.size ≤ dx
  dne : dx ≠ x
  ns : h'.Ns1 dx (fun y => if y = "place" then some v else none)
structure OwnMade (h h' : Heap) (e C d : Addr) (v : Value) : Prop where
  keep : ∀ b o, h.get? b = some o → h'.get? b = some o
  new : h.objs.size ≤ e
  obj : ∃ oe vs, h'.get? e = some oe ∧ oe.cls = .ref C ∧ oe.dict = some d ∧ oe.data = .fields vs ∧ vs[1]? = some .none
  dbig : h.objs.size ≤ d
  dne : d ≠ e
  ns : h'.Ns1 d (fun y => if y = "place" then some v else none)
section
variable {prog : Program} {w : World} {A : Around} {E : Value → Shared → Prop} {R : Result → Shared → Prop} {s : Shared} {K : Frag} {mg : Str → Option Value} {cn cq : Str} {C fI : Addr}
theorem fx_init (T : FxTxt K mg cn cq C fI) {x t0 : Addr} {v : Value} (X : K.In s.heap) (hlim : s.heap.NoLimit) (hx : s.heap.get? x = some (excO C t0)) (hnx : K.lookup x = none) (hroom : A.depth < recursionLimit)
    (hq : ∀ h' tk dx, InitEnd s.heap h' x C dx t0 v → R (.ok (.ret .none)) { s with heap := h', toks := tk }) :
    codeAny (model prog w) A (.call (.ref fI) ⟨[.ref x, v], []⟩) R s := by
  obtain ⟨oc, od, doc, pm, an, cdv, ct, osl, p1, p2, q1, q2, q3, q4, ho, hcd⟩ := T.fn
  obtain ⟨nm, q, N, bs, bm, sn, sub, ab, col, dd, k0, k1, k2, k3, k5, hC, hbm⟩ := T.cls
  have hcl : clsIn K C = some { name := nm, bases := bs, mro := .ref C :: bm, ns := N, qualname := q, hasDict := true, slotNames := sn, subclasses := sub, abstract := ab, collection := col, hasDel := false } := by unfold clsIn; rw [hC] <;> rfl
  refine Att.call_fn (binds := [("self", .ref x), ("place", v)]) X hlim ho hcd hroom (BindsTo.of_eq (by first | rfl | with_unfolding_all rfl)) (by first | rfl | decide | with_unfolding_all rfl) (fun s₁ IC => ?_) rfl rfl rfl
  obtain ⟨h₁, tk₁, rfl⟩ := IC.toInCall.same
  have k : ∀ b o, s.heap.get? b = some o → h₁.get? b = some o := IC.toInCall.keep
  have hn := IC.toInCall.ns
  have hxL : s.heap.objs.size ≠ x := Nat.ne_of_gt (Heap.lt_size hx)
  have X₁ : K.In h₁ := X.keeps k
  have hx₁ := k _ _ hx
  -- self.by = by
  show wpAny _ _ (execs _ _) _ _ _
  refine wpAny_execs_cons (plainObj_wpAny_Assign_Attribute ?_)
  refine ldC (v := v) hn (by first | rfl | with_unfolding_all rfl | kernel_rfl) (ldC (v := .ref x) hn (by first | rfl | with_unfolding_all rfl | kernel_rfl) ?_)
  refine set_plain X₁ (ox := excO C t0) (od := none) ⟨hx₁, rfl, rfl, trivial⟩ T.sa ?_
  refine exc_osa X₁ hx₁ hcl (show refsVE (.ref C :: bm) = true from hbm) rfl T.noN (fun h₃ tk₃ dx k₃ dn dne hx₃ hn₃ => ?_)
  show wpAny _ _ (execs _ _) _ _ _
  have z : s.heap.objs.size < h₁.objs.size := hn.lt
  exact wpAny_execs_nil (hq h₃ tk₃ dx ⟨fun b o hb e => k₃ b o hb (k b o e), hx₃, Nat.le_of_lt (Nat.lt_of_lt_of_le z dn), dne, hn₃⟩)
theorem fx_made (T : FxTxt K mg cn cq C fI) {v : Value} (X : K.In s.heap) (hlim : s.heap.NoLimit) (hroom : A.depth + 1 < recursionLimit)
    (hq : ∀ h' tk e d, OwnMade s.heap h' e C d v → R (.ok (.ret (.ref e))) { s with heap := h', toks := tk }) :
    codeAny (model prog w) A (.call (.ref C) ⟨[v], []⟩) R s := by
  obtain ⟨nm, q, N, bs, bm, sn, sub, ab, col, dd, k0, k1, k2, k3, k5, hC, hbm⟩ := T.cls
  obtain ⟨hp, g, dr, tk, os⟩ := s
  have k : ∀ b o, hp.get? b = some o → ((hp.push (kdv_tup [v])).push (excO C hp.objs.size)).get? b = some o := fun b o e => Heap.get?_push_of_some _ (Heap.get?_push_of_some _ e)
  have hget : ((hp.push (kdv_tup [v])).push (excO C hp.objs.size)).get? (hp.objs.size + 1) = some (excO C hp.objs.size) := by heap_get
  have hnx : K.lookup (hp.objs.size + 1) = none := by
    cases e : K.lookup (hp.objs.size + 1) with
    | none => rfl
    | some o =>
      have z : hp.get? (hp.objs.size + 1) = some o := X _ _ e
      exact absurd (Nat.lt_of_succ_lt (Heap.lt_size z)) (Nat.lt_irrefl _)
  refine call_own F.excBase_ValueError (fun X => refsVE_contains X bm hbm) (X _ _ hC) (looks_findIn X T.iC) (fun self => bind_fn X self T.tC) (one_size v) ?_
  refine fx_init (s := ⟨(hp.push (kdv_tup [v])).push (excO C hp.objs.size), g, dr, tk, os⟩) T (X.keeps k) (hlim.keeps k) hget hnx ?_ fun h' tk' dx ⟨k', hx, dn, dne, hns⟩ => ?_
  · show A.depth + 1 < recursionLimit
    exact hroom
  · have old : ∀ b o, hp.get? b = some o → h'.get? b = some o := fun b o e => k' b o (Nat.ne_of_lt (Nat.lt_succ_of_lt (Heap.lt_size e))) (k b o e)
    have z : hp.objs.size + 1 + 1 ≤ dx := by
      first
        | (simpa only [Heap.size_push] using dn)
        | exact dn
        | (have q := dn; rw [Heap.size_push, Heap.size_push] at q; exact q)
    exact ⟨rfl, hq h' tk' (hp.objs.size + 1) dx ⟨old, Nat.le_succ _, ⟨_, _, hx, rfl, rfl, rfl, rfl⟩, Nat.le_trans (Nat.le_trans (Nat.le_succ _) (Nat.le_succ _)) z, dne, hns⟩⟩
end
end FX_place
end PySem
namespace L2
open PySem PySem.Spec PyProof.Rows
theorem relO_fx_place {v : V} {v' : Value} (r : RelV v v') (f : Str) : RelO (List.lookup f [(("place" : Str), v)]) (if f = "place" then some v' else none) := by
  by_cases hw : f = "place"
  · subst hw
    rw [if_pos rfl]
    have q : List.lookup ("place" : Str) [(("place" : Str), v)] = some v := by simp [List.lookup]
    rw [q]
    exact r
  · rw [if_neg hw]
    have qw : (f == ("place" : Str)) = false := by simpa using hw
    have q2 : List.lookup f [(("place" : Str), v)] = none := by simp [List.lookup, qw]
    rw [q2]
    trivial
section
variable {X : Cx} {cn cq : Str} {C fI : Addr}
def tMk_place (C : Addr) (ta : TA) : St → Hp → XK → Prop := fun σ H Q => ta σ H fun vs H1 => ∃ v, vs = [v] ∧ ∀ d, H1 d = none → Q (.ref C) (some d) (upd H1 d (.xd [(("place" : Str), v)]))
theorem pmk_place {a : Expr} {ta : TA} {p pos : Pos} {k : Nat} (T : PySem.FX_place.FxTxt X.K X.mg cn cq C fI) (hr : Room k X.A) (ha : PA X [a] ta) (hg : Gl X cn := by rfl) (hdb : (cn == ("__debug__" : Str)) = false := by decide)
    (he : starEach (a :: []) X.env = (false, eval a X.env) :: starEach [] X.env := by rfl) (hpl : (backTo pos (starEach [] X.env)).any (·.1) = false := by rfl) :
    PMk X (.Call (.Name cn p) [a] [] pos) (tMk_place C ta) := by
  intro pins s σ H Q I h
  refine wpAny_Call_Name_kw (ld_glob I hg T.gC ?_ hdb)
  refine PySem.W.callWith_K (h₀ := X.base) I.ok.mod.kin T.kC (thn (ha.run pos pins s σ H _ I h) fun us s1 hh => ?_) he hpl
  obtain ⟨vs, H1, I1, r1, v, ev, q1⟩ := hh
  subst ev
  refine ⟨I1.kIn, ?_⟩
  cases r1 with
  | cons rv rn =>
    rename_i v' us'
    cases rn
    show wpAny _ _ (call (.ref C) [v']) _ _ _
    have hlim := I1.nolimit
    obtain ⟨hp, g, dr, tk, os⟩ := s1
    refine wpAny_call (PySem.FX_place.fx_made T I1.kIn hlim (by have := hr.dp; omega) fun h' tk' e d M => ?_)
    show MkP X pins σ Q (.ref e) ⟨h', g, dr, tk', os⟩
    obtain ⟨oe, fv, hoe, hc, hd, hdat, h1⟩ := M.obj
    have hns := M.ns
    obtain ⟨G', g1, g2⟩ := restrict h' fun b => decide (b ≠ e)
    have gk : ∀ b, b ≠ e → G'.get? b = h'.get? b := fun b hb => g1 b (decide_eq_true hb)
    have ge : G'.get? e = none := g2 e (by simp)
    have old : ∀ b o, hp.get? b = some o → G'.get? b = some o := fun b o q => (gk b (Nat.ne_of_lt (Nat.lt_of_lt_of_le (Heap.lt_size q) M.new))).trans (M.keep b o q)
    have ob : ObjOk X.prog X.w (upd H1 d (.xd [(("place" : Str), v)])) G' d (.xd [(("place" : Str), v)]) :=
      ⟨_, hns.at (fun o q => (gk d M.dne).trans q), fun f => relO_fx_place rv f⟩
    have J : Inv X pins σ (upd H1 d (.xd [(("place" : Str), v)])) ⟨G', g, dr, tk', os⟩ := I1.laid (t' := tk') old M.dbig ob
    refine ⟨e, oe, fv, ⟨G', g, dr, tk', os⟩, _, .ref C, some d, rfl, J, fun b o q => ?_, ge, hoe, ⟨hc, hd⟩, hdat, h1, ?_, rfl, I1.bare, raises_own T.exC T.tyC, q1 d (I1.hok.fresh M.dbig)⟩
    · by_cases hb : b = e
      · have q' : G'.get? b = some o := q
        rw [hb, ge] at q'; cases q'
      · exact (gk b hb).symm.trans q
    · rw [upd_ne (Ne.symm M.dne)]
      exact I1.hok.fresh M.new
def tRaise_place (C : Addr) (W : WX) (ta : TA) : TS := fun _ σ H => tMk_place C ta σ H fun cls d H' => W cls d σ H'
theorem ps_raise_place {a : Expr} {ta : TA} {W : WX} {p pos pos2 : Pos} {k : Nat} (hc : X.calm = true) (T : PySem.FX_place.FxTxt X.K X.mg cn cq C fI) (hr : Room k X.A) (tk : Takes X W) (ha : PA X [a] ta) (hg : Gl X cn := by rfl) (hdb : (cn == ("__debug__" : Str)) = false := by decide)
    (he : starEach (a :: []) X.env = (false, eval a X.env) :: starEach [] X.env := by rfl) (hpl : (backTo pos (starEach [] X.env)).any (·.1) = false := by rfl) :
    PS X (.Raise (some (.Call (.Name cn p) [a] [] pos)) none pos2) (tRaise_place C W ta) := ps_raise hc tk (pmk_place T hr ha hg hdb he hpl)
def tBy_place (C : Addr) (a : Addr) (cls : Value) (d : Option Addr) (te : TE) : TE := fun σ H Q => te σ H fun x H1 => x = .ref a ∧ cls = .ref C ∧ ∃ (dd : Addr) (v : V), d = some dd ∧ H1 dd = some (.xd [(("place" : Str), v)]) ∧ Q v H1
theorem pe_by_place {a : Addr} {oe : Obj} {cls : Value} {d : Option Addr} {pn : List (Addr × Obj)} {e : Expr} {te : TE} {pos : Pos} (T : PySem.FX_place.FxTxt X.K X.mg cn cq C fI) (hz : Zc cls d oe) (hf : ∃ vs, oe.data = .fields vs) (he : PE (X.suite a ((a, oe) :: pn)) e te)
    (hb : attributeBase e "place" X.env (eval e X.env) = eval e X.env := by rfl) :
    PE (X.suite a ((a, oe) :: pn)) (.Attribute e "place" pos) (tBy_place C a cls d te) := by
  refine ⟨fun pins s σ H Q I h => ?_⟩
  refine attr_of hb (thn (he.run pins s σ H _ I h) fun u s1 hh => ?_)
  obtain ⟨x, H1, I1, rx, ex, ec, dd, v, ed, ea, q⟩ := hh
  subst ex
  obtain rfl : u = Value.ref a := rx
  subst ec
  subst ed
  obtain ⟨ha, _⟩ := I1.pin (a, oe) (List.mem_append_left _ List.mem_cons_self)
  obtain ⟨vs, hd⟩ := hf
  have hx : ObjOk X.prog X.w H1 s1.heap dd (.xd [(("place" : Str), v)]) := I1.hok dd _ ea
  obtain ⟨mA, hns, hr⟩ := hx
  obtain ⟨od, ho, hl⟩ := lookIn_ns hns
  have l : List.lookup ("place" : Str) [(("place" : Str), v)] = some v := by simp [List.lookup]
  obtain ⟨u, hu, ru⟩ := RelO.some_of (v := v) (o := mA "place") (by rw [← l]; exact hr "place")
  have J : PySem.W.InstAt s1.heap a oe C (some od) := ⟨ha, hz.1, by unfold PySem.W.notCls; rw [hd] <;> rfl, by rw [hz.2]; exact ho⟩
  exact HandSPX.exc_get I1.kIn J T.ga T.gg T.exC (PySem.W.findObj_own T.hdC T.noN rfl (by rw [hl, hu])) (handed_of ru) ⟨v, H1, I1.tok _, ru, q⟩
end
end L2

namespace PySem
namespace FX_reason
open PySem.W PySem.Calls PyProof.Rows PySem.HandSPX
/-! ### the text of __init__ -/
def iA (p1 p2 : Pos) : Arguments := { posonlyargs := [], args := [{ arg := "self", annotation := none, pos := p1 }, { arg := "reason", annotation := none, pos := p2 }], vararg := none, kwonlyargs := [], kw_defaults := [], kwarg := none, defaults := [] }
def iB (q1 q2 q3 q4 : Pos) : List Stmt := [.Assign [.Attribute (.Name "self" q1) "reason" q2] (.Name "reason" q3) q4]
def iS : Scope := { kind := .function, names := [(PySem.Str.ofString "self", .local), (PySem.Str.ofString "reason", .local)], isGenerator := false, isCoroutine := false, more := [] }
structure FxTxt (K : Frag) (mg : Str → Option Value) (cn cq : Str) (C fI : Addr) : Prop where
  gC : mg cn = some (.ref C)
  cls : ∃ nm q N bs bm sn sub ab col dd k0 k1 k2 k3 k5, K.lookup C = some (excClassObj nm q C N bs bm true sn sub ab col dd k0 k1 k2 k3 k5 "ValueError.__new__") ∧ refsVE bm = true
  sa : findIn K (.ref C) "__setattr__" = some (some (.builtin "object.__setattr__"))
  ga : findIn K (.ref C) "__getattribute__" = some (some (.builtin "BaseException.__getattribute__"))
  gg : findIn K (.ref C) "__getattr__" = some none
  noN : findIn K (.ref C) "reason" = some none
  iC : findIn K (.ref C) "__init__" = some (some (.ref fI))
  tC : typeIn K (.ref fI) = some (.type "function")
  kC : keepIn K (.ref C) = true
  exC : subIn K (.ref C) (.type "BaseException") = some true
  tyC : typeIn K (.ref C) = some (.type "type")
  hdC : hasDictIn K C = true
  te : exmOne K (.ref C) (.ref C) = some true
  fn : ∃ (oc : Value) (od : Option Addr) (doc pm : Value) (an : Option Addr) (cdv ct : Value) (osl : Array (Option Value)) (p1 p2 q1 q2 q3 q4 : Pos),
    K.lookup fI = some ⟨oc, od, .func (fnOf "__init__" cq (iA p1 p2) (iB q1 q2 q3 q4) iS .none .none doc pm an cdv ct), osl⟩ ∧ codeIn K cdv cq = true
theorem one_size (v : Value) : [v].length ≤ sizeLine := by
  rw [sizeLine_eq]
  exact (by decide : 1 ≤ 16777216)
theorem kept_but {K : Frag} {h h' : Heap} {x : Addr} (X : K.In h) (hx : K.lookup x = none) (k : ∀ b o, b ≠ x → h.get? b = some o → h'.get? b = some o) : K.In h' := fun a o e =>
  k a o (fun z => by rw [z, hx] at e; cases e) (X a o e)
theorem ldC {M : Model} {s : Shared} {name : Str} {scope : Scope} {L a : Addr} {cd : Value} {m : Str → Option Value} {x : Str} {pos : Pos} {v : Value} {Q : Value → Shared → Prop} {A : Around} {E : Value → Shared → Prop} (hn : s.heap.Ns L m) (hv : m x = some v) (h : Q v s)
    (hk : scope.kind = .function := by rfl) (hl : (envOfC name scope L a cd).kindOf x = some .local := by rfl) (hd : (x == ("__debug__" : Str)) = false := by decide) :
    wpAny M A (eval (.Name x pos) (envOfC name scope L a cd)) Q E s := wpAny_Name (wpAny_loadName_local hk hl hn hv h) hd
structure InitEnd (h h' : Heap) (x C dx t1 : Addr) (v : Value) : Prop where
  keep : ∀ b o, b ≠ x → h.get? b = some o → h'.get? b = some o
  obj : h'.get? x = some { cls := .ref C, dict := some dx, data := .fields #[.ref t1, .none, .none, .none, .bool false, .none] }
  dbig : h.objs.size ≤ dx
  dne : dx ≠ x
  ns : h'.Ns1 dx (fun y => if y = "reason" then some v else none)
structure OwnMade (h h' : Heap) (e C d : Addr) (v : Value) : Prop where
  keep : ∀ b o, h.get? b = some o → h'.get? b = some o
  new : h.objs.size ≤ e
  obj : ∃ oe vs, h'.get? e = some oe ∧ oe.cls = .ref C ∧ oe.dict = some d ∧ oe.data = .fields vs ∧ vs[1]? = some .none
  dbig : h.objs.size ≤ d
  dne : d ≠ e
  ns : h'.Ns1 d (fun y => if y = "reason" then some v else none)
section
variable {prog : Program} {w : World} {A : Around} {E : Value → Shared → Prop} {R : Result → Shared → Prop} {s : Shared} {K : Frag} {mg : Str → Option Value} {cn cq : Str} {C fI : Addr}
theorem fx_init (T : FxTxt K mg cn cq C fI) {x t0 : Addr} {v : Value} (X : K.In s.heap) (hlim : s.heap.NoLimit) (hx : s.heap.get? x = some (excO C t0)) (hnx : K.lookup x = none) (hroom : A.depth < recursionLimit)
    (hq : ∀ h' tk dx, InitEnd s.heap h' x C dx t0 v → R (.ok (.ret .none)) { s with heap := h', toks := tk }) :
    codeAny (model prog w) A (.call (.ref fI) ⟨[.ref x, v], []⟩) R s := by
  obtain ⟨oc, od, doc, pm, an, cdv, ct, osl, p1, p2, q1, q2, q3, q4, ho, hcd⟩ := T.fn
  obtain ⟨nm, q, N, bs, bm, sn, sub, ab, col, dd, k0, k1, k2, k3, k5, hC, hbm⟩ := T.cls
  have hcl : clsIn K C = some { name := nm, bases := bs, mro := .ref C :: bm, ns := N, qualname := q, hasDict := true, slotNames := sn, subclasses := sub, abstract := ab, collection := col, hasDel := false } := by unfold clsIn; rw [hC] <;> rfl
  refine Att.call_fn (binds := [("self", .ref x), ("reason", v)]) X hlim ho hcd hroom (BindsTo.of_eq (by first | rfl | with_unfolding_all rfl)) (by first | rfl | decide | with_unfolding_all rfl) (fun s₁ IC => ?_) rfl rfl rfl
  obtain ⟨h₁, tk₁, rfl⟩ := IC.toInCall.same
  have k : ∀ b o, s.heap.get? b = some o → h₁.get? b = some o := IC.toInCall.keep
  have hn := IC.toInCall.ns
  have hxL : s.heap.objs.size ≠ x := Nat.ne_of_gt (Heap.lt_size hx)
  have X₁ : K.In h₁ := X.keeps k
  have hx₁ := k _ _ hx
  -- self.by = by
  show wpAny _ _ (execs _ _) _ _ _
  refine wpAny_execs_cons (plainObj_wpAny_Assign_Attribute ?_)
  refine ldC (v := v) hn (by first | rfl | with_unfolding_all rfl | kernel_rfl) (ldC (v := .ref x) hn (by first | rfl | with_unfolding_all rfl | kernel_rfl) ?_)
  refine set_plain X₁ (ox := excO C t0) (od := none) ⟨hx₁, rfl, rfl, trivial⟩ T.sa ?_
  refine exc_osa X₁ hx₁ hcl (show refsVE (.ref C :: bm) = true from hbm) rfl T.noN (fun h₃ tk₃ dx k₃ dn dne hx₃ hn₃ => ?_)
  show wpAny _ _ (execs _ _) _ _ _
  have z : s.heap.objs.size < h₁.objs.size := hn.lt
  exact wpAny_execs_nil (hq h₃ tk₃ dx ⟨fun b o hb e => k₃ b o hb (k b o e), hx₃, Nat.le_of_lt (Nat.lt_of_lt_of_le z dn), dne, hn₃⟩)
theorem fx_made (T : FxTxt K mg cn cq C fI) {v : Value} (X : K.In s.heap) (hlim : s.heap.NoLimit) (hroom : A.depth + 1 < recursionLimit)
    (hq : ∀ h' tk e d, OwnMade s.heap h' e C d v → R (.ok (.ret (.ref e))) { s with heap := h', toks := tk }) :
    codeAny (model prog w) A (.call (.ref C) ⟨[v], []⟩) R s := by
  obtain ⟨nm, q, N, bs, bm, sn, sub, ab, col, dd, k0, k1, k2, k3, k5, hC, hbm⟩ := T.cls
  obtain ⟨hp, g, dr, tk, os⟩ := s
  have k : ∀ b o, hp.get? b = some o → ((hp.push (kdv_tup [v])).push (excO C hp.objs.size)).get? b = some o := fun b o e => Heap.get?_push_of_some _ (Heap.get?_push_of_some _ e)
  have hget : ((hp.push (kdv_tup [v])).push (excO C hp.objs.size)).get? (hp.objs.size + 1) = some (excO C hp.objs.size) := by heap_get
  have hnx : K.lookup (hp.objs.size + 1) = none := by
    cases e : K.lookup (hp.objs.size + 1) with
    | none => rfl
    | some o =>
      have z : hp.get? (hp.objs.size + 1) = some o := X _ _ e
      exact absurd (Nat.lt_of_succ_lt (Heap.lt_size z)) (Nat.lt_irrefl _)
  refine call_own F.excBase_ValueError (fun X => refsVE_contains X bm hbm) (X _ _ hC) (looks_findIn X T.iC) (fun self => bind_fn X self T.tC) (one_size v) ?_
  refine fx_init (s := ⟨(hp.push (kdv_tup [v])).push (excO C hp.objs.size), g, dr, tk, os⟩) T (X.keeps k) (hlim.keeps k) hget hnx ?_ fun h' tk' dx ⟨k', hx, dn, dne, hns⟩ => ?_
  · show A.depth + 1 < recursionLimit
    exact hroom
  · have old : ∀ b o, hp.get? b = some o → h'.get? b = some o := fun b o e => k' b o (Nat.ne_of_lt (Nat.lt_succ_of_lt (Heap.lt_size e))) (k b o e)
    have z : hp.objs.size + 1 + 1 ≤ dx := by
      first
        | (simpa only [Heap.size_push] using dn)
        | exact dn
        | (have q := dn; rw [Heap.size_push, Heap.size_push] at q; exact q)
    exact ⟨rfl, hq h' tk' (hp.objs.size + 1) dx ⟨old, Nat.le_succ _, ⟨_, _, hx, rfl, rfl, rfl, rfl⟩, Nat.le_trans (Nat.le_trans (Nat.le_succ _) (Nat.le_succ _)) z, dne, hns⟩⟩
end
end FX_reason
end PySem
namespace L2
open PySem PySem.Spec PyProof.Rows
theorem relO_fx_reason {v : V} {v' : Value} (r : RelV v v') (f : Str) : RelO (List.lookup f [(("reason" : Str), v)]) (if f = "reason" then some v' else none) := by
  by_cases hw : f = "reason"
  · subst hw
    rw [if_pos rfl]
    have q : List.lookup ("reason" : Str) [(("reason" : Str), v)] = some v := by simp [List.lookup]
    rw [q]
    exact r
  · rw [if_neg hw]
    have qw : (f == ("reason" : Str)) = false := by simpa using hw
    have q2 : List.lookup f [(("reason" : Str), v)] = none := by simp [List.lookup, qw]
    rw [q2]
    trivial
section
variable {X : Cx} {cn cq : Str} {C fI : Addr}
def tMk_reason (C : Addr) (ta : TA) : St → Hp → XK → Prop := fun σ H Q => ta σ H fun vs H1 => ∃ v, vs = [v] ∧ ∀ d, H1 d = none → Q (.ref C) (some d) (upd H1 d (.xd [(("reason" : Str), v)]))
theorem pmk_reason {a : Expr} {ta : TA} {p pos : Pos} {k : Nat} (T : PySem.FX_reason.FxTxt X.K X.mg cn cq C fI) (hr : Room k X.A) (ha : PA X [a] ta) (hg : Gl X cn := by rfl) (hdb : (cn == ("__debug__" : Str)) = false := by decide)
    (he : starEach (a :: []) X.env = (false, eval a X.env) :: starEach [] X.env := by rfl) (hpl : (backTo pos (starEach [] X.env)).any (·.1) = false := by rfl) :
    PMk X (.Call (.Name cn p) [a] [] pos) (tMk_reason C ta) := by
  intro pins s σ H Q I h
  refine wpAny_Call_Name_kw (ld_glob I hg T.gC ?_ hdb)
  refine PySem.W.callWith_K (h₀ := X.base) I.ok.mod.kin T.kC (thn (ha.run pos pins s σ H _ I h) fun us s1 hh => ?_) he hpl
  obtain ⟨vs, H1, I1, r1, v, ev, q1⟩ := hh
  subst ev
  refine ⟨I1.kIn, ?_⟩
  cases r1 with
  | cons rv rn =>
    rename_i v' us'
    cases rn
    show wpAny _ _ (call (.ref C) [v']) _ _ _
    have hlim := I1.nolimit
    obtain ⟨hp, g, dr, tk, os⟩ := s1
    refine wpAny_call (PySem.FX_reason.fx_made T I1.kIn hlim (by have := hr.dp; omega) fun h' tk' e d M => ?_)
    show MkP X pins σ Q (.ref e) ⟨h', g, dr, tk', os⟩
    obtain ⟨oe, fv, hoe, hc, hd, hdat, h1⟩ := M.obj
    have hns := M.ns
    obtain ⟨G', g1, g2⟩ := restrict h' fun b => decide (b ≠ e)
    have gk : ∀ b, b ≠ e → G'.get? b = h'.get? b := fun b hb => g1 b (decide_eq_true hb)
    have ge : G'.get? e = none := g2 e (by simp)
    have old : ∀ b o, hp.get? b = some o → G'.get? b = some o := fun b o q => (gk b (Nat.ne_of_lt (Nat.lt_of_lt_of_le (Heap.lt_size q) M.new))).trans (M.keep b o q)
    have ob : ObjOk X.prog X.w (upd H1 d (.xd [(("reason" : Str), v)])) G' d (.xd [(("reason" : Str), v)]) :=
      ⟨_, hns.at (fun o q => (gk d M.dne).trans q), fun f => relO_fx_reason rv f⟩
    have J : Inv X pins σ (upd H1 d (.xd [(("reason" : Str), v)])) ⟨G', g, dr, tk', os⟩ := I1.laid (t' := tk') old M.dbig ob
    refine ⟨e, oe, fv, ⟨G', g, dr, tk', os⟩, _, .ref C, some d, rfl, J, fun b o q => ?_, ge, hoe, ⟨hc, hd⟩, hdat, h1, ?_, rfl, I1.bare, raises_own T.exC T.tyC, q1 d (I1.hok.fresh M.dbig)⟩
    · by_cases hb : b = e
      · have q' : G'.get? b = some o := q
        rw [hb, ge] at q'; cases q'
      · exact (gk b hb).symm.trans q
    · rw [upd_ne (Ne.symm M.dne)]
      exact I1.hok.fresh M.new
def tRaise_reason (C : Addr) (W : WX) (ta : TA) : TS := fun _ σ H => tMk_reason C ta σ H fun cls d H' => W cls d σ H'
theorem ps_raise_reason {a : Expr} {ta : TA} {W : WX} {p pos pos2 : Pos} {k : Nat} (hc : X.calm = true) (T : PySem.FX_reason.FxTxt X.K X.mg cn cq C fI) (hr : Room k X.A) (tk : Takes X W) (ha : PA X [a] ta) (hg : Gl X cn := by rfl) (hdb : (cn == ("__debug__" : Str)) = false := by decide)
    (he : starEach (a :: []) X.env = (false, eval a X.env) :: starEach [] X.env := by rfl) (hpl : (backTo pos (starEach [] X.env)).any (·.1) = false := by rfl) :
    PS X (.Raise (some (.Call (.Name cn p) [a] [] pos)) none pos2) (tRaise_reason C W ta) := ps_raise hc tk (pmk_reason T hr ha hg hdb he hpl)
def tBy_reason (C : Addr) (a : Addr) (cls : Value) (d : Option Addr) (te : TE) : TE := fun σ H Q => te σ H fun x H1 => x = .ref a ∧ cls = .ref C ∧ ∃ (dd : Addr) (v : V), d = some dd ∧ H1 dd = some (.xd [(("reason" : Str), v)]) ∧ Q v H1
theorem pe_by_reason {a : Addr} {oe : Obj} {cls : Value} {d : Option Addr} {pn : List (Addr × Obj)} {e : Expr} {te : TE} {pos : Pos} (T : PySem.FX_reason.FxTxt X.K X.mg cn cq C fI) (hz : Zc cls d oe) (hf : ∃ vs, oe.data = .fields vs) (he : PE (X.suite a ((a, oe) :: pn)) e te)
    (hb : attributeBase e "reason" X.env (eval e X.env) = eval e X.env := by rfl) :
    PE (X.suite a ((a, oe) :: pn)) (.Attribute e "reason" pos) (tBy_reason C a cls d te) := by
  refine ⟨fun pins s σ H Q I h => ?_⟩
  refine attr_of hb (thn (he.run pins s σ H _ I h) fun u s1 hh => ?_)
  obtain ⟨x, H1, I1, rx, ex, ec, dd, v, ed, ea, q⟩ := hh
  subst ex
  obtain rfl : u = Value.ref a := rx
  subst ec
  subst ed
  obtain ⟨ha, _⟩ := I1.pin (a, oe) (List.mem_append_left _ List.mem_cons_self)
  obtain ⟨vs, hd⟩ := hf
  have hx : ObjOk X.prog X.w H1 s1.heap dd (.xd [(("reason" : Str), v)]) := I1.hok dd _ ea
  obtain ⟨mA, hns, hr⟩ := hx
  obtain ⟨od, ho, hl⟩ := lookIn_ns hns
  have l : List.lookup ("reason" : Str) [(("reason" : Str), v)] = some v := by simp [List.lookup]
  obtain ⟨u, hu, ru⟩ := RelO.some_of (v := v) (o := mA "reason") (by rw [← l]; exact hr "reason")
  have J : PySem.W.InstAt s1.heap a oe C (some od) := ⟨ha, hz.1, by unfold PySem.W.notCls; rw [hd] <;> rfl, by rw [hz.2]; exact ho⟩
  exact HandSPX.exc_get I1.kIn J T.ga T.gg T.exC (PySem.W.findObj_own T.hdC T.noN rfl (by rw [hl, hu])) (handed_of ru) ⟨v, H1, I1.tok _, ru, q⟩
end
end L2

namespace PySem
namespace FX_row
open PySem.W PySem.Calls PyProof.Rows PySem.HandSPX
/-! ### the text of __init__ -/
def iA (p1 p2 : Pos) : Arguments := { posonlyargs := [], args := [{ arg := "self", annotation := none, pos := p1 }, { arg := "row", annotation := none, pos := p2 }], vararg := none, kwonlyargs := [], kw_defaults := [], kwarg := none, defaults := [] }
def iB (q1 q2 q3 q4 : Pos) : List Stmt := [.Assign [.Attribute (.Name "self" q1) "row" q2] (.Name "row" q3) q4]
def iS : Scope := { kind := .function, names := [(PySem.Str.ofString "self", .local), (PySem.Str.ofString "row", .local)], isGenerator := false, isCoroutine := false, more := [] }
structure FxTxt (K : Frag) (mg : Str → Option Value) (cn cq : Str) (C fI : Addr) : Prop where
  gC : mg cn = some (.ref C)
  cls : ∃ nm q N bs bm sn sub ab col dd k0 k1 k2 k3 k5, K.lookup C = some (excClassObj nm q C N bs bm true sn sub ab col dd k0 k1 k2 k3 k5 "ValueError.__new__") ∧ refsVE bm = true
  sa : findIn K (.ref C) "__setattr__" = some (some (.builtin "object.__setattr__"))
  ga : findIn K (.ref C) "__getattribute__" = some (some (.builtin "BaseException.__getattribute__"))
  gg : findIn K (.ref C) "__getattr__" = some none
  noN : findIn K (.ref C) "row" = some none
  iC : findIn K (.ref C) "__init__" = some (some (.ref fI))
  tC : typeIn K (.ref fI) = some (.type "function")
  kC : keepIn K (.ref C) = true
  exC : subIn K (.ref C) (.type "BaseException") = some true
  tyC : typeIn K (.ref C) = some (.type "type")
  hdC : hasDictIn K C = true
  te : exmOne K (.ref C) (.ref C) = some true
  fn : ∃ (oc : Value) (od : Option Addr) (doc pm : Value) (an : Option Addr) (cdv ct : Value) (osl : Array (Option Value)) (p1 p2 q1 q2 q3 q4 : Pos),
    K.lookup fI = some ⟨oc, od, .func (fnOf "__init__" cq (iA p1 p2) (iB q1 q2 q3 q4) iS .none .none doc pm an cdv ct), osl⟩ ∧ codeIn K cdv cq = true
theorem one_size (v : Value) : [v].length ≤ sizeLine := by
  rw [sizeLine_eq]
  exact (by decide : 1 ≤ 16777216)
theorem kept_but {K : Frag} {h h' : Heap} {x : Addr} (X : K.In h) (hx : K.lookup x = none) (k : ∀ b o, b ≠ x → h.get? b = some o → h'.get? b = some o) : K.In h' := fun a o e =>
  k a o (fun z => by rw [z, hx] at e; cases e) (X a o e)
theorem ldC {M : Model} {s : Shared} {name : Str} {scope : Scope} {L a : Addr} {cd : Value} {m : Str → Option Value} {x : Str} {pos : Pos} {v : Value} {Q : Value → Shared → Prop} {A : Around} {E : Value → Shared → Prop} (hn : s.heap.Ns L m) (hv : m x = some v) (h : Q v s)
    (hk : scope.kind = .function := by rfl) (hl : (envOfC name scope L a cd).kindOf x = some .local := by rfl) (hd : (x == ("__debug__" : Str)) = false := by decide) :
    wpAny M A (eval (.Name x pos) (envOfC name scope L a cd)) Q E s := wpAny_Name (wpAny_loadName_local hk hl hn hv h) hd
structure InitEnd (h h' : Heap) (x C dx t1 : Addr) (v : Value) : Prop where
  keep : ∀ b o, b ≠ x → h.get? b = some o → h'.get? b = some o
  obj : h'.get? x = some { cls := .ref C, dict := some dx, data := .fields #[.ref t1, .none, .none, .none, .bool false, .none] }
  dbig : h.objs.size ≤ dx
  dne : dx ≠ x
  ns : h'.Ns1 dx (fun y => if y = "row" then some v else none)
structure OwnMade (h h' : Heap) (e C d : Addr) (v : Value) : Prop where
  keep : ∀ b o, h.get? b = some o → h'.get? b = some o
  new : h.objs.size ≤ e
  obj : ∃ oe vs, h'.get? e = some oe ∧ oe.cls = .ref C ∧ oe.dict = some d ∧ oe.data = .fields vs ∧ vs[1]? = some .none
  dbig : h.objs.size ≤ d
  dne : d ≠ e
  ns : h'.Ns1 d (fun y => if y = "row" then some v else none)
section
variable {prog : Program} {w : World} {A : Around} {E : Value → Shared → Prop} {R : Result → Shared → Prop} {s : Shared} {K : Frag} {mg : Str → Option Value} {cn cq : Str} {C fI : Addr}
theorem fx_init (T : FxTxt K mg cn cq C fI) {x t0 : Addr} {v : Value} (X : K.In s.heap) (hlim : s.heap.NoLimit) (hx : s.heap.get? x = some (excO C t0)) (hnx : K.lookup x = none) (hroom : A.depth < recursionLimit)
    (hq : ∀ h' tk dx, InitEnd s.heap h' x C dx t0 v → R (.ok (.ret .none)) { s with heap := h', toks := tk }) :
    codeAny (model prog w) A (.call (.ref fI) ⟨[.ref x, v], []⟩) R s := by
  obtain ⟨oc, od, doc, pm, an, cdv, ct, osl, p1, p2, q1, q2, q3, q4, ho, hcd⟩ := T.fn
  obtain ⟨nm, q, N, bs, bm, sn, sub, ab, col, dd, k0, k1, k2, k3, k5, hC, hbm⟩ := T.cls
  have hcl : clsIn K C = some { name := nm, bases := bs, mro := .ref C :: bm, ns := N, qualname := q, hasDict := true, slotNames := sn, subclasses := sub, abstract := ab, collection := col, hasDel := false } := by unfold clsIn; rw [hC] <;> rfl
  refine Att.call_fn (binds := [("self", .ref x), ("row", v)]) X hlim ho hcd hroom (BindsTo.of_eq (by first | rfl | with_unfolding_all rfl)) (by first | rfl | decide | with_unfolding_all rfl) (fun s₁ IC => ?_) rfl rfl rfl
  obtain ⟨h₁, tk₁, rfl⟩ := IC.toInCall.same
  have k : ∀ b o, s.heap.get? b = some o → h₁.get? b = some o := IC.toInCall.keep
  have hn := IC.toInCall.ns
  have hxL : s.heap.objs.size ≠ x := Nat.ne_of_gt (Heap.lt_size hx)
  have X₁ : K.In h₁ := X.keeps k
  have hx₁ := k _ _ hx
  -- self.by = by
  show wpAny _ _ (execs _ _) _ _ _
  refine wpAny_execs_cons (plainObj_wpAny_Assign_Attribute ?_)
  refine ldC (v := v) hn (by first | rfl | with_unfolding_all rfl | kernel_rfl) (ldC (v := .ref x) hn (by first | rfl | with_unfolding_all rfl | kernel_rfl) ?_)
  refine set_plain X₁ (ox := excO C t0) (od := none) ⟨hx₁, rfl, rfl, trivial⟩ T.sa ?_
  refine exc_osa X₁ hx₁ hcl (show refsVE (.ref C :: bm) = true from hbm) rfl T.noN (fun h₃ tk₃ dx k₃ dn dne hx₃ hn₃ => ?_)
  show wpAny _ _ (execs _ _) _ _ _
  have z : s.heap.objs.size < h₁.objs.size := hn.lt
  exact wpAny_execs_nil (hq h₃ tk₃ dx ⟨fun b o hb e => k₃ b o hb (k b o e), hx₃, Nat.le_of_lt (Nat.lt_of_lt_of_le z dn), dne, hn₃⟩)
theorem fx_made (T : FxTxt K mg cn cq C fI) {v : Value} (X : K.In s.heap) (hlim : s.heap.NoLimit) (hroom : A.depth + 1 < recursionLimit)
    (hq : ∀ h' tk e d, OwnMade s.heap h' e C d v → R (.ok (.ret (.ref e))) { s with heap := h', toks := tk }) :
    codeAny (model prog w) A (.call (.ref C) ⟨[v], []⟩) R s := by
  obtain ⟨nm, q, N, bs, bm, sn, sub, ab, col, dd, k0, k1, k2, k3, k5, hC, hbm⟩ := T.cls
  obtain ⟨hp, g, dr, tk, os⟩ := s
  have k : ∀ b o, hp.get? b = some o → ((hp.push (kdv_tup [v])).push (excO C hp.objs.size)).get? b = some o := fun b o e => Heap.get?_push_of_some _ (Heap.get?_push_of_some _ e)
  have hget : ((hp.push (kdv_tup [v])).push (excO C hp.objs.size)).get? (hp.objs.size + 1) = some (excO C hp.objs.size) := by heap_get
  have hnx : K.lookup (hp.objs.size + 1) = none := by
    cases e : K.lookup (hp.objs.size + 1) with
    | none => rfl
    | some o =>
      have z : hp.get? (hp.objs.size + 1) = some o := X _ _ e
      exact absurd (Nat.lt_of_succ_lt (Heap.lt_size z)) (Nat.lt_irrefl _)
  refine call_own F.excBase_ValueError (fun X => refsVE_contains X bm hbm) (X _ _ hC) (looks_findIn X T.iC) (fun self => bind_fn X self T.tC) (one_size v) ?_
  refine fx_init (s := ⟨(hp.push (kdv_tup [v])).push (excO C hp.objs.size), g, dr, tk, os⟩) T (X.keeps k) (hlim.keeps k) hget hnx ?_ fun h' tk' dx ⟨k', hx, dn, dne, hns⟩ => ?_
  · show A.depth + 1 < recursionLimit
    exact hroom
  · have old : ∀ b o, hp.get? b = some o → h'.get? b = some o := fun b o e => k' b o (Nat.ne_of_lt (Nat.lt_succ_of_lt (Heap.lt_size e))) (k b o e)
    have z : hp.objs.size + 1 + 1 ≤ dx := by
      first
        | (simpa only [Heap.size_push] using dn)
        | exact dn
        | (have q := dn; rw [Heap.size_push, Heap.size_push] at q; exact q)
    exact ⟨rfl, hq h' tk' (hp.objs.size + 1) dx ⟨old, Nat.le_succ _, ⟨_, _, hx, rfl, rfl, rfl, rfl⟩, Nat.le_trans (Nat.le_trans (Nat.le_succ _) (Nat.le_succ _)) z, dne, hns⟩⟩
end
end FX_row
end PySem
namespace L2
open PySem PySem.Spec PyProof.Rows
theorem relO_fx_row {v : V} {v' : Value} (r : RelV v v') (f : Str) : RelO (List.lookup f [(("row" : Str), v)]) (if f = "row" then some v' else none) := by
  by_cases hw : f = "row"
  · subst hw
    rw [if_pos rfl]
    have q : List.lookup ("row" : Str) [(("row" : Str), v)] = some v := by simp [List.lookup]
    rw [q]
    exact r
  · rw [if_neg hw]
    have qw : (f == ("row" : Str)) = false := by simpa using hw
    have q2 : List.lookup f [(("row" : Str), v)] = none := by simp [List.lookup, qw]
    rw [q2]
    trivial
section
variable {X : Cx} {cn cq : Str} {C fI : Addr}
def tMk_row (C : Addr) (ta : TA) : St → Hp → XK → Prop := fun σ H Q => ta σ H fun vs H1 => ∃ v, vs = [v] ∧ ∀ d, H1 d = none → Q (.ref C) (some d) (upd H1 d (.xd [(("row" : Str), v)]))
theorem pmk_row {a : Expr} {ta : TA} {p pos : Pos} {k : Nat} (T : PySem.FX_row.FxTxt X.K X.mg cn cq C fI) (hr : Room k X.A) (ha : PA X [a] ta) (hg : Gl X cn := by rfl) (hdb : (cn == ("__debug__" : Str)) = false := by decide)
    (he : starEach (a :: []) X.env = (false, eval a X.env) :: starEach [] X.env := by rfl) (hpl : (backTo pos (starEach [] X.env)).any (·.1) = false := by rfl) :
    PMk X (.Call (.Name cn p) [a] [] pos) (tMk_row C ta) := by
  intro pins s σ H Q I h
  refine wpAny_Call_Name_kw (ld_glob I hg T.gC ?_ hdb)
  refine PySem.W.callWith_K (h₀ := X.base) I.ok.mod.kin T.kC (thn (ha.run pos pins s σ H _ I h) fun us s1 hh => ?_) he hpl
  obtain ⟨vs, H1, I1, r1, v, ev, q1⟩ := hh
  subst ev
  refine ⟨I1.kIn, ?_⟩
  cases r1 with
  | cons rv rn =>
    rename_i v' us'
    cases rn
    show wpAny _ _ (call (.ref C) [v']) _ _ _
    have hlim := I1.nolimit
    obtain ⟨hp, g, dr, tk, os⟩ := s1
    refine wpAny_call (PySem.FX_row.fx_made T I1.kIn hlim (by have := hr.dp; omega) fun h' tk' e d M => ?_)
    show MkP X pins σ Q (.ref e) ⟨h', g, dr, tk', os⟩
    obtain ⟨oe, fv, hoe, hc, hd, hdat, h1⟩ := M.obj
    have hns := M.ns
    obtain ⟨G', g1, g2⟩ := restrict h' fun b => decide (b ≠ e)
    have gk : ∀ b, b ≠ e → G'.get? b = h'.get? b := fun b hb => g1 b (decide_eq_true hb)
    have ge : G'.get? e = none := g2 e (by simp)
    have old : ∀ b o, hp.get? b = some o → G'.get? b = some o := fun b o q => (gk b (Nat.ne_of_lt (Nat.lt_of_lt_of_le (Heap.lt_size q) M.new))).trans (M.keep b o q)
    have ob : ObjOk X.prog X.w (upd H1 d (.xd [(("row" : Str), v)])) G' d (.xd [(("row" : Str), v)]) :=
      ⟨_, hns.at (fun o q => (gk d M.dne).trans q), fun f => relO_fx_row rv f⟩
    have J : Inv X pins σ (upd H1 d (.xd [(("row" : Str), v)])) ⟨G', g, dr, tk', os⟩ := I1.laid (t' := tk') old M.dbig ob
    refine ⟨e, oe, fv, ⟨G', g, dr, tk', os⟩, _, .ref C, some d, rfl, J, fun b o q => ?_, ge, hoe, ⟨hc, hd⟩, hdat, h1, ?_, rfl, I1.bare, raises_own T.exC T.tyC, q1 d (I1.hok.fresh M.dbig)⟩
    · by_cases hb : b = e
      · have q' : G'.get? b = some o := q
        rw [hb, ge] at q'; cases q'
      · exact (gk b hb).symm.trans q
    · rw [upd_ne (Ne.symm M.dne)]
      exact I1.hok.fresh M.new
def tRaise_row (C : Addr) (W : WX) (ta : TA) : TS := fun _ σ H => tMk_row C ta σ H fun cls d H' => W cls d σ H'
theorem ps_raise_row {a : Expr} {ta : TA} {W : WX} {p pos pos2 : Pos} {k : Nat} (hc : X.calm = true) (T : PySem.FX_row.FxTxt X.K X.mg cn cq C fI) (hr : Room k X.A) (tk : Takes X W) (ha : PA X [a] ta) (hg : Gl X cn := by rfl) (hdb : (cn == ("__debug__" : Str)) = false := by decide)
    (he : starEach (a :: []) X.env = (false, eval a X.env) :: starEach [] X.env := by rfl) (hpl : (backTo pos (starEach [] X.env)).any (·.1) = false := by rfl) :
    PS X (.Raise (some (.Call (.Name cn p) [a] [] pos)) none pos2) (tRaise_row C W ta) := ps_raise hc tk (pmk_row T hr ha hg hdb he hpl)
def tBy_row (C : Addr) (a : Addr) (cls : Value) (d : Option Addr) (te : TE) : TE := fun σ H Q => te σ H fun x H1 => x = .ref a ∧ cls = .ref C ∧ ∃ (dd : Addr) (v : V), d = some dd ∧ H1 dd = some (.xd [(("row" : Str), v)]) ∧ Q v H1
theorem pe_by_row {a : Addr} {oe : Obj} {cls : Value} {d : Option Addr} {pn : List (Addr × Obj)} {e : Expr} {te : TE} {pos : Pos} (T : PySem.FX_row.FxTxt X.K X.mg cn cq C fI) (hz : Zc cls d oe) (hf : ∃ vs, oe.data = .fields vs) (he : PE (X.suite a ((a, oe) :: pn)) e te)
    (hb : attributeBase e "row" X.env (eval e X.env) = eval e X.env := by rfl) :
    PE (X.suite a ((a, oe) :: pn)) (.Attribute e "row" pos) (tBy_row C a cls d te) := by
  refine ⟨fun pins s σ H Q I h => ?_⟩
  refine attr_of hb (thn (he.run pins s σ H _ I h) fun u s1 hh => ?_)
  obtain ⟨x, H1, I1, rx, ex, ec, dd, v, ed, ea, q⟩ := hh
  subst ex
  obtain rfl : u = Value.ref a := rx
  subst ec
  subst ed
  obtain ⟨ha, _⟩ := I1.pin (a, oe) (List.mem_append_left _ List.mem_cons_self)
  obtain ⟨vs, hd⟩ := hf
  have hx : ObjOk X.prog X.w H1 s1.heap dd (.xd [(("row" : Str), v)]) := I1.hok dd _ ea
  obtain ⟨mA, hns, hr⟩ := hx
  obtain ⟨od, ho, hl⟩ := lookIn_ns hns
  have l : List.lookup ("row" : Str) [(("row" : Str), v)] = some v := by simp [List.lookup]
  obtain ⟨u, hu, ru⟩ := RelO.some_of (v := v) (o := mA "row") (by rw [← l]; exact hr "row")
  have J : PySem.W.InstAt s1.heap a oe C (some od) := ⟨ha, hz.1, by unfold PySem.W.notCls; rw [hd] <;> rfl, by rw [hz.2]; exact ho⟩
  exact HandSPX.exc_get I1.kIn J T.ga T.gg T.exC (PySem.W.findObj_own T.hdC T.noN rfl (by rw [hl, hu])) (handed_of ru) ⟨v, H1, I1.tok _, ru, q⟩
end
end L2


set_option Elab.async false
set_option linter.all false
set_option maxRecDepth 100000
set_option maxHeartbeats 2000000
namespace DL
open PySem PySem.Spec L2 PyProof.Rows
set_option autoImplicit false
/-- what a suite held is let go -/
def unS : Sl → Sl
  | .exv _ _ => .un
  | s => s
def unX (env : Ev) : Ev := env.map unS
theorem Rel.unX {K : PySem.W.Frag} {c : Dc} {O : List Addr} {H : Hp} {env : Ev} {σ : DL.St} (ax : Option (Addr × Value × Option Addr)) (r : Rel K c O H env σ) : Rel K { c with ax := ax } O H (DL.unX env) σ := by
  refine ⟨r.same, r.sub, r.dom0, r.dom, r.new, by unfold DL.unX; rw [List.length_map]; exact r.len, fun i s e => ?_, fun i j ds es p ei ej si sj => ?_, r.exs⟩
  · unfold DL.unX at e
    rw [List.getElem?_map] at e
    obtain ⟨s', h1, rfl⟩ := Option.map_eq_some_iff.mp e
    have z := r.slots i s' h1
    cases s' with
    | un => trivial
    | exv _ _ => trivial
    | dat d => exact z
    | own w => exact z
    | obj n fs => exact z
  · have key : ∀ {k : Nat} {w : Ow}, (DL.unX env)[k]? = some (.own w) → env[k]? = some (.own w) := by
      intro k w e
      unfold DL.unX at e
      rw [List.getElem?_map] at e
      obtain ⟨s', h1, h2⟩ := Option.map_eq_some_iff.mp e
      cases s' <;> first | (cases h2; done) | skip
      cases h2
      exact h1
    exact r.inj i j ds es p (key ei) (key ej) si sj
/-- slot i's exception has the field f -/
def dField (i : Nat) (n f : Str) : DE := fun env => match env[i]? with
  | some (.exv m [(g, x)]) => if m = n ∧ g = f then .ok x else .error .stuck
  | _ => .error .stuck
/-- behind a suite -/
def endX (i : Nat) : Fl → Fl
  | .nx e => .nx ((unX e).set i .un)
  | .bk e => .bk ((unX e).set i .un)
  | .ct e => .ct ((unX e).set i .un)
  | .rt d => .rt d
  | .ex _ _ _ => .stuck
  | .stuck => .stuck
/-- try: b, except X as x: h -/
def dTryAs (i : Nat) (b : DS) (sub : Str → Option Bool) (h : DS) : DS := fun env => match b env with
  | .ex e n fs => match sub n with
    | some true => endX i (h ((unX e).set i (.exv n fs)))
    | some false => .ex e n fs
    | none => .stuck
  | r => r
section
variable {X : Cx} {c : Dc} {D : Ends} {O O1 : List Addr} {σ : DL.St} {H H1 : Hp} {a b e : Expr} {es : List Expr} {pos : Pos} {fa fb fc f : DE} {env : Ev}
theorem Rel.putExv {i : Nat} {a : Addr} {cls : Value} {d : Option Addr} {C : Addr} {n : Str} {fs : List (Str × PyData)} {K : PySem.W.Frag} (r : Rel K c O H env σ) (hax : c.ax = some (a, cls, d)) (hm : c.mg n = some (.ref C)) (hc : cls = .ref C) (hf : ExFs K O H d fs) : Rel K c O H (env.set i (.exv n fs)) (σ.set i (some (.ref a))) := by
  refine ⟨r.same, r.sub, r.dom0, r.dom, r.new, by rw [List.length_set, List.length_set]; exact r.len, fun j s e => ?_, fun k l ds es p ea eb sa sb => ?_, r.exs⟩
  · by_cases hj : i = j
    · subst hj
      by_cases hi : i < env.length
      · rw [List.getElem?_set_self hi] at e; cases e
        exact ⟨a, cls, d, C, hax, by rw [List.getElem?_set_self (by rw [← r.len]; exact hi)], hm, hc, hf⟩
      · rw [List.getElem?_eq_none (by rw [List.length_set]; omega)] at e; cases e
    · rw [List.getElem?_set_ne hj] at e ⊢
      exact r.slots j s e
  · have ne : ∀ {m : Nat} {w : Ow}, (env.set i (.exv n fs))[m]? = some (.own w) → i ≠ m := by
      rintro m w e rfl
      by_cases hi : i < env.length
      · rw [List.getElem?_set_self hi] at e; cases e
      · rw [List.getElem?_eq_none (by rw [List.length_set]; omega)] at e; cases e
    have h1 := ne ea
    have h2 := ne eb
    rw [List.getElem?_set_ne h1] at ea sa
    rw [List.getElem?_set_ne h2] at eb sb
    exact r.inj k l ds es p ea eb sa sb
theorem ExcR.fs {mg : Str → Option Value} {K : PySem.W.Frag} {n : Str} {fs : List (Str × PyData)} {cls : Value} {dd : Option Addr} (m : ∀ a ∈ O, Mut (H a)) (h : ExcR mg K O H n fs cls dd) : ∃ C, mg n = some (.ref C) ∧ cls = .ref C ∧ ExFs K O H dd fs := by
  obtain ⟨C, h1, h2, h3⟩ := h
  refine ⟨C, h1, h2, ?_⟩
  cases fs with
  | nil => trivial
  | cons q r =>
    cases r with
    | cons _ _ => exact h3
    | nil =>
      obtain ⟨p, v, a1, a2, a3⟩ := h3
      refine ⟨p, v, a1, fun z => ?_, a2, a3⟩
      have mm := m _ z
      rw [a2] at mm
      exact mm
theorem Out.ax {fl : Fl} {i : Nat} {ax : Option (Addr × Value × Option Addr)} {D' : Ends} (h : Out X c D O H (endX i fl)) (hr : D'.rt = D.rt) (h1 : D'.nx = fun σ H => D.nx (σ.set i none) H) (h2 : D'.bk = fun σ H => D.bk (σ.set i none) H) (h3 : D'.ct = fun σ H => D.ct (σ.set i none) H) : Out X { c with ax := ax } D' O H fl := by
  have conv : ∀ {O H env σ}, Rel X.K { c with ax := ax } O H env σ → Rel X.K c O H ((unX env).set i .un) (σ.set i none) := fun r => (r.unX c.ax).wipe1 none
  cases fl with
  | nx e => intro O' σ' H' k rel; rw [h1]; exact h O' _ H' k (conv rel)
  | bk e => intro O' σ' H' k rel; rw [h2]; exact h O' _ H' k (conv rel)
  | ct e => intro O' σ' H' k rel; rw [h3]; exact h O' _ H' k (conv rel)
  | rt d => intro v H' s hv; rw [hr]; exact h v H' s hv
  | ex e n fs => exact h.elim
  | stuck => exact h.elim
theorem s_tryAs {x n : Str} {cv : Value} {i : Nat} {body suite : List Stmt} {b₀ : Stmt} {np pos pos' : Pos} {b : DS} {sub : Str → Option Bool} {h : DS} {X : Cx} {c : Dc}
    (h1 : X.stack = X.env :: X.outer) (h2 : X.env.frame = some X.env.locals) (hN : X.N.Nodup) (hmg : c.mg = X.mg) (hc : Names X x cv) (tk : Takes X c.W)
    (hb : ∀ (W : WX) (pn : List (Addr × Obj)) (xe : Value → Shared → Prop), Takes (X.tr pn xe) W → PassesOwn (model X.prog X.w) X.A X.env xe → SSs (X.tr pn xe) { c with W := W } body b)
    (hsu : ∀ (a : Addr) (oe : Obj) (cls : Value) (d : Option Addr) (pn : List (Addr × Obj)), Zc cls d oe → (∃ vs, oe.data = .fields vs) → SSs (X.suite a ((a, oe) :: pn)) { c with ax := some (a, cls, d) } (b₀ :: suite) h)
    (hx : ∀ (n : Str) (k : Bool) (C : Addr), sub n = some k → X.mg n = some (.ref C) → PySem.W.exmOne X.K (.ref C) cv = some k)
    (hi : X.N[i]? = some n := by rfl) (hln : X.env.kindOf n = some .local := by rfl) :
    SS X c (.Try body [.ExceptHandler (some (.Name x np)) (some n) (b₀ :: suite) pos'] [] [] pos) (dTryAs i b sub h) := by
  refine PS.imp (ps_try_as (i := i) (tb := fun W => rdS X { c with W := W } b) (ts := fun a cls d => rdS X { c with ax := some (a, cls, d) } h) h1 h2 hN hi hln hc tk (fun W pn xe tk1 hp1 => hb W pn xe tk1 hp1) (fun a oe cls d pn hz hf => hsu a oe cls d pn hz hf)) fun D σ H q => ?_
  obtain ⟨O, env, rel, q⟩ := q
  have conv : ∀ {W O H env σ}, Rel X.K { c with W := W } O H env σ → Rel X.K c O H env σ := fun r => ⟨r.same, r.sub, r.dom0, r.dom, r.new, r.len, r.slots, r.inj, r.exs⟩
  refine ⟨O, env, ⟨rel.same, rel.sub, rel.dom0, rel.dom, rel.new, rel.len, rel.slots, rel.inj, rel.exs⟩, ?_⟩
  unfold dTryAs at q
  cases r : b env with
  | nx e => rw [r] at q; exact fun O' σ' H' k rel' => q O' σ' H' k (conv rel')
  | bk e => rw [r] at q; exact fun O' σ' H' k rel' => q O' σ' H' k (conv rel')
  | ct e => rw [r] at q; exact fun O' σ' H' k rel' => q O' σ' H' k (conv rel')
  | rt d => rw [r] at q; exact q
  | stuck => rw [r] at q; exact q
  | ex e nm fs =>
    rw [r] at q
    intro O' σ' H' cls dd k rel' hx'
    obtain ⟨C, gC, hcls, hf⟩ := hx'.fs rel'.dom
    dsimp only at q
    cases sn : sub nm with
    | none => rw [sn] at q; exact q.elim
    | some kb =>
      rw [sn] at q
      refine ⟨kb, by rw [hcls]; exact hx nm kb C sn gC, fun hk a na => ?_, fun hk => ?_⟩
      · subst hk
        have rel2 := (conv rel').unX (some (a, cls, dd))
        have rel3 := rel2.putExv (i := i) (a := a) (cls := cls) (d := dd) (C := C) (n := nm) (fs := fs) rfl (by show c.mg nm = _; rw [hmg]; exact gC) hcls hf
        exact ⟨O', _, rel3, Out.ax (Out.mono k q) rfl rfl rfl rfl⟩
      · subst hk
        exact q O' σ' H' cls dd k (conv rel') hx'

theorem s_raise_place {a : Expr} {cn cq : Str} {f : DE} {p pos pos2 : Pos} {k : Nat} (hc : X.calm = true) (T : ∃ C fI, PySem.FX_place.FxTxt X.K X.mg cn cq C fI) (hr : Room k X.A) (tk : Takes X c.W) (ha : EE X c a f) (hg : Gl X cn := by rfl) (hdb : (cn == ("__debug__" : Str)) = false := by decide)
    (he : starEach (a :: []) X.env = (false, eval a X.env) :: starEach [] X.env := by rfl) (hpl : (backTo pos (starEach [] X.env)).any (·.1) = false := by rfl) :
    SS X c (.Raise (some (.Call (.Name cn p) [a] [] pos)) none pos2) (dRaise1 cn "place" f) := by
  obtain ⟨C, fI, T⟩ := T
  exact s_raise1 T.gC (ps_raise_place hc T hr tk (pa_cons ha pa_nil he) hg hdb he hpl)
theorem e_by_place (i : Nat) {x cn cq : Str} {a0 : Addr} {oe : Obj} {cls : Value} {d : Option Addr} {pn : List (Addr × Obj)} {p : Pos} {c : Dc} (T : ∃ C fI, PySem.FX_place.FxTxt X.K X.mg cn cq C fI) (hz : Zc cls d oe) (hf : ∃ vs, oe.data = .fields vs) (hax : c.ax = some (a0, cls, d)) (hmg : c.mg = X.mg)
    (hN : (X.suite a0 ((a0, oe) :: pn)).N[i]? = some x := by rfl) (hv : Vis (X.suite a0 ((a0, oe) :: pn)).env.scope x := by first | exact Or.inl rfl | exact Or.inr (Or.inl rfl) | exact Or.inr (Or.inr rfl)) (hd : (x == ("__debug__" : Str)) = false := by decide)
    (hcd : (x == ("__classdict__" : Str)) = false := by decide) (hb : attributeBase (.Name x p) "place" X.env (eval (.Name x p) X.env) = eval (.Name x p) X.env := by rfl) : EE (X.suite a0 ((a0, oe) :: pn)) c (.Attribute (.Name x p) "place" pos) (dField i cn "place") := by
  obtain ⟨C, fI, T⟩ := T
  refine PE.imp (pe_by_place T hz hf (pe_var hN hv hd hcd) hb) fun σ H Q ⟨O, env, r, q⟩ => ?_
  unfold dField at q
  split at q
  · rename_i m f y e
    split at q
    · rename_i hm
      obtain ⟨rfl, rfl⟩ := hm
      obtain ⟨a1, cls1, d1, C1, g1, g2, g3, g4, g5⟩ := r.slots i _ e
      rw [hax] at g1
      cases g1
      rw [hmg, T.gC] at g3
      cases g3
      obtain ⟨p', v, k1, k2, k3, k4⟩ := g5
      exact ⟨_, g2, rfl, g4, p', v, k1, k3, q.ok v H (Same.refl H) k4⟩
    · exact q.elim
  · exact q.elim

theorem s_raise_reason {a : Expr} {cn cq : Str} {f : DE} {p pos pos2 : Pos} {k : Nat} (hc : X.calm = true) (T : ∃ C fI, PySem.FX_reason.FxTxt X.K X.mg cn cq C fI) (hr : Room k X.A) (tk : Takes X c.W) (ha : EE X c a f) (hg : Gl X cn := by rfl) (hdb : (cn == ("__debug__" : Str)) = false := by decide)
    (he : starEach (a :: []) X.env = (false, eval a X.env) :: starEach [] X.env := by rfl) (hpl : (backTo pos (starEach [] X.env)).any (·.1) = false := by rfl) :
    SS X c (.Raise (some (.Call (.Name cn p) [a] [] pos)) none pos2) (dRaise1 cn "reason" f) := by
  obtain ⟨C, fI, T⟩ := T
  exact s_raise1 T.gC (ps_raise_reason hc T hr tk (pa_cons ha pa_nil he) hg hdb he hpl)
theorem e_by_reason (i : Nat) {x cn cq : Str} {a0 : Addr} {oe : Obj} {cls : Value} {d : Option Addr} {pn : List (Addr × Obj)} {p : Pos} {c : Dc} (T : ∃ C fI, PySem.FX_reason.FxTxt X.K X.mg cn cq C fI) (hz : Zc cls d oe) (hf : ∃ vs, oe.data = .fields vs) (hax : c.ax = some (a0, cls, d)) (hmg : c.mg = X.mg)
    (hN : (X.suite a0 ((a0, oe) :: pn)).N[i]? = some x := by rfl) (hv : Vis (X.suite a0 ((a0, oe) :: pn)).env.scope x := by first | exact Or.inl rfl | exact Or.inr (Or.inl rfl) | exact Or.inr (Or.inr rfl)) (hd : (x == ("__debug__" : Str)) = false := by decide)
    (hcd : (x == ("__classdict__" : Str)) = false := by decide) (hb : attributeBase (.Name x p) "reason" X.env (eval (.Name x p) X.env) = eval (.Name x p) X.env := by rfl) : EE (X.suite a0 ((a0, oe) :: pn)) c (.Attribute (.Name x p) "reason" pos) (dField i cn "reason") := by
  obtain ⟨C, fI, T⟩ := T
  refine PE.imp (pe_by_reason T hz hf (pe_var hN hv hd hcd) hb) fun σ H Q ⟨O, env, r, q⟩ => ?_
  unfold dField at q
  split at q
  · rename_i m f y e
    split at q
    · rename_i hm
      obtain ⟨rfl, rfl⟩ := hm
      obtain ⟨a1, cls1, d1, C1, g1, g2, g3, g4, g5⟩ := r.slots i _ e
      rw [hax] at g1
      cases g1
      rw [hmg, T.gC] at g3
      cases g3
      obtain ⟨p', v, k1, k2, k3, k4⟩ := g5
      exact ⟨_, g2, rfl, g4, p', v, k1, k3, q.ok v H (Same.refl H) k4⟩
    · exact q.elim
  · exact q.elim

theorem s_raise_row {a : Expr} {cn cq : Str} {f : DE} {p pos pos2 : Pos} {k : Nat} (hc : X.calm = true) (T : ∃ C fI, PySem.FX_row.FxTxt X.K X.mg cn cq C fI) (hr : Room k X.A) (tk : Takes X c.W) (ha : EE X c a f) (hg : Gl X cn := by rfl) (hdb : (cn == ("__debug__" : Str)) = false := by decide)
    (he : starEach (a :: []) X.env = (false, eval a X.env) :: starEach [] X.env := by rfl) (hpl : (backTo pos (starEach [] X.env)).any (·.1) = false := by rfl) :
    SS X c (.Raise (some (.Call (.Name cn p) [a] [] pos)) none pos2) (dRaise1 cn "row" f) := by
  obtain ⟨C, fI, T⟩ := T
  exact s_raise1 T.gC (ps_raise_row hc T hr tk (pa_cons ha pa_nil he) hg hdb he hpl)
theorem e_by_row (i : Nat) {x cn cq : Str} {a0 : Addr} {oe : Obj} {cls : Value} {d : Option Addr} {pn : List (Addr × Obj)} {p : Pos} {c : Dc} (T : ∃ C fI, PySem.FX_row.FxTxt X.K X.mg cn cq C fI) (hz : Zc cls d oe) (hf : ∃ vs, oe.data = .fields vs) (hax : c.ax = some (a0, cls, d)) (hmg : c.mg = X.mg)
    (hN : (X.suite a0 ((a0, oe) :: pn)).N[i]? = some x := by rfl) (hv : Vis (X.suite a0 ((a0, oe) :: pn)).env.scope x := by first | exact Or.inl rfl | exact Or.inr (Or.inl rfl) | exact Or.inr (Or.inr rfl)) (hd : (x == ("__debug__" : Str)) = false := by decide)
    (hcd : (x == ("__classdict__" : Str)) = false := by decide) (hb : attributeBase (.Name x p) "row" X.env (eval (.Name x p) X.env) = eval (.Name x p) X.env := by rfl) : EE (X.suite a0 ((a0, oe) :: pn)) c (.Attribute (.Name x p) "row" pos) (dField i cn "row") := by
  obtain ⟨C, fI, T⟩ := T
  refine PE.imp (pe_by_row T hz hf (pe_var hN hv hd hcd) hb) fun σ H Q ⟨O, env, r, q⟩ => ?_
  unfold dField at q
  split at q
  · rename_i m f y e
    split at q
    · rename_i hm
      obtain ⟨rfl, rfl⟩ := hm
      obtain ⟨a1, cls1, d1, C1, g1, g2, g3, g4, g5⟩ := r.slots i _ e
      rw [hax] at g1
      cases g1
      rw [hmg, T.gC] at g3
      cases g3
      obtain ⟨p', v, k1, k2, k3, k4⟩ := g5
      exact ⟨_, g2, rfl, g4, p', v, k1, k3, q.ok v H (Same.refl H) k4⟩
    · exact q.elim
  · exact q.elim
end
end DL

set_option Elab.async false
set_option linter.all false
set_option maxRecDepth 100000
set_option maxHeartbeats 2000000
namespace DL
open PySem PySem.Spec L2 PyProof.Rows
set_option autoImplicit false
/-! ### instances of an own class whose attributes nobody changes -/
theorem Fds.look {K : PySem.W.Frag} {H : Hp} {f : Str} {d : PyData} : ∀ {vs : List (Str × V)} {fs : List (Str × PyData)}, Fds K H vs fs → fs.lookup f = some d → ∃ v, vs.lookup f = some v ∧ Dv K H v d
  | _, _, .nil, h => by cases h
  | _, _, @Fds.cons _ _ g v vs x fs hv t, h => by
    rw [List.lookup_cons] at h ⊢
    split at h
    · cases h; exact ⟨v, rfl, hv⟩
    · exact t.look h
theorem Fds.none {K : PySem.W.Frag} {H : Hp} {f : Str} : ∀ {vs : List (Str × V)} {fs : List (Str × PyData)}, Fds K H vs fs → fs.lookup f = .none → vs.lookup f = .none
  | _, _, .nil, _ => rfl
  | _, _, @Fds.cons _ _ g v vs x fs hv t, h => by
    rw [List.lookup_cons] at h ⊢
    split at h
    · cases h
    · exact t.none h
/-- the promise of a method -/
def spO (K : PySem.W.Frag) (mg : Str → Option Value) (cn : Str) (n : Nat) (m : List (Str × PyData) → List PyData → R PyData) : Sp := fun vs H Q E => ∃ (O : List Addr) (p C dx : Addr) (fv : List (Str × V)) (fs : List (Str × PyData)) (ws : List V) (ds : List PyData), (∀ a ∈ O, Mut (H a)) ∧ vs = .ref p :: ws ∧ mg cn = some (.ref C) ∧ p ∉ O ∧ H p = some (.ins C dx fv) ∧ Fds K (hide O H) fv fs ∧ Dvs K (hide O H) ws ds ∧ ds.length = n ∧
  match m fs ds with
  | .ok d => ∀ v H', Same H H' → Dv K (hide O H') v d → Q v H'
  | .error _ => False
def startO (k : Nat) (cn : Str) (fs : List (Str × PyData)) (ds : List PyData) : Ev := .obj cn fs :: startD (k - 1) ds
def runO (k : Nat) (cn : Str) (g : DS) (fs : List (Str × PyData)) (ds : List PyData) : R PyData := outR (g (startO k cn fs ds))
theorem rel_startO {K : PySem.W.Frag} {mg : Str → Option Value} {H : Hp} {O : List Addr} {E : XK} {cn x : Str} {N : List Str} {p C dx : Addr} {fv : List (Str × V)} {fs : List (Str × PyData)} {vs : List V} {ds : List PyData} (m : ∀ a ∈ O, Mut (H a)) (g : mg cn = some (.ref C)) (hp : p ∉ O) (h1 : H p = some (.ins C dx fv)) (hf : Fds K (hide O H) fv fs) (h : Dvs K (hide O H) vs ds) :
    Rel K (cD mg H O E) O H (startO (x :: N).length cn fs ds) (L2.start (x :: N) (.ref p :: vs)) := by
  have r := rel_start (E := E) (N := N) (mg := mg) m h
  have e : L2.start (x :: N) (.ref p :: vs) = some (.ref p) :: L2.start N vs := by
    unfold L2.start
    simp
  rw [e]
  refine ⟨r.same, r.sub, r.dom0, r.dom, r.new, ?_, fun i s ei => ?_, fun i j a b q ei ej si sj => ?_, r.exs⟩
  · show (startD (N.length + 1 - 1) ds).length + 1 = (L2.start N vs).length + 1
    rw [← r.len]; rfl
  · cases i with
    | zero =>
      cases ei
      exact ⟨C, p, dx, fv, g, rfl, hp, h1, hf⟩
    | succ i => exact r.slots i s ei
  · cases i with
    | zero => cases ei
    | succ i =>
      cases j with
      | zero => cases ej
      | succ j => rw [r.inj i j a b q ei ej si sj]
section
variable {P : Program} {w : World} {K : PySem.W.Frag} {mg : Str → Option Value} {base : Heap}
theorem body_okO {X : Cx} {H : Hp} {E : XK} {cn x : Str} {N : List Str} {vs : List V} {n : Nat} {m : List (Str × PyData) → List PyData → R PyData} {g : DS} {Q : VK} (hX : X.K = K) (hmg : X.mg = mg)
    (hm : ∀ fs ds, ds.length = n → (∃ d, m fs ds = .ok d) → runO (x :: N).length cn g fs ds = m fs ds) (h : spO K mg cn n m vs H Q E) : ∃ O, (∀ a ∈ O, Mut (H a)) ∧ rdS X (cD mg H O E) g { nx := fun _ H' => Q .non H', rt := Q } (L2.start (x :: N) vs) H := by
  subst hX hmg
  obtain ⟨O, p, C, dx, fv, fs, ws, ds, m1, rfl, gC, hp, h1, hf, hd, hl, q⟩ := h
  refine ⟨O, m1, O, _, rel_startO m1 gC hp h1 hf hd, ?_⟩
  have ho : ∃ d, m fs ds = .ok d := by
    cases r : m fs ds with
    | ok d => exact ⟨d, rfl⟩
    | error e => rw [r] at q; exact q.elim
  have hr := hm fs ds hl ho
  unfold runO at hr
  rw [← hr] at q
  cases r : g (startO (x :: N).length cn fs ds) with
  | nx e =>
    rw [r] at q
    exact fun O' σ' H' k rel => (show ∀ v H', Same H H' → Dv X.K (hide O H') v .none → Q v H' from q) .non H' rel.same .non
  | rt d =>
    rw [r] at q
    exact fun v H' s hv => (show ∀ v H', Same H H' → Dv X.K (hide O H') v d → Q v H' from q) v H' s hv
  | bk e => rw [r] at q; exact q.elim
  | ct e => rw [r] at q; exact q.elim
  | stuck => rw [r] at q; exact q.elim
  | ex ee nm fs => rw [r] at q; exact q.elim
theorem def_okO {x cn qual self : Str} {st : Stmt} {f : Addr} {fd : FuncData} {N ps : List Str} {k n : Nat} {m : List (Str × PyData) → List PyData → R PyData} {g : DS} (F : Fun K x qual st f fd) (S : FnScope (self :: N) ps (defScope st)) (hps : ps.length = n + 1)
    (hm : ∀ fs ds, ds.length = n → (∃ d, m fs ds = .ok d) → runO (self :: N).length cn g fs ds = m fs ds)
    (body : ∀ (cdv : Value) (A : Around) (outer : List Env) (s : Shared) (H : Hp) (O : List Addr) (E : XK), Room k (A.deeper (envOfC qual (defScope st) s.heap.objs.size f cdv)) →
      Takes (cxD P w K mg base (self :: N) qual (defScope st) f cdv A outer s H E) (cD mg H O E).W → PassesOwn (model P w) (A.deeper (envOfC qual (defScope st) s.heap.objs.size f cdv)) (cxD P w K mg base (self :: N) qual (defScope st) f cdv A outer s H E).env (cxD P w K mg base (self :: N) qual (defScope st) f cdv A outer s H E).xe →
      SSs (cxD P w K mg base (self :: N) qual (defScope st) f cdv A outer s H E) (cD mg H O E) (defBody st) g) : FnOk P w K mg base (L2.CX P w) (k + 1) f fd ps (spO K mg cn n m) := by
  refine F.okX S (fun vs H Q E h => ?_) (fun cdv A outer s H vs Q E hr h => ?_)
  · obtain ⟨O, p, C, dx, fv, fs, ws, ds, _, rfl, _, _, _, _, hd, hl, _⟩ := h
    rw [hps, List.length_cons, hd.length, hl]
  · obtain ⟨O, m1, q⟩ := body_okO (X := cxD P w K mg base (self :: N) qual (defScope st) f cdv A outer s H E) rfl rfl hm h
    exact ⟨_, body cdv A outer s H O E hr (takes_of rfl rfl rfl rfl) (passes_of rfl), q⟩
/-- a method that is called never -/
theorem def_okO0 {x cn qual self : Str} {st : Stmt} {f : Addr} {fd : FuncData} {N ps : List Str} {k n : Nat} (F : Fun K x qual st f fd) (S : FnScope (self :: N) ps (defScope st)) (hps : ps.length = n + 1) : FnOk P w K mg base (L2.CX P w) k f fd ps (spO K mg cn n fun _ _ => .error .stuck) := by
  have no : ∀ vs H Q E, ¬ spO K mg cn n (fun _ _ => .error .stuck) vs H Q E := fun vs H Q E h => by
    obtain ⟨O, p, C, dx, fv, fs, ws, ds, _, rfl, _, _, _, _, hd, hl, q⟩ := h
    exact q
  exact ⟨fun vs H Q E h => (no vs H Q E h).elim, fun A outer s H args us vs Q E _ _ _ _ h => (no vs H Q E h).elim⟩
/-- a def that is called never -/
theorem def_ok0 {f : Addr} {fd : FuncData} {ps : List Str} {k n : Nat} : FnOk P w K mg base (L2.CX P w) k f fd ps (spM K mg n fun _ => .error .stuck) := by
  have no : ∀ vs H Q E, ¬ spM K mg n (fun _ => .error .stuck) vs H Q E := fun vs H Q E h => by
    obtain ⟨O, ds, _, _, q⟩ := h
    have e : callN n (fun _ => .error .stuck) ds = .error .stuck := by unfold callN; split <;> rfl
    rw [e] at q; exact q
  exact ⟨fun vs H Q E h => (no vs H Q E h).elim, fun A outer s H args us vs Q E _ _ _ _ h => (no vs H Q E h).elim⟩
end
/-- an own class: what is read of it -/
structure ObT (K : PySem.W.Frag) (mg : Str → Option Value) (cn : Str) : Prop where
  g : mg cn = some (.ref (cOf mg cn))
  cl : Cls K (cOf mg cn)
/-- a method that may be called, told once -/
def DefO (P : Program) (w : World) (K : PySem.W.Frag) (mg : Str → Option Value) (base : Heap) (cn x : Str) (n : Nat) (m : List (Str × PyData) → List PyData → R PyData) (k : Nat) : Prop :=
  ∃ (f : Addr) (fd : FuncData) (ps : List Str), FnOk P w K mg base (L2.CX P w) k f fd ps (spO K mg cn n m) ∧ Meth K (cOf mg cn) x f ∧ Binds K fd ps []
def CalO (P : Program) (w : World) (K : PySem.W.Frag) (mg : Str → Option Value) (base : Heap) (A : Around) (cn x : Str) (n : Nat) (m : List (Str × PyData) → List PyData → R PyData) : Prop :=
  ∃ (k : Nat) (f : Addr) (fd : FuncData) (ps : List Str), FnOk P w K mg base (L2.CX P w) k f fd ps (spO K mg cn n m) ∧ Room k A ∧ Meth K (cOf mg cn) x f ∧ Binds K fd ps []
theorem DefO.cal {P : Program} {w : World} {K : PySem.W.Frag} {mg : Str → Option Value} {base : Heap} {cn x : Str} {n : Nat} {m : List (Str × PyData) → List PyData → R PyData} {k k' : Nat} {A : Around} (d : DefO P w K mg base cn x n m k) (hr : Room k' A) (h : k ≤ k') : CalO P w K mg base A cn x n m := by
  obtain ⟨f, fd, ps, F, hm, hb⟩ := d
  exact ⟨k, f, fd, ps, F, hr.mono h, hm, hb⟩
def dFld (i : Nat) (n f : Str) : DE := fun env => match env[i]? with
  | some (.obj m fs) => if m = n then lift (fs.lookup f) else .error .stuck
  | _ => .error .stuck
def okOnly : R PyData → R PyData
  | .ok d => .ok d
  | .error _ => .error .stuck
def dMethO (i : Nat) (cn x : Str) (n : Nat) (m : List (Str × PyData) → List PyData → R PyData) (args : DA) : DE := fun env => match env[i]? with
  | some (.obj k fs) => if k = cn ∧ fs.lookup x = none then do
      let ds ← args env
      if ds.length = n then okOnly (m fs ds) else .error .stuck
    else .error .stuck
  | _ => .error .stuck
/-- C(e).x() -/
def dNewM (fld x : Str) (m : List (Str × PyData) → List PyData → R PyData) (f : DE) : DE := fun env => do
  let d ← f env
  okOnly (m [(fld, d)] [])
/-- what __init__ of one attribute promises -/
def spInit1 (C : Addr) (fld : Str) : Sp := fun vs H Q _ => ∃ (p dx : Addr) (v : V), vs = [.ref p, v] ∧ H p = some (.ins C dx []) ∧ Q .non (upd H p (.ins C dx [(fld, v)]))
section
variable {X : Cx} {c : Dc} {D : Ends} {O O1 : List Addr} {σ : DL.St} {H H1 : Hp} {a b e : Expr} {es : List Expr} {pos : Pos} {fa fb fc f : DE} {env : Ev}
theorem e_fldO (i : Nat) {x cn fn : Str} {p : Pos} (T : ObT X.K X.mg cn) (hna : NoAttr X.K (cOf X.mg cn) fn) (hmg : c.mg = X.mg) (hN : X.N[i]? = some x := by rfl) (hv : Vis X.env.scope x := by first | exact Or.inl rfl | exact Or.inr (Or.inl rfl) | exact Or.inr (Or.inr rfl)) (hd : (x == ("__debug__" : Str)) = false := by decide)
    (hcd : (x == ("__classdict__" : Str)) = false := by decide) (hb : attributeBase (.Name x p) fn X.env (eval (.Name x p) X.env) = eval (.Name x p) X.env := by rfl) : EE X c (.Attribute (.Name x p) fn pos) (dFld i cn fn) := PE.imp (pe_fld (pe_var hN hv hd hcd) hb) fun σ H Q ⟨O, env, r, q⟩ => by
  unfold dFld at q
  split at q
  · rename_i m fs em
    split at q
    · rename_i hm
      subst hm
      obtain ⟨C, p, dx, vs, h1, h2, h3, h4, h5⟩ := r.slots i _ em
      obtain ⟨d, hd, q2⟩ := q.lift
      obtain ⟨v, k1, k2⟩ := h5.look hd
      rw [hmg, T.g] at h1
      cases h1
      exact ⟨_, h2, p, _, dx, vs, v, rfl, h4, T.cl, hna, k1, q2 v H (Same.refl H) k2⟩
    · exact q.elim
  · exact q.elim
theorem passO {X : Cx} : Passes (L2.CX X.prog X.w) X E0 := fun _ _ _ _ _ _ _ ⟨_, _, _, _, _, _, _, _, _, _, _, _, z⟩ => z.elim
theorem okOnly_res {r : R PyData} {k : PyData → Prop} (h : Res X c O σ H (okOnly r) k) : ∃ d, r = .ok d ∧ k d := by
  cases r with
  | ok d => exact ⟨d, rfl, h⟩
  | error e => exact h.elim
theorem e_methO (i : Nat) {x cn mn : Str} {p apos : Pos} {pl : Sem Bool} {n : Nat} {m : List (Str × PyData) → List PyData → R PyData} {args : DA} (T : ObT X.K X.mg cn) (C0 : CalO X.prog X.w X.K X.mg X.base X.A cn mn n m) (hmg : c.mg = X.mg) (ha : EA X c (e :: es) args)
    (hN : X.N[i]? = some x := by rfl) (hv : Vis X.env.scope x := by first | exact Or.inl rfl | exact Or.inr (Or.inl rfl) | exact Or.inr (Or.inr rfl)) (hd : (x == ("__debug__" : Str)) = false := by decide)
    (hcd : (x == ("__classdict__" : Str)) = false := by decide)
    (hst : starEach (e :: es) X.env = (false, eval e X.env) :: starEach es X.env := by rfl) (hpl : (backTo pos (starEach es X.env)).any (·.1) = false := by rfl)
    (ht : eval (.Call (.Attribute (.Name x p) mn apos) (e :: es) [] pos) X.env = (do
      let ov ← eval (.Name x p) X.env
      standAt apos.atName
      let (f, first) ← holding [ov] (getMethod ov mn pl)
      callWith pos f first (backTo pos (starEach (e :: es) X.env)) (backToKw pos (keywordEach [] X.env))) := by rfl) :
    EE X c (.Call (.Attribute (.Name x p) mn apos) (e :: es) [] pos) (dMethO i cn mn n m args) := by
  obtain ⟨k, f, fd, ps, F, hr, hm, hb⟩ := C0
  refine PE.imp (pe_meth (E := E0) (pe_var hN hv hd hcd) T.cl hm F hr hb .nil passO ha hst hpl ht) fun σ H Q ⟨O, env, r, q⟩ => ?_
  unfold dMethO at q
  split at q
  · rename_i nm fs em
    split at q
    · rename_i hc
      obtain ⟨rfl, hno⟩ := hc
      obtain ⟨C, p0, dx, vs, h1, h2, h3, h4, h5⟩ := r.slots i _ em
      rw [hmg, T.g] at h1
      cases h1
      refine ⟨_, h2, p0, dx, vs, rfl, h4, h5.none hno, O, env, r, q.bind.imp fun ds q1 ws H1 s1 b1 => ?_⟩
      split at q1
      · rename_i hl
        obtain ⟨d, hd, q2⟩ := okOnly_res q1
        refine ⟨O, p0, _, dx, vs, fs, ws, ds, (r.ext s1).dom, by rw [List.append_nil], T.g, h3, s1 _ _ h4, h5.same (hide_same s1), b1, hl, ?_⟩
        rw [hd]
        exact fun v H' s' hv' => q2 v H' (s1.trans s') hv'
      · exact q1.elim
    · exact q.elim
  · exact q.elim
theorem e_newM {cn mn fld : Str} {p p2 apos : Pos} {pl : Sem Bool} {m : List (Str × PyData) → List PyData → R PyData} {f0 : DE} {fI : Addr} {fdI : FuncData} {psI : List Str} {kI : Nat} (T : ObT X.K X.mg cn) (C0 : CalO X.prog X.w X.K X.mg X.base X.A cn mn 0 m) (M : Mk X.K (cOf X.mg cn) fI) (FI : FnOk X.prog X.w X.K X.mg X.base CX0 kI fI fdI psI (spInit1 (cOf X.mg cn) fld)) (hrI : Room (kI + 1) X.A) (bI : Binds X.K fdI psI []) (hne : ¬ mn = fld) (ha : EE X c a f0)
    (hg : Gl X cn := by rfl) (hdb : (cn == ("__debug__" : Str)) = false := by decide) (he : starEach (a :: []) X.env = (false, eval a X.env) :: starEach [] X.env := by rfl) (hpl : (backTo p2 (starEach [] X.env)).any (·.1) = false := by rfl)
    (ht : eval (.Call (.Attribute (.Call (.Name cn p) [a] [] p2) mn apos) [] [] pos) X.env = (do
      let ov ← eval (.Call (.Name cn p) [a] [] p2) X.env
      standAt apos.atName
      let (f, first) ← holding [ov] (getMethod ov mn pl)
      callWith pos f first (backTo pos (starEach [] X.env)) (backToKw pos (keywordEach [] X.env))) := by rfl) :
    EE X c (.Call (.Attribute (.Call (.Name cn p) [a] [] p2) mn apos) [] [] pos) (dNewM fld mn m f0) := by
  obtain ⟨k, f, fd, ps, F, hr, hm, hb⟩ := C0
  refine PE.imp (pe_meth0 (E := E0) (pe_make (E := E0) M FI hrI hg T.g bI .nil pass0 (pa_cons ha pa_nil he) hdb he hpl) T.cl hm F hr hb .nil passO ht) fun σ H Q ⟨O, env, r, q⟩ => ?_
  refine ⟨O, env, r, q.bind.imp fun d q1 v H1 s1 b1 x dx nx ndx nex => ?_⟩
  have h0 : (upd (upd H1 dx (.own x)) x (.ins (cOf X.mg cn) dx [])) x = some (.ins (cOf X.mg cn) dx []) := upd_same
  refine ⟨x, dx, v, rfl, h0, rfl, x, dx, [(fld, v)], rfl, upd_same, ?_, ?_⟩
  · rw [List.lookup_cons]
    have : (mn == fld) = false := by simpa using hne
    rw [this]; rfl
  · obtain ⟨d', hd', q2⟩ := okOnly_res q1
    have s2 : Same H1 (upd (upd (upd H1 dx (.own x)) x (.ins (cOf X.mg cn) dx [])) x (.ins (cOf X.mg cn) dx [(fld, v)])) := fun b o e => by
      rw [upd_ne (ne_of_none e nx), upd_ne (ne_of_none e nx), upd_ne (ne_of_none e ndx)]
      exact e
    have r2 := r.ext (s1.trans s2)
    refine ⟨O, x, cOf X.mg cn, dx, [(fld, v)], [(fld, d)], [], [], r2.dom, rfl, T.g, (r.ext s1).fresh nx, upd_same, .cons (b1.same (hide_same s2)) .nil, .nil, rfl, ?_⟩
    rw [hd']
    exact fun v' H' s' hv' => q2 v' H' ((s1.trans s2).trans s') hv'
end
end DL

set_option Elab.async false
set_option linter.all false
set_option maxRecDepth 100000
set_option maxHeartbeats 2000000
namespace DL
open PySem PySem.Spec L2 PyProof.Rows
set_option autoImplicit false
/-! ### a module's numbers -/
def KonT (mg : Str → Option Value) (n : Str) (i : Int) : Prop := ∃ t, mg n = some (.int i t)
section
variable {X : Cx} {c : Dc} {D : Ends} {O O1 : List Addr} {σ : DL.St} {H H1 : Hp} {a b e : Expr} {es : List Expr} {pos : Pos} {fa fb fc f : DE} {env : Ev}
theorem e_globI {x : Str} {i : Int} (T : KonT X.mg x i) (hg : Gl X x := by rfl) (hdb : (x == ("__debug__" : Str)) = false := by decide) : EE X c (.Name x pos) (dC (.int i)) := by
  obtain ⟨t, hm⟩ := T
  exact e_glob (v := .int i) hg hm ⟨t, rfl⟩ (fun _ => .int _) hdb
end
/-! ### sorted -/
def insI (x : Int) : List Int → List Int
  | [] => [x]
  | y :: r => if x ≤ y then x :: y :: r else y :: insI x r
def isortI : List Int → List Int
  | [] => []
  | x :: r => insI x (isortI r)
theorem insI_perm (x : Int) : ∀ l, (insI x l).Perm (x :: l)
  | [] => .refl _
  | y :: r => by
    unfold insI
    split
    · exact .refl _
    · exact ((insI_perm x r).cons y).trans (.swap x y r)
theorem isortI_perm : ∀ l, (isortI l).Perm l
  | [] => .refl _
  | x :: r => (insI_perm x (isortI r)).trans ((isortI_perm r).cons x)
theorem insI_sorted (x : Int) : ∀ l : List Int, l.Pairwise (· ≤ ·) → (insI x l).Pairwise (· ≤ ·)
  | [], _ => by simp [insI]
  | y :: r, h => by
    unfold insI
    split
    · rename_i hxy
      rw [List.pairwise_cons] at h ⊢
      refine ⟨fun z hz => ?_, List.pairwise_cons.mpr h⟩
      rcases List.mem_cons.mp hz with rfl | hz
      · exact hxy
      · exact Int.le_trans hxy (h.1 z hz)
    · rename_i hxy
      rw [List.pairwise_cons] at h ⊢
      refine ⟨fun z hz => ?_, insI_sorted x r h.2⟩
      rcases List.mem_cons.mp ((insI_perm x r).mem_iff.mp hz) with rfl | hz
      · omega
      · exact h.1 z hz
theorem isortI_sorted : ∀ l : List Int, (isortI l).Pairwise (· ≤ ·)
  | [] => .nil
  | x :: r => insI_sorted x _ (isortI_sorted r)
theorem sorted_unique : ∀ {l l' : List Int}, l.Pairwise (· ≤ ·) → l'.Pairwise (· ≤ ·) → l.Perm l' → l = l'
  | [], l', _, _, p => (List.nil_perm.mp p).symm
  | x :: l, [], _, _, p => by cases List.perm_nil.mp p
  | x :: l, y :: l', h, h', p => by
    rw [List.pairwise_cons] at h h'
    have hx : y ≤ x := by
      rcases List.mem_cons.mp (p.mem_iff.mp List.mem_cons_self) with rfl | hm
      · exact Int.le_refl _
      · exact h'.1 x hm
    have hy : x ≤ y := by
      rcases List.mem_cons.mp (p.symm.mem_iff.mp List.mem_cons_self) with rfl | hm
      · exact Int.le_refl _
      · exact h.1 y hm
    have e : x = y := Int.le_antisymm hy hx
    subst e
    rw [sorted_unique h.2 h'.2 (List.perm_cons x |>.mp p)]
def gSortedI : List PyData → Option PyData
  | [.list ds] => (intsOf ds).map fun ns => .list ((isortI ns).map .int)
  | [.tuple _] => none
  | _ => none
section
variable {X : Cx}
theorem cd_sortedI : CallD X (rSortedI X.K) gSortedI := fun c O H vs ds z Q m h hg k => by
  unfold gSortedI at hg
  split at hg
  · obtain ⟨ns, hns, rfl⟩ := Option.map_eq_some_iff.mp hg
    obtain ⟨v, rfl, b⟩ := h.one
    obtain ⟨a, xs, rfl, h1, d1⟩ := b.lst
    rw [intsOf_eq hns] at d1
    rw [dvs_ints d1] at h1
    refine ⟨a, ns, rfl, h1, fun ns' p pm pw np => ?_⟩
    have e : ns' = isortI ns := sorted_unique pw (isortI_sorted ns) (pm.trans (isortI_perm ns).symm)
    rw [e]
    exact k _ _ (same_upd np) (.newL m np (Dvs.ints _))
  · cases hg
  · cases hg
end
theorem gSortedI_ints (ns : List Int) : gSortedI [.list (ns.map .int)] = some (.list ((isortI ns).map .int)) := by
  unfold gSortedI
  dsimp only
  rw [intsOf_map']; rfl
end DL

set_option Elab.async false
set_option linter.all false
set_option maxRecDepth 100000
set_option maxHeartbeats 2000000
namespace DL
open PySem PySem.Spec L2 PyProof.Rows
set_option autoImplicit false
noncomputable section
/-! ### a loop over a list that this def holds -/
def unPS (t : Nat) : Sl → Sl
  | .own (.pin s ds) => if s = t then .own (.lst ds) else .own (.pin s ds)
  | s => s
def unP (t : Nat) (env : Ev) : Ev := env.map (unPS t)
def endP (t : Nat) : Fl → Fl
  | .nx e => .nx (unP t e)
  | .bk e => .bk (unP t e)
  | .ct e => .ct (unP t e)
  | .ex e n fs => .ex (unP t e) n fs
  | .rt d => .rt d
  | .stuck => .stuck
def forLD (i t : Nat) (g : DG) (b : DS) : Nat → Nat → DS
  | 0, _ => fun _ => .stuck
  | n + 1, k => fun env => match env[i]? with
    | some (.own (.pin t' es)) => if t' = t then (match es[k]? with
        | none => .nx env
        | some d => match g d env with
          | none => .stuck
          | some e1 => match b e1 with
            | .nx e => forLD i t g b n (k + 1) e
            | .ct e => forLD i t g b n (k + 1) e
            | .bk e => .nx e
            | r => r) else .stuck
    | _ => .stuck
def dForO (t i : Nat) (g : DG) (b : DS) : DS := fun env => match env[i]? with
  | some (.own (.lst ds)) => endP t (forLD i t g b (ds.length + 1) 0 ((unP t env).set i (.own (.pin t ds))))
  | some (.own (.pin t' ds)) => forLD i t' g b (ds.length + 1) 0 env
  | _ => .stuck
section
variable {K : PySem.W.Frag} {c : Dc} {O : List Addr} {H H' : Hp} {env : Ev} {σ : DL.St}
theorem unP_own {t k : Nat} {w : Ow} (e : (unP t env)[k]? = some (.own w)) : ∃ w', env[k]? = some (.own w') := by
  unfold unP at e
  rw [List.getElem?_map] at e
  obtain ⟨s, h1, h2⟩ := Option.map_eq_some_iff.mp e
  cases s with
  | own w' => exact ⟨w', h1⟩
  | un => cases h2
  | dat _ => cases h2
  | exv _ _ => cases h2
  | obj _ _ => cases h2
/-- the pins named t are let go; what t names then is free -/
theorem Rel.unP {t : Nat} {pn : Nat → Option Addr} (hpn : ∀ s, s ≠ t → pn s = c.pin s) (r : Rel K c O H env σ) : Rel K { c with pin := pn } O H (DL.unP t env) σ := by
  refine ⟨r.same, r.sub, r.dom0, r.dom, r.new, by unfold DL.unP; rw [List.length_map]; exact r.len, fun i s e => ?_, fun i j ds es p ei ej si sj => ?_, r.exs⟩
  · unfold DL.unP at e
    rw [List.getElem?_map] at e
    obtain ⟨s', h1, rfl⟩ := Option.map_eq_some_iff.mp e
    have z := r.slots i s' h1
    cases s' with
    | un => trivial
    | exv _ _ => exact z
    | dat d => exact z
    | obj n fs => exact z
    | own w =>
      obtain ⟨p, u, a1, a2, ⟨a3, a3'⟩, a4, a5⟩ := z
      cases w with
      | lst ds => exact ⟨p, u, a1, a2, ⟨a3, trivial⟩, a4, a5⟩
      | dic ds => exact ⟨p, u, a1, a2, ⟨a3, trivial⟩, a4, a5⟩
      | pin s ds =>
        show SR K { c with pin := pn } O H (if s = t then .own (.lst ds) else .own (.pin s ds)) _
        by_cases hs : s = t
        · rw [if_pos hs]
          refine ⟨p, u, a1, a2, ⟨a3, trivial⟩, a4, ?_⟩
          cases u <;> first | exact a5.elim | exact a5
        · rw [if_neg hs]
          exact ⟨p, u, a1, a2, ⟨a3, show pn s = some p by rw [hpn s hs]; exact a3'⟩, a4, a5⟩
  · obtain ⟨w1, e1⟩ := unP_own ei
    obtain ⟨w2, e2⟩ := unP_own ej
    exact r.inj i j w1 w2 p e1 e2 si sj
/-- a list is pinned -/
theorem Rel.toPin {t i : Nat} {ds : List PyData} {p : Addr} (r : Rel K c O H env σ) (e : env[i]? = some (.own (.lst ds))) (hs : σ[i]? = some (some (.ref p))) (hp : c.pin t = some p) : Rel K c O H (env.set i (.own (.pin t ds))) σ := by
  have hi : i < env.length := (List.getElem?_eq_some_iff.mp e).1
  refine ⟨r.same, r.sub, r.dom0, r.dom, r.new, by rw [List.length_set]; exact r.len, fun j s q => ?_, fun a b ds' es q ea eb sa sb => ?_, r.exs⟩
  · by_cases hj : i = j
    · subst hj
      rw [List.getElem?_set_self hi] at q; cases q
      obtain ⟨p', u, a1, a2, ⟨a3, a3'⟩, a4, a5⟩ := r.slots i _ e
      rw [hs] at a1
      cases a1
      refine ⟨_, u, hs, a2, ⟨a3, hp⟩, a4, ?_⟩
      cases u <;> first | exact a5.elim | exact a5
    · rw [List.getElem?_set_ne hj] at q
      exact r.slots j s q
  · have ow : ∀ {k : Nat} {w : Ow}, (env.set i (.own (.pin t ds)))[k]? = some (.own w) → ∃ w', env[k]? = some (.own w') := by
      intro k w hk
      by_cases hj : i = k
      · subst hj; exact ⟨_, e⟩
      · rw [List.getElem?_set_ne hj] at hk; exact ⟨_, hk⟩
    obtain ⟨w1, e1⟩ := ow ea
    obtain ⟨w2, e2⟩ := ow eb
    exact r.inj a b w1 w2 q e1 e2 sa sb
end
section
variable {X : Cx} {c : Dc} {D : Ends} {O O1 : List Addr} {σ : DL.St} {H H1 : Hp} {a b e : Expr} {es : List Expr} {pos : Pos} {fa fb fc f : DE} {env : Ev}
theorem Out.pin {t : Nat} {pn : Nat → Option Addr} {fl : Fl} (hpn : ∀ s, s ≠ t → pn s = c.pin s) (h : Out X c D O H (endP t fl)) : Out X { c with pin := pn } D O H fl := by
  have conv : ∀ {O H env σ}, Rel X.K { c with pin := pn } O H env σ → Rel X.K c O H (unP t env) σ := fun r => Rel.unP (c := { c with pin := pn }) (pn := c.pin) (fun s hs => (hpn s hs).symm) r
  cases fl with
  | nx e => exact fun O' σ' H' k rel => h O' σ' H' k (conv rel)
  | bk e => exact fun O' σ' H' k rel => h O' σ' H' k (conv rel)
  | ct e => exact fun O' σ' H' k rel => h O' σ' H' k (conv rel)
  | rt d => exact h
  | ex e n fs => exact fun O' σ' H' cls dd k rel hx => h O' σ' H' cls dd k (conv rel) hx
  | stuck => exact h
/-- the walk itself -/
theorem run_forLD {i t : Nat} {g : DG} {is : List Nat} {gb : DS} {tg : Expr} {x : List Stmt} {xn : Str} {p1 : Pos} {p : Addr} {c : Dc} {n : Nat} (hp : PassesOwn (model X.prog X.w) X.A X.env X.xe) (hc : X.calm = true) (hg : PG X tg (rdG X c is g)) (hb : SSs X c x gb)
    (hN : X.N[i]? = some xn) (hv : Vis X.env.scope xn) (hd : (xn == ("__debug__" : Str)) = false) (hcd : (xn == ("__classdict__" : Str)) = false) (hs : ∀ y, foldedSetIterable (.Name xn p1) X.env y = pure y) (hpin : c.pin t = some p)
    (rel : Rel X.K c O H env σ) (hσ : σ[i]? = some (some (.ref p))) (hH : ∃ vs, H p = some (.lst vs)) (q : Out X c D O H (forLD i t g gb n 0 env)) {pins : List (Addr × Obj)} {s : Shared} (I : L2.Inv X pins σ H s) :
    wpAny (model X.prog X.w) X.A (exec (.For tg (.Name xn p1) x [] pos) X.env) (SP X pins D) X.xe s := by
  obtain ⟨vs0, hH0⟩ := hH
  refine (ps_for hp hc (pi_list (pe_var hN hv hd hcd)) hg hb hs).run pins s σ H D I ⟨_, hσ, p, rfl, ⟨vs0, .inl (.inl hH0)⟩, fun k m σ1 H1 => m + k = n ∧ ∃ O1 env1, Rel X.K c O1 H1 env1 σ1 ∧ Keep O H O1 H1 ∧ Out X c D O1 H1 (forLD i t g gb m k env1), ⟨n, rfl, O, env, rel, Keep.refl _ _, q⟩, ?_⟩
  rintro k m σ1 H1 ⟨hm, O1, env1, rel1, k1, q2⟩
  cases m with
  | zero => exact q2.elim
  | succ m =>
    unfold forLD at q2
    split at q2
    · rename_i t' es he
      split at q2
      · rename_i ht
        subst ht
        obtain ⟨p', u, a1, a2, ⟨a3, a3'⟩, a4, a5⟩ := rel1.slots i _ he
        have ep : p' = p := by
          have z : c.pin t' = some p' := a3'
          rw [hpin] at z
          exact (Option.some.inj z).symm
        subst ep
        cases u <;> first | exact a5.elim | skip
        rename_i vs
        have a5' : Dvs X.K (hide O1 H1) vs es := a5
        split at q2
        · rename_i hk
          left
          refine ⟨⟨vs, .inl (.inl a4), ?_⟩, q2 O1 σ1 H1 (Keep.refl _ _) rel1⟩
          rw [a5'.length]
          exact List.getElem?_eq_none_iff.mp hk
        · rename_i d hk
          right
          obtain ⟨v, hv1, dv⟩ := a5'.get hk
          refine ⟨⟨vs, v, .inl (.inl a4), hv1⟩, ?_⟩
          split at q2
          · exact q2.elim
          · rename_i e1 he1
            refine ⟨fun σ' H' => ∃ O' e', Rel X.K c O' H' e' σ' ∧ Keep O H O' H' ∧ Out X c D O' H' (forLD i t' g gb m (k + 1) e'), fun σ' H' z => ⟨m, Nat.lt_succ_self m, by omega, z⟩, fun y H' hy => ?_⟩
            obtain ⟨rfl, hy2⟩ := hy
            have hyv := hy2 vs (.inl (.inl a4))
            rw [hv1] at hyv
            cases hyv
            refine ⟨O1, env1, _, rel1, dv, e1, he1, fun σ2 _ rel2 => ⟨O1, e1, rel2, ?_⟩⟩
            cases r : gb e1 with
            | nx e =>
              simp only [r] at q2
              exact fun O' σ' H' k' rel' => ⟨O', e, rel', k1.trans k', Out.mono k' q2⟩
            | ct e =>
              simp only [r] at q2
              exact fun O' σ' H' k' rel' => ⟨O', e, rel', k1.trans k', Out.mono k' q2⟩
            | bk e => simp only [r] at q2; exact q2
            | rt d => simp only [r] at q2; exact q2
            | ex e n fs => simp only [r] at q2; exact q2
            | stuck => simp only [r] at q2; exact q2
      · exact q2.elim
    · exact q2.elim
theorem s_forO (t i : Nat) {g : DG} {is : List Nat} {gb : DS} {tg : Expr} {x : List Stmt} {xn : Str} {p1 : Pos} (hp : PassesOwn (model X.prog X.w) X.A X.env X.xe) (hc : X.calm = true) (hg : ∀ pn, PG X tg (rdG X { c with pin := pn } is g)) (hb : ∀ pn, SSs X { c with pin := pn } x gb)
    (hN : X.N[i]? = some xn := by rfl) (hv : Vis X.env.scope xn := by first | exact Or.inl rfl | exact Or.inr (Or.inl rfl) | exact Or.inr (Or.inr rfl)) (hd : (xn == ("__debug__" : Str)) = false := by decide) (hcd : (xn == ("__classdict__" : Str)) = false := by decide)
    (hs : ∀ y, foldedSetIterable (.Name xn p1) X.env y = pure y := by intro _; rfl) : SS X c (.For tg (.Name xn p1) x [] pos) (dForO t i g gb) := ⟨fun pins s σ H D I ⟨O, env, rel, q⟩ => by
  unfold dForO at q
  split at q
  · rename_i ds he
    obtain ⟨p, u, a1, a2, a3, a4, a5⟩ := rel.slots i _ he
    cases u <;> first | exact a5.elim | skip
    rename_i vs
    have hpn : ∀ s, s ≠ t → (fun s => if s = t then some p else c.pin s) s = c.pin s := fun s hs => if_neg hs
    have rel1 : Rel X.K { c with pin := fun s => if s = t then some p else c.pin s } O H (unP t env) σ := rel.unP hpn
    have he1 : (unP t env)[i]? = some (.own (.lst ds)) := by
      unfold unP
      rw [List.getElem?_map, he]; rfl
    have rel2 := rel1.toPin (t := t) he1 a1 (show (if t = t then some p else c.pin t) = some p from if_pos rfl)
    exact run_forLD (c := { c with pin := fun s => if s = t then some p else c.pin s }) hp hc (hg _) (hb _) hN hv hd hcd hs (show (if t = t then some p else c.pin t) = some p from if_pos rfl) rel2 a1 ⟨_, a4⟩ (Out.pin hpn q) I
  · rename_i t' ds he
    obtain ⟨p, u, a1, a2, ⟨a3, a3'⟩, a4, a5⟩ := rel.slots i _ he
    cases u <;> first | exact a5.elim | skip
    exact run_forLD hp hc (hg c.pin) (hb c.pin) hN hv hd hcd hs a3' rel a1 ⟨_, a4⟩ q I
  · exact q.elim⟩
end
/-- a walk by an invariant -/
theorem forLD_R {i t : Nat} {g : DG} {b : DS} {R : Fl → Prop} {ds : List PyData} (I : Nat → Ev → Prop) (hI : ∀ k e, I k e → e[i]? = some (.own (.pin t ds))) (step : ∀ k d e, ds[k]? = some d → I k e → ∃ e1, g d e = some e1 ∧ StepP (I (k + 1)) R (b e1)) (fin : ∀ e, I ds.length e → R (.nx e)) : ∀ (n k : Nat) (e : Ev), n + k = ds.length + 1 → k ≤ ds.length → I k e → R (forLD i t g b n k e)
  | 0, k, e, h, hl, he => by omega
  | n + 1, k, e, h, hl, he => by
    have lt : ∀ {d}, ds[k]? = some d → k + 1 ≤ ds.length := fun h => (List.getElem?_eq_some_iff.mp h).1
    unfold forLD
    rw [hI k e he]
    show R (if t = t then _ else _)
    rw [if_pos rfl]
    cases hd : ds[k]? with
    | none =>
      have hk : k = ds.length := by
        have := List.getElem?_eq_none_iff.mp hd
        omega
      subst hk
      exact fin e he
    | some d =>
      obtain ⟨e1, h1, h2⟩ := step k d e hd he
      show R (match g d e with
        | none => .stuck
        | some e1 => match b e1 with
          | .nx e => forLD i t g b n (k + 1) e
          | .ct e => forLD i t g b n (k + 1) e
          | .bk e => .nx e
          | r => r)
      rw [h1]
      show R (match b e1 with
          | .nx e => forLD i t g b n (k + 1) e
          | .ct e => forLD i t g b n (k + 1) e
          | .bk e => .nx e
          | r => r)
      cases r : b e1 with
      | nx e' => rw [r] at h2; exact forLD_R I hI step fin n (k + 1) e' (by omega) (lt hd) h2
      | ct e' => rw [r] at h2; exact forLD_R I hI step fin n (k + 1) e' (by omega) (lt hd) h2
      | bk e' => rw [r] at h2; exact h2
      | rt d => rw [r] at h2; exact h2
      | ex e' n' fs => rw [r] at h2; exact h2
      | stuck => rw [r] at h2; exact h2
end
end DL

set_option Elab.async false
set_option linter.all false
set_option maxRecDepth 100000
set_option maxHeartbeats 4000000
namespace G58
open PySem DL
set_option autoImplicit false
noncomputable section
def sub_BadChain : List (Str × Bool) := [("BadChain", true), ("BadNumber", false)]
def sub_BadNumber : List (Str × Bool) := [("BadChain", false), ("BadNumber", true)]
def N_is_integer : List Str := ["value"]
def g_is_integer : DS := dRet (dAndV (dIsi "int" (dVarB 0)) (dNotV (dIsi "bool" (dVarB 0))))
def m_is_integer (ds : List PyData) : R PyData := runD N_is_integer.length g_is_integer ds
def N_check_goal : List Str := ["number"]
def g_check_goal : DS := dIfS (dOrT (dNotT (dTest (dCall 1 m_is_integer (dCons (dVar 0) (dNil))))) (dTest (dBin (gI fun i j => .bool (decide (i < j))) (dVarB 0) (dC (.int 1))))) (dRaise ("BadNumber" : Str)) (dSkip)
def m_check_goal (ds : List PyData) : R PyData := runD N_check_goal.length g_check_goal ds
def N_chain_of : List Str := ["row", "steps", "place", "pair", "one", "other"]
def b_chain_of_1 : DS := dIfS (dTest (dBin (gEq false) (dBin gAdd (dIx (dVarB 0) (dVarB 4)) (dIx (dVarB 0) (dVarB 5))) (dIx (dVarB 0) (dVarB 2)))) (dSet 3 (dTup (dCons (dVar 4) (dCons (dVar 5) (dNil))))) (dSkip)
def b_chain_of_2 : DS := dFor (dRange1 (dBin gAdd (dVarB 4) (dC (.int 1)))) (gN 5) (b_chain_of_1)
def b_chain_of_3 : DS := dSeq (dSet 3 (dC .none))
  (dSeq (dFor (dRange1 (dVarB 2)) (gN 4) (b_chain_of_2))
  (dSeq (dIfS (dTest (dBin (gIsN false) (dVarB 3) (dC .none))) (dRaise1 ("BadChain" : Str) ("place" : Str) (dBin (gI fun i j => .int (i - j)) (dVarB 2) (dC (.int 1)))) (dSkip))
  (dApp 1 (dBin gAdd (dTup (dCons (dC (.str ("add" : Str))) (dNil))) (dVarB 3)))))
def g_chain_of : DS := dSeq (dSetX 1 (xF (dLstF (dNil))))
  (dSeq (dFor (dRange2 (dC (.int 1)) (dCallG gLen (dCons (dVarB 0) (dNil)))) (gN 2) (b_chain_of_3))
  (dRet (dCallG gTuple (dCons (dVarB 1) (dNil)))))
def m_chain_of (ds : List PyData) : R PyData := runD N_chain_of.length g_chain_of ds
def N_Shortest_deeper : List Str := ["self", "row", "size", "tried", "one", "other", "step", "found"]
def b_Shortest_deeper_1 (rec : List (Str × PyData) → List PyData → R PyData) : DS := dSeq (dSet 6 (dBin gAdd (dVarB 4) (dVarB 5)))
  (dIfS (dAndT (dTest (dBin (gI fun i j => .bool (decide (i ≤ j))) (dVarB 5) (dVarB 4))) (dAndT (dTest (dBin (gI fun i j => .bool (decide (j < i))) (dVarB 6) (dIx (dVarB 1) (dNeg (dC (.int 1)))))) (dAndT (dTest (dBin (gI fun i j => .bool (decide (i ≤ j))) (dVarB 6) (dFld 0 "Shortest" "number"))) (dTest (dBin (gIn true) (dVarB 6) (dVarB 3)))))) (dSeq (dApp 3 (dVar 6))
  (dSeq (dSet 7 (dMethO 0 "Shortest" "deeper" 2 rec (dCons (dBin gAdd (dVarB 1) (dLst (dCons (dVar 6) (dNil)))) (dCons (dBin (gI fun i j => .int (i - j)) (dVarB 2) (dC (.int 1))) (dNil)))))
  (dIfS (dTest (dBin (gIsN true) (dVarB 7) (dC .none))) (dRet (dVarB 7)) (dSkip)))) (dSkip))
def b_Shortest_deeper_2 (rec : List (Str × PyData) → List PyData → R PyData) : DS := dFor (dItems (dRevL (dVarB 1))) (gN 5) (b_Shortest_deeper_1 rec)
def g_Shortest_deeper (rec : List (Str × PyData) → List PyData → R PyData) : DS := dSeq (dIfS (dTest (dBin (gEq false) (dIx (dVarB 1) (dNeg (dC (.int 1)))) (dFld 0 "Shortest" "number"))) (dRet (dVarB 1)) (dSkip))
  (dSeq (dIfS (dOrT (dTest (dBin (gEq false) (dVarB 2) (dC (.int 0)))) (dTest (dBin (gI fun i j => .bool (decide (i < j))) (dBin (gIC shlB fun i j => .int (i * 2 ^ j.toNat)) (dIx (dVarB 1) (dNeg (dC (.int 1)))) (dVarB 2)) (dFld 0 "Shortest" "number")))) (dRet (dC .none)) (dSkip))
  (dSeq (dSetX 3 (xF (dLstF (dNil))))
  (dSeq (dFor (dItems (dRevL (dVarB 1))) (gN 4) (b_Shortest_deeper_2 rec))
  (dRet (dC .none)))))
def m_Shortest_deeper : Nat → List (Str × PyData) → List PyData → R PyData
  | 0 => fun _ _ => .error .stuck
  | d + 1 => fun fs ds => runO N_Shortest_deeper.length "Shortest" (g_Shortest_deeper (m_Shortest_deeper d)) fs ds
def N_Shortest_found : List Str := ["self", "size", "row"]
def b_Shortest_found_1 : DS := dSeq (dSet 2 (dMethO 0 "Shortest" "deeper" 2 (m_Shortest_deeper 12) (dCons (dLst (dCons (dC (.int 1)) (dNil))) (dCons (dVar 1) (dNil)))))
  (dSeq (dIfS (dTest (dBin (gIsN true) (dVarB 2) (dC .none))) (dRet (dVarB 2)) (dSkip))
  (dAug 1 (gI fun i j => .int (i + j)) (dC (.int 1))))
def t_Shortest_found_1 : DT := dTest (dC (.bool true))
def g_Shortest_found : DS := dSeq (dSet 1 (dBin (gI fun i j => .int (i - j)) (dBits (dFld 0 "Shortest" "number")) (dC (.int 1))))
  (dWhile (fun _ => FUEL.1) (t_Shortest_found_1) (b_Shortest_found_1))
def m_Shortest_found (fs : List (Str × PyData)) (ds : List PyData) : R PyData := runO N_Shortest_found.length "Shortest" g_Shortest_found fs ds
def N_shortest_chain : List Str := ["number"]
def g_shortest_chain : DS := dSeq (dExpr (dCall 1 m_check_goal (dCons (dVar 0) (dNil))))
  (dSeq (dIfS (dTest (dBin (gI fun i j => .bool (decide (j < i))) (dVarB 0) (dC (.int 200)))) (dRaise ("BadNumber" : Str)) (dSkip))
  (dRet (dCall 1 m_chain_of (dCons (dNewM "number" "found" m_Shortest_found (dVar 0)) (dNil)))))
def m_shortest_chain (ds : List PyData) : R PyData := runD N_shortest_chain.length g_shortest_chain ds
def N_shortest_size : List Str := ["number"]
def g_shortest_size : DS := dRet (dCallG gLen (dCons (dCall 1 m_shortest_chain (dCons (dVar 0) (dNil))) (dNil)))
def m_shortest_size (ds : List PyData) : R PyData := runD N_shortest_size.length g_shortest_size ds
def N__law_cell : List Str := ["script", "k"]
def g__law_cell : DS := dSeq (dIfS (dTest (dBin (gI fun i j => .bool (decide (i < j))) (dVarB 1) (dCallG gLen (dCons (dVarB 0) (dNil))))) (dRet (dBin (gIC modB fun i j => .int (i % j)) (dCallG gAbs (dCons (dCallG gIntOf (dCons (dIx (dVarB 0) (dVarB 1)) (dNil))) (dNil))) (dC (.int 1000000007)))) (dSkip))
  (dRet (dC (.int 0)))
def m__law_cell (ds : List PyData) : R PyData := runD N__law_cell.length g__law_cell ds
def N__law_rich : List Str := ["cell", "k", "mixed"]
def g__law_rich : DS := dSeq (dSet 2 (dBin (gIC modB fun i j => .int (i % j)) (dCallG gIntOf (dCons (dBin gAdd (dBin gAdd (dBin (gIC mulB fun i j => .int (i * j)) (dVarB 0) (dC (.int 48271))) (dBin (gIC mulB fun i j => .int (i * j)) (dVarB 1) (dC (.int 69621)))) (dC (.int 11))) (dNil))) (dC (.int 2147483647))))
  (dRet (dBin gAdd (dBin (gIC mulB fun i j => .int (i * j)) (dVarB 2) (dC (.int 2147483629))) (dBin (gIC modB fun i j => .int (i % j)) (dCallG gIntOf (dCons (dBin gAdd (dBin (gIC mulB fun i j => .int (i * j)) (dVarB 2) (dC (.int 16807))) (dVarB 0)) (dNil))) (dC (.int 2147483629)))))
def m__law_rich (ds : List PyData) : R PyData := runD N__law_rich.length g__law_rich ds
def N__law_numbers : List Str := ["chain", "found", "step"]
def b__law_numbers_1 : DS := dSeq (dIfS (dOrT (dNotT (dTest (dIsi "tuple" (dVarB 2)))) (dOrT (dTest (dBin (gEq true) (dCallG gLen (dCons (dVarB 2) (dNil))) (dC (.int 3)))) (dOrT (dTest (dBin (gEq true) (dIx (dVarB 2) (dC (.int 0))) (dC (.str ("add" : Str))))) (dOrT (dNotT (dTest (dChain (gI fun i j => .bool (decide (i ≤ j))) (gI fun i j => .bool (decide (i < j))) (dC (.int 0)) (dIx (dVarB 2) (dC (.int 1))) (dCallG gLen (dCons (dVarB 1) (dNil)))))) (dNotT (dTest (dChain (gI fun i j => .bool (decide (i ≤ j))) (gI fun i j => .bool (decide (i < j))) (dC (.int 0)) (dIx (dVarB 2) (dC (.int 2))) (dCallG gLen (dCons (dVarB 1) (dNil)))))))))) (dRet (dC .none)) (dSkip))
  (dApp 1 (dBin gAdd (dIx (dVarB 1) (dIx (dVarB 2) (dC (.int 1)))) (dIx (dVarB 1) (dIx (dVarB 2) (dC (.int 2))))))
def g__law_numbers : DS := dSeq (dSetX 1 (xF (dLstF (dCons (dC (.int 1)) (dNil)))))
  (dSeq (dFor (dItems (dVar 0)) (gN 2) (b__law_numbers_1))
  (dRet (dVarB 1)))
def m__law_numbers (ds : List PyData) : R PyData := runD N__law_numbers.length g__law_numbers ds
def N__law_is_made : List Str := ["number", "size", "rows", "step", "longer", "row", "tried", "one", "other", "total"]
def b__law_is_made_1 : DS := dSeq (dSet 9 (dBin gAdd (dVarB 7) (dVarB 8)))
  (dIfS (dAndT (dTest (dBin (gI fun i j => .bool (decide (j < i))) (dVarB 9) (dIx (dVarB 5) (dNeg (dC (.int 1)))))) (dAndT (dTest (dBin (gI fun i j => .bool (decide (i ≤ j))) (dVarB 9) (dVarB 0))) (dAndT (dTest (dBin (gIn true) (dVarB 9) (dVarB 6))) (dTest (dBin (gI fun i j => .bool (decide (j ≤ i))) (dBin (gIC shlB fun i j => .int (i * 2 ^ j.toNat)) (dVarB 9) (dBin (gI fun i j => .int (i - j)) (dBin (gI fun i j => .int (i - j)) (dVarB 1) (dVarB 3)) (dC (.int 1)))) (dVarB 0)))))) (dSeq (dApp 6 (dVar 9))
  (dApp 4 (dBin gAdd (dVarB 5) (dLst (dCons (dVar 9) (dNil)))))) (dSkip))
def b__law_is_made_2 : DS := dFor (dItems (dVar 5)) (gN 8) (b__law_is_made_1)
def b__law_is_made_3 : DS := dSeq (dSetX 6 (xF (dLstF (dNil))))
  (dFor (dItems (dVar 5)) (gN 7) (b__law_is_made_2))
def b__law_is_made_4 : DS := dSeq (dSetX 4 (xF (dLstF (dNil))))
  (dSeq (dFor (dItems (dVar 2)) (gN 5) (b__law_is_made_3))
  (fun env => (dSet 2 (dVar 4)) (freeze 4 env)))
def g__law_is_made : DS := dSeq (dSet 2 (dLst (dCons (dLst (dCons (dC (.int 1)) (dNil))) (dNil))))
  (dSeq (dFor (dRange1 (dVarB 1)) (gN 3) (b__law_is_made_4))
  (dRet (dCallG gAny (dCons (dOfF (dComp [5] (dItems (dVar 2)) (gN 5) (tYesD) (dBin (gEq false) (dIx (dVarB 5) (dNeg (dC (.int 1)))) (dVarB 0)))) (dNil)))))
def m__law_is_made (ds : List PyData) : R PyData := runD N__law_is_made.length g__law_is_made ds
def N__law_told : List Str := ["row", "e"]
def g__law_told : DS := dTryAs 1 (dRet (dCall 1 m_chain_of (dCons (dVar 0) (dNil)))) (subT sub_BadChain) (dRet (dField 1 ("BadChain" : Str) ("place" : Str)))
def m__law_told (ds : List PyData) : R PyData := runD N__law_told.length g__law_told ds
def N__law_refused : List Str := ["value", "count", "k"]
def b__law_refused_1 : DS := dTry (dIfS (dTest (dBin (gEq false) (dVarB 2) (dC (.int 0)))) (dExpr (dCall 1 m_shortest_chain (dCons (dVar 0) (dNil)))) (dExpr (dCall 1 m_shortest_size (dCons (dVar 0) (dNil))))) (subT sub_BadNumber) (fun fs => dSet 1 (dBin gAdd (dVarB 1) (dC (.int 1))))
def g__law_refused : DS := dSeq (dSet 1 (dC (.int 0)))
  (dSeq (dFor (dRange1 (dC (.int 2))) (gN 2) (b__law_refused_1))
  (dRet (dBin (gEq false) (dVarB 1) (dC (.int 2)))))
def m__law_refused (ds : List PyData) : R PyData := runD N__law_refused.length g__law_refused ds
def N_law : List Str := ["script", "rich", "number", "told", "row", "k", "part", "sums", "one", "other", "spoilt"]
def b_law_1 : DS := dSeq (dSet 3 (dCall 1 m_shortest_chain (dCons (dVar 2) (dNil))))
  (dSeq (dSetX 4 (xE (dCall 1 m__law_numbers (dCons (dVar 3) (dNil)))))
  (dSeq (dIfS (dOrT (dTest (dBin (gIsN false) (dVarB 4) (dC .none))) (dOrT (dTest (dBin (gEq true) (dIx (dVarB 4) (dNeg (dC (.int 1)))) (dVarB 2))) (dTest (dBin (gEq true) (dCall 1 m_shortest_size (dCons (dVar 2) (dNil))) (dCallG gLen (dCons (dVarB 3) (dNil))))))) (dRet (dC (.bool false))) (dSkip))
  (dIfS (dAndT (dTest (dBin (gI fun i j => .bool (decide (j < i))) (dVarB 2) (dC (.int 1)))) (dTest (dCall 2 m__law_is_made (dCons (dVar 2) (dCons (dBin (gI fun i j => .int (i - j)) (dCallG gLen (dCons (dVarB 3) (dNil))) (dC (.int 1))) (dNil)))))) (dRet (dC (.bool false))) (dSkip))))
def b_law_2 : DS := dIfS (dAndT (dTest (dBin (gI fun i j => .bool (decide (j < i))) (dBin gAdd (dVarB 8) (dVarB 9)) (dIx (dVarB 4) (dNeg (dC (.int 1)))))) (dTest (dBin (gIn true) (dBin gAdd (dVarB 8) (dVarB 9)) (dVarB 7)))) (dApp 7 (dBin gAdd (dVarB 8) (dVarB 9))) (dSkip)
def b_law_3 : DS := dForO 2 4 (gN 9) (b_law_2)
def b_law_4 : DS := dSeq (dSet 6 (dBin (gIC divB fun i j => .int (i / j)) (dVarB 1) (dBin gAdd (dC (.int 11)) (dBin (gIC mulB fun i j => .int (i * j)) (dC (.int 5)) (dVarB 5)))))
  (dSeq (dSetX 7 (xF (dLstF (dNil))))
  (dSeq (dForO 3 4 (gN 8) (b_law_3))
  (dApp 4 (dIx (dCallG gSortedI (dCons (dVarB 7) (dNil))) (dBin (gIC modB fun i j => .int (i % j)) (dVarB 6) (dCallG gLen (dCons (dVarB 7) (dNil))))))))
def g_law : DS := dSeq (dSet 1 (dCall 2 m__law_rich (dCons (dCall 2 m__law_cell (dCons (dVar 0) (dCons (dC (.int 0)) (dNil)))) (dCons (dC (.int 0)) (dNil)))))
  (dSeq (dFor (dItems (dLst (dCons (dBin gAdd (dC (.int 1)) (dBin (gIC modB fun i j => .int (i % j)) (dVarB 1) (dC (.int 40)))) (dCons (dBin gAdd (dC (.int 1)) (dBin (gIC modB fun i j => .int (i % j)) (dBin (gIC divB fun i j => .int (i / j)) (dVarB 1) (dC (.int 41))) (dC (.int 40)))) (dNil))))) (gN 2) (b_law_1))
  (dSeq (dSetX 4 (xF (dLstF (dCons (dC (.int 1)) (dNil)))))
  (dSeq (dFor (dRange1 (dBin gAdd (dC (.int 1)) (dBin (gIC modB fun i j => .int (i % j)) (dBin (gIC divB fun i j => .int (i / j)) (dVarB 1) (dC (.int 7))) (dC (.int 6))))) (gN 5) (b_law_4))
  (dSeq (dSet 3 (dCallB 1 m__law_told (dCons (dVarB 4) (dNil))))
  (dSeq (dIfS (dOrT (dTest (dIsi "int" (dVarB 3))) (dTest (dBin (gEq true) (dCall 1 m__law_numbers (dCons (dVar 3) (dNil))) (dVarB 4)))) (dRet (dC (.bool false))) (dSkip))
  (dSeq (dSet 10 (dBin gAdd (dVarB 4) (dLst (dCons (dBin gAdd (dBin (gIC mulB fun i j => .int (i * j)) (dC (.int 2)) (dIx (dVarB 4) (dNeg (dC (.int 1))))) (dC (.int 1))) (dNil)))))
  (dSeq (dIfS (dTest (dBin (gEq true) (dCall 1 m__law_told (dCons (dVar 10) (dNil))) (dBin (gI fun i j => .int (i - j)) (dCallG gLen (dCons (dVarB 4) (dNil))) (dC (.int 1))))) (dRet (dC (.bool false))) (dSkip))
  (dRet (dCall 1 m__law_refused (dCons (dIx (dLst (dCons (dC (.int 0)) (dCons (dNeg (dC (.int 3))) (dCons (dC (.int 201)) (dCons (dC (.int 1000)) (dCons (dC .none) (dCons (dC (.bool true)) (dCons (dC (.str ("5" : Str))) (dNil))))))))) (dBin (gIC modB fun i j => .int (i % j)) (dBin (gIC divB fun i j => .int (i / j)) (dVarB 1) (dC (.int 13))) (dC (.int 7)))) (dNil)))))))))))
def m_law (ds : List PyData) : R PyData := runD N_law.length g_law ds
end
end G58

set_option Elab.async false
set_option linter.all false
set_option maxRecDepth 100000
set_option maxHeartbeats 4000000
namespace G58
open PySem PySem.Spec L2 DL
set_option autoImplicit false
theorem is_integer_int (i : Int) : m_is_integer [.int i] = .ok (.bool true) := by unfold m_is_integer g_is_integer N_is_integer; simp! only []
theorem is_integer_bool (i : Bool) : m_is_integer [.bool i] = .ok (.bool false) := by unfold m_is_integer g_is_integer N_is_integer; simp! only []
theorem is_integer_str (i : Str) : m_is_integer [.str i] = .ok (.bool false) := by unfold m_is_integer g_is_integer N_is_integer; simp! only []
theorem is_integer_tuple (i : List PyData) : m_is_integer [.tuple i] = .ok (.bool false) := by unfold m_is_integer g_is_integer N_is_integer; simp! only []
theorem is_integer_none : m_is_integer [.none] = .ok (.bool false) := by unfold m_is_integer g_is_integer N_is_integer; simp! only []
theorem check_goal_int (i : Int) (h : 1 ≤ i) : m_check_goal [.int i] = .ok .none := by
  unfold m_check_goal g_check_goal N_check_goal
  simp! only [is_integer_int, show ¬ i < 1 by omega]
theorem check_goal_bad (d : PyData) (h : m_is_integer [d] = .ok (.bool false)) : m_check_goal [d] = .error (.exc "BadNumber" []) := by
  unfold m_check_goal g_check_goal N_check_goal
  simp! only [h]
theorem check_goal_low (i : Int) (h : i < 1) : m_check_goal [.int i] = .error (.exc "BadNumber" []) := by
  unfold m_check_goal g_check_goal N_check_goal
  simp! only [is_integer_int, h]
theorem law_cell (ns : List Int) (k : Nat) (h : k < 64) : ∃ c : Int, 0 ≤ c ∧ c < 1000000007 ∧ m__law_cell [.list (ns.map .int), .int k] = .ok (.int c) := by
  by_cases hk : k < ns.length
  · refine ⟨(if ns[k] < 0 then -ns[k] else ns[k]) % 1000000007, by omega, by omega, ?_⟩
    unfold m__law_cell g__law_cell N__law_cell
    have e : L2.atI (ns.map PyData.int) (k : Int) = some (.int ns[k]) := DL.atI_nat (by simp [hk])
    simp! only [e, show ((k : Int) < (ns.length : Int)) from by omega]
  · refine ⟨0, by omega, by omega, ?_⟩
    unfold m__law_cell g__law_cell N__law_cell
    simp! only [show ¬ ((k : Int) < (ns.length : Int)) from by omega]
theorem law_rich (c k : Int) (hc : 0 ≤ c) (hc2 : c < 1000000007) (hk : 0 ≤ k) (hk2 : k < 64) : ∃ r : Int, 0 ≤ r ∧ r < 4611686014132420609 ∧ m__law_rich [.int c, .int k] = .ok (.int r) := by
  refine ⟨((c * 48271 + k * 69621 + 11) % 2147483647) * 2147483629 + (((c * 48271 + k * 69621 + 11) % 2147483647) * 16807 + c) % 2147483629, by omega, by omega, ?_⟩
  unfold m__law_rich g__law_rich N__law_rich
  have h1 : mulB c 48271 = true := mulB_r (by decide) (by decide)
  have h2 : mulB k 69621 = true := mulB_r (by decide) (by decide)
  have h3 : ∀ x, mulB x 2147483629 = true := fun x => mulB_r (by decide) (by decide)
  have h4 : ∀ x, mulB x 16807 = true := fun x => mulB_r (by decide) (by decide)
  simp! only [h1, h2, h3, h4]
/-! ### rows and their chains -/
theorem atI_0 {l : List PyData} {a : PyData} : L2.atI (a :: l) 0 = some a := DL.atI_nat (i := 0) rfl
theorem atI_1 {l : List PyData} {a b : PyData} : L2.atI (a :: b :: l) 1 = some b := DL.atI_nat (i := 1) rfl
theorem atI_2 {l : List PyData} {a b c : PyData} : L2.atI (a :: b :: c :: l) 2 = some c := DL.atI_nat (i := 2) rfl
theorem at_map {vs : List Int} {a : Nat} {x : Int} (h : vs[a]? = some x) : L2.atI (vs.map PyData.int) (a : Int) = some (.int x) := DL.atI_nat (by rw [List.getElem?_map, h]; rfl)
abbrev iS (i : Int) : Sl := .dat (.int i)
abbrev lS (l : List Int) : Sl := .dat (.list (l.map .int))
def pD : Option (Nat × Nat) → PyData
  | none => .none
  | some (a, b) => .tuple [.int (a : Nat), .int (b : Nat)]
/-- the pair holds at the place -/
def PairOk (row : List Int) (pl : Nat) : Option (Nat × Nat) → Prop
  | none => True
  | some (a, b) => a < pl ∧ b ≤ a ∧ ∃ x y, row[a]? = some x ∧ row[b]? = some y ∧ row[pl]? = some (x + y)
/-- which pairs have been looked at -/
def Seen (row : List Int) (pl : Nat) (P : Nat → Nat → Prop) (o : Option (Nat × Nat)) : Prop := PairOk row pl o ∧ ∀ a b x y, P a b → row[a]? = some x → row[b]? = some y → row[pl]? = some (x + y) → o ≠ none
theorem pair_body (row : List Int) (pl a b : Nat) (steps : Sl) (o : Option (Nat × Nat)) (hp : pl < row.length) (ha : a < pl) (hb : b ≤ a) (P : Nat → Nat → Prop) (h : Seen row pl P o) :
    ∃ o', b_chain_of_1 [lS row, steps, iS pl, .dat (pD o), iS a, iS b] = .nx [lS row, steps, iS pl, .dat (pD o'), iS a, iS b] ∧ Seen row pl (fun i j => P i j ∨ (i = a ∧ j = b)) o' := by
  have e1 : row[a]? = some row[a] := List.getElem?_eq_getElem (by omega)
  have e2 : row[b]? = some row[b] := List.getElem?_eq_getElem (by omega)
  have e3 : row[pl]? = some row[pl] := List.getElem?_eq_getElem hp
  by_cases c : row[a] + row[b] = row[pl]
  · refine ⟨some (a, b), ?_, ⟨ha, hb, _, _, e1, e2, by rw [e3, c]⟩, fun _ _ _ _ _ _ _ _ => by simp⟩
    unfold b_chain_of_1
    simp! only [at_map e1, at_map e2, at_map e3, gEq_intf, c]
    rfl
  · refine ⟨o, ?_, h.1, fun i j x y hP hx hy hz => ?_⟩
    · unfold b_chain_of_1
      simp! only [at_map e1, at_map e2, at_map e3, gEq_intf, c]
    · rcases hP with hP | ⟨rfl, rfl⟩
      · exact h.2 i j x y hP hx hy hz
      · exfalso
        have k1 := Option.some.inj (e1.symm.trans hx)
        have k2 := Option.some.inj (e2.symm.trans hy)
        have k3 := Option.some.inj (e3.symm.trans hz)
        exact c (by rw [k1, k2, k3])
theorem other_loop (row : List Int) (pl a : Nat) (steps : Sl) (o : Option (Nat × Nat)) (x5 : Sl) (hp : pl < row.length) (ha : a < pl) (hl : row.length < 100) (h : Seen row pl (fun i j => i < a ∧ j ≤ i) o) :
    ∃ o' x, b_chain_of_2 [lS row, steps, iS pl, .dat (pD o), iS a, x5] = .nx [lS row, steps, iS pl, .dat (pD o'), iS a, x] ∧ Seen row pl (fun i j => i < a + 1 ∧ j ≤ i) o' := by
  have hg := gRange1_eq (j := (a : Int) + 1) (a + 1) (by omega) (by omega) (by omega)
  obtain ⟨e, he, o', x, rfl, hs⟩ := forD_nx (g := gN 5) (b := b_chain_of_1) (ds := rangeD 0 1 (a + 1)) (env := [lS row, steps, iS pl, .dat (pD o), iS a, x5])
    (fun k e => ∃ o' x, e = [lS row, steps, iS pl, .dat (pD o'), iS a, x] ∧ Seen row pl (fun i j => (i < a ∧ j ≤ i) ∨ (i = a ∧ j < k)) o') ⟨o, x5, rfl, h.1, fun i j x y hP => h.2 i j x y (by omega)⟩ (by
    rintro k d e hd ⟨o', x, rfl, hs⟩
    obtain ⟨hlt, rfl⟩ := rangeD_at hd
    have e1 : (0 : Int) + (k : Nat) * 1 = (k : Nat) := by omega
    obtain ⟨o2, g1, g2⟩ := pair_body row pl a k steps o' hp ha (by omega) _ hs
    refine ⟨_, _, by rw [e1]; rfl, g1, o2, _, rfl, g2.1, fun i j x y hP => g2.2 i j x y (by omega)⟩)
  rw [rangeD_length] at hs
  refine ⟨o', x, ?_, hs.1, fun i j x y hP => hs.2 i j x y (by omega)⟩
  unfold b_chain_of_2
  rw [dFor_of (dRange1_of (by simp! only []) hg)]
  exact he
theorem one_loop (row : List Int) (pl : Nat) (steps : Sl) (x4 x5 : Sl) (hp : pl < row.length) (hl : row.length < 100) :
    ∃ o x y, dFor (dRange1 (dVarB 2)) (gN 4) b_chain_of_2 [lS row, steps, iS pl, .dat .none, x4, x5] = .nx [lS row, steps, iS pl, .dat (pD o), x, y] ∧ Seen row pl (fun i j => i < pl ∧ j ≤ i) o := by
  have hg := gRange1_eq (j := (pl : Int)) pl (by omega) (by omega) (by omega)
  obtain ⟨e, he, hk, o, x, y, rfl, hs⟩ := forD_nx (g := gN 4) (b := b_chain_of_2) (ds := rangeD 0 1 pl) (env := [lS row, steps, iS pl, .dat .none, x4, x5])
    (fun k e => k ≤ pl ∧ ∃ o x y, e = [lS row, steps, iS pl, .dat (pD o), x, y] ∧ Seen row pl (fun i j => i < k ∧ j ≤ i) o) ⟨Nat.zero_le _, none, x4, x5, rfl, trivial, fun i j x y hP => by omega⟩ (by
    rintro k d e hd ⟨hk, o, x, y, rfl, hs⟩
    obtain ⟨hlt, rfl⟩ := rangeD_at hd
    have e1 : (0 : Int) + (k : Nat) * 1 = (k : Nat) := by omega
    obtain ⟨o2, x2, g1, g2⟩ := other_loop row pl k steps o y hp hlt hl hs
    exact ⟨_, _, by rw [e1]; rfl, g1, by omega, o2, _, _, rfl, g2⟩)
  rw [rangeD_length] at hs
  refine ⟨o, x, y, ?_, hs⟩
  rw [dFor_of (dRange1_of (by simp! only []) hg)]
  exact he
def stp (a b : Nat) : PyData := .tuple [.str "add", .int (a : Nat), .int (b : Nat)]
/-- every number behind the first is a sum of two ahead -/
def Sums (row : List Int) (n : Nat) : Prop := ∀ pl, 1 ≤ pl → pl < n → ∃ a b x y, a < pl ∧ b ≤ a ∧ row[a]? = some x ∧ row[b]? = some y ∧ row[pl]? = some (x + y)
/-- the steps make the row's numbers -/
def Made (row : List Int) (steps : List PyData) (n : Nat) : Prop := steps.length = n ∧ ∀ k s, steps[k]? = some s → ∃ a b x y, s = stp a b ∧ a < k + 1 ∧ b ≤ a ∧ row[a]? = some x ∧ row[b]? = some y ∧ row[k + 1]? = some (x + y)
theorem chain_step (row : List Int) (pl : Nat) (steps : List PyData) (x3 x4 x5 : Sl) (hp1 : 1 ≤ pl) (hp : pl < row.length) (hl : row.length < 100) (h : Made row steps (pl - 1)) :
    (∃ a b x y x4' x5', a < pl ∧ b ≤ a ∧ row[a]? = some x ∧ row[b]? = some y ∧ row[pl]? = some (x + y) ∧ b_chain_of_3 [lS row, .own (.lst steps), iS pl, x3, x4, x5] = .nx [lS row, .own (.lst (steps ++ [stp a b])), iS pl, .dat (pD (some (a, b))), x4', x5']) ∨
    ((∀ a b x y, a < pl → b ≤ a → row[a]? = some x → row[b]? = some y → row[pl]? ≠ some (x + y)) ∧ ∃ e, b_chain_of_3 [lS row, .own (.lst steps), iS pl, x3, x4, x5] = .ex e "BadChain" [("place", .int ((pl : Int) - 1))]) := by
  obtain ⟨o, x, y, he, hs⟩ := one_loop row pl (.own (.lst steps)) x4 x5 hp hl
  have lim : steps.length < LIM := Nat.lt_of_lt_of_le (show steps.length < 100 by have := h.1; omega) (by decide)
  cases o with
  | none =>
    right
    refine ⟨fun a b x y h1 h2 h3 h4 h5 => hs.2 a b x y ⟨h1, h2⟩ h3 h4 h5 rfl, [lS row, .own (.lst steps), iS pl, .dat .none, x, y], ?_⟩
    unfold b_chain_of_3
    rw [dSeq_nx (e := [lS row, .own (.lst steps), iS pl, .dat .none, x4, x5]) (by simp! only []), dSeq_nx he]
    simp! only [pD]
  | some ab =>
    obtain ⟨a, b⟩ := ab
    obtain ⟨h1, h2, x', y', h3, h4, h5⟩ := hs.1
    left
    refine ⟨a, b, x', y', x, y, h1, h2, h3, h4, h5, ?_⟩
    unfold b_chain_of_3
    rw [dSeq_nx (e := [lS row, .own (.lst steps), iS pl, .dat .none, x4, x5]) (by simp! only []), dSeq_nx he]
    simp! only [pD, lim]
    rfl
end G58

set_option Elab.async false
set_option linter.all false
set_option maxRecDepth 100000
set_option maxHeartbeats 4000000
namespace G58
open PySem PySem.Spec L2 DL
set_option autoImplicit false
theorem Made.snoc {row : List Int} {steps : List PyData} {n a b : Nat} {x y : Int} (h : Made row steps n) (h1 : a < n + 1) (h2 : b ≤ a) (h3 : row[a]? = some x) (h4 : row[b]? = some y) (h5 : row[n + 1]? = some (x + y)) : Made row (steps ++ [stp a b]) (n + 1) := by
  refine ⟨by simp [h.1], fun k s hs => ?_⟩
  by_cases hk : k < steps.length
  · rw [List.getElem?_append_left hk] at hs
    exact h.2 k s hs
  · have hk' := (List.getElem?_eq_some_iff.mp hs).1
    rw [List.length_append, List.length_singleton, h.1] at hk'
    have e : k = n := by have := h.1; omega
    subst e
    rw [List.getElem?_append_right (by rw [h.1]; exact Nat.le_refl _), h.1, Nat.sub_self] at hs
    cases hs
    exact ⟨a, b, x, y, rfl, h1, h2, h3, h4, h5⟩
theorem made_nil (row : List Int) : Made row [] 0 := ⟨rfl, fun k s h => by simp at h⟩
theorem chain_of_ok (row : List Int) (hl : row.length < 100) (h1 : 1 ≤ row.length) (hs : Sums row row.length) : ∃ steps, m_chain_of [.list (row.map .int)] = .ok (.tuple steps) ∧ Made row steps (row.length - 1) := by
  obtain ⟨e, he, hk, steps, x2, x3, x4, x5, rfl, hm⟩ := forD_nx (g := gN 2) (b := b_chain_of_3) (ds := rangeD 1 1 (row.length - 1)) (env := [lS row, .own (.lst []), .un, .un, .un, .un])
    (fun k e => k ≤ row.length - 1 ∧ ∃ steps x2 x3 x4 x5, e = [lS row, .own (.lst steps), x2, x3, x4, x5] ∧ Made row steps k) ⟨Nat.zero_le _, [], _, _, _, _, rfl, made_nil row⟩ (by
    rintro k d e hd ⟨hk, steps, x2, x3, x4, x5, rfl, hm⟩
    obtain ⟨hlt, rfl⟩ := rangeD_at hd
    have e1 : (1 : Int) + (k : Nat) * 1 = ((k + 1 : Nat) : Int) := by omega
    rcases chain_step row (k + 1) steps x3 x4 x5 (by omega) (by omega) hl hm with ⟨a, b, x, y, x4', x5', g1, g2, g3, g4, g5, g6⟩ | ⟨g, _⟩
    · exact ⟨_, _, by rw [e1]; rfl, g6, by omega, _, _, _, _, _, rfl, hm.snoc g1 g2 g3 g4 g5⟩
    · exfalso
      obtain ⟨a, b, x, y, k1, k2, k3, k4, k5⟩ := hs (k + 1) (by omega) (by omega)
      exact g a b x y k1 k2 k3 k4 k5)
  rw [rangeD_length] at hm
  refine ⟨steps, ?_, hm⟩
  have hg := gRange2_eq (i := 1) (j := (row.length : Int)) (row.length - 1) (by decide) (by decide) (by omega) (by omega) (by omega)
  unfold m_chain_of g_chain_of N_chain_of
  simp! only [hg, he]
theorem chain_of_bad (row : List Int) (hl : row.length < 100) (k0 : Nat) (h1 : 1 ≤ k0) (h2 : k0 < row.length) (hs : Sums row k0) (hb : ∀ a b x y, a < k0 → b ≤ a → row[a]? = some x → row[b]? = some y → row[k0]? ≠ some (x + y)) :
    m_chain_of [.list (row.map .int)] = .error (.exc "BadChain" [("place", .int ((k0 : Int) - 1))]) := by
  obtain ⟨e, he⟩ := forD_R (g := gN 2) (b := b_chain_of_3) (ds := rangeD 1 1 (row.length - 1)) (env := [lS row, .own (.lst []), .un, .un, .un, .un]) (R := fun fl => ∃ e, fl = .ex e "BadChain" [("place", .int ((k0 : Int) - 1))])
    (fun k e => k ≤ k0 - 1 ∧ ∃ steps x2 x3 x4 x5, e = [lS row, .own (.lst steps), x2, x3, x4, x5] ∧ Made row steps k) 0 ⟨Nat.zero_le _, [], _, _, _, _, rfl, made_nil row⟩ (by
    rintro k d e hd ⟨hk, steps, x2, x3, x4, x5, rfl, hm⟩
    obtain ⟨hlt, rfl⟩ := rangeD_at hd
    rw [Nat.zero_add] at hk hm ⊢
    have e1 : (1 : Int) + (k : Nat) * 1 = ((k + 1 : Nat) : Int) := by omega
    refine ⟨[lS row, .own (.lst steps), iS ((k + 1 : Nat) : Int), x3, x4, x5], by rw [e1]; rfl, ?_⟩
    rcases chain_step row (k + 1) steps x3 x4 x5 (by omega) (by omega) hl hm with ⟨a, b, x, y, x4', x5', g1, g2, g3, g4, g5, g6⟩ | ⟨g, e', g6⟩
    · rw [g6]
      have : k + 1 ≤ k0 - 1 := by
        by_cases hk0 : k + 1 = k0
        · subst hk0; exact absurd g5 (hb a b x y g1 g2 g3 g4)
        · omega
      exact ⟨this, _, _, _, _, _, rfl, hm.snoc g1 g2 g3 g4 g5⟩
    · rw [g6]
      have hk0 : k + 1 = k0 := by
        by_cases hk0 : k + 1 = k0
        · exact hk0
        · exfalso
          obtain ⟨a, b, x, y, k1, k2, k3, k4, k5⟩ := hs (k + 1) (by omega) (by omega)
          exact g a b x y k1 k2 k3 k4 k5
      exact ⟨e', by rw [← hk0]⟩) (by
    rintro e ⟨hk, _⟩
    rw [rangeD_length] at hk
    omega)
  have hg := gRange2_eq (i := 1) (j := (row.length : Int)) (row.length - 1) (by decide) (by decide) (by omega) (by omega) (by omega)
  unfold m_chain_of g_chain_of N_chain_of
  simp! only [hg, he]
/-! ### the numbers of a chain -/
theorem op_ne : gEq true (.str "add") (.str "add") = some (.bool false) := gEq_of (b := true) (by decide +kernel) (by decide +kernel) (by decide +kernel)
theorem numbers_body (t : Sl) (vs : List Int) (a b : Nat) (y z : Int) (h1 : vs[a]? = some y) (h2 : vs[b]? = some z) (hl : vs.length < 200) :
    b__law_numbers_1 [t, .own (.lst (vs.map .int)), .dat (stp a b)] = .nx [t, .own (.lst ((vs ++ [y + z]).map .int)), .dat (stp a b)] := by
  have l1 := (List.getElem?_eq_some_iff.mp h1).1
  have l2 := (List.getElem?_eq_some_iff.mp h2).1
  have lim : vs.length < LIM := Nat.lt_trans hl (by decide)
  unfold b__law_numbers_1 stp
  simp! only [atI_0, atI_1, atI_2, op_ne, gEq_intt, show (a : Int) < (vs.length : Int) by omega, show (b : Int) < (vs.length : Int) by omega, show (0 : Int) ≤ (a : Int) by omega, show (0 : Int) ≤ (b : Int) by omega, at_map h1, at_map h2, lim, List.map_append, Int.reduceEq, show ((3 : Nat) : Int) = 3 from rfl]
theorem numbers_ok (row : List Int) (steps : List PyData) (n : Nat) (h0 : row[0]? = some 1) (hn : n + 1 ≤ row.length) (hl : row.length < 100) (h : Made row steps n) : m__law_numbers [.tuple steps] = .ok (.list ((row.take (n + 1)).map .int)) := by
  have ht : row.take 1 = [1] := by
    cases row with
    | nil => cases h0
    | cons x r => simp at h0; subst h0; rfl
  obtain ⟨e, he, hk, x, rfl⟩ := forD_nx (g := gN 2) (b := b__law_numbers_1) (ds := steps) (env := [.dat (.tuple steps), .own (.lst [.int 1]), .un])
    (fun k e => k ≤ n ∧ ∃ x, e = [.dat (.tuple steps), .own (.lst ((row.take (k + 1)).map .int)), x]) ⟨Nat.zero_le _, .un, by rw [ht]; rfl⟩ (by
    rintro k d e hd ⟨hk, x, rfl⟩
    have hlt := (List.getElem?_eq_some_iff.mp hd).1
    rw [h.1] at hlt
    obtain ⟨a, b, y, z, rfl, g1, g2, g3, g4, g5⟩ := h.2 k d hd
    refine ⟨[.dat (.tuple steps), .own (.lst ((row.take (k + 1)).map .int)), .dat (stp a b)], _, rfl, numbers_body _ _ a b y z (by rw [List.getElem?_take_of_lt (by omega)]; exact g3) (by rw [List.getElem?_take_of_lt (by omega)]; exact g4) (by simp; omega), by omega, .dat (stp a b), ?_⟩
    rw [List.take_succ (i := k + 1), g5]
    rfl)
  rw [h.1] at he
  unfold m__law_numbers g__law_numbers N__law_numbers
  simp! only [he]
end G58

set_option Elab.async false
set_option linter.all false
set_option maxRecDepth 100000
set_option maxHeartbeats 4000000
namespace G58
open PySem PySem.Spec L2 DL
set_option autoImplicit false
/-! ### the search -/
def cands (n last one : Int) (others : List Int) : List Int := (others.filter fun o => decide (o ≤ one) && (decide (last < one + o) && decide (one + o ≤ n))).map fun o => one + o
def scan (f : Int → Option (List Int)) : List Int → List Int → Option (List Int) × List Int
  | [], tr => (none, tr)
  | s :: r, tr => if decide (s ∈ tr) = true then scan f r tr else match f s with
    | some x => (some x, tr ++ [s])
    | none => scan f r (tr ++ [s])
def lastI (row : List Int) : Int := row.getLastD 0
def allC (n : Int) (row : List Int) (ones : List Int) : List Int := ones.flatMap fun one => cands n (lastI row) one row.reverse
def deepM (n : Int) : Nat → List Int → Option (List Int)
  | 0, row => if lastI row = n then some row else none
  | s + 1, row => if lastI row = n then some row else if lastI row * 2 ^ (s + 1) < n then none else (scan (fun st => deepM n s (row ++ [st])) (allC n row row.reverse) []).1
def enc : Option (List Int) → PyData
  | none => .none
  | some l => .list (l.map .int)
theorem scan_nil (f : Int → Option (List Int)) (tr : List Int) : scan f [] tr = (none, tr) := rfl
theorem scan_in {f : Int → Option (List Int)} {s : Int} {r tr : List Int} (h : s ∈ tr) : scan f (s :: r) tr = scan f r tr := by
  conv => lhs; unfold scan
  rw [if_pos (decide_eq_true h)]
theorem scan_some {f : Int → Option (List Int)} {s : Int} {r tr x : List Int} (h : s ∉ tr) (e : f s = some x) : scan f (s :: r) tr = (some x, tr ++ [s]) := by
  conv => lhs; unfold scan
  rw [if_neg (by simp [h]), e]
theorem scan_none {f : Int → Option (List Int)} {s : Int} {r tr : List Int} (h : s ∉ tr) (e : f s = none) : scan f (s :: r) tr = scan f r (tr ++ [s]) := by
  conv => lhs; unfold scan
  rw [if_neg (by simp [h]), e]
theorem scan_app (f : Int → Option (List Int)) : ∀ (a b tr : List Int), scan f (a ++ b) tr = match scan f a tr with
    | (some x, t) => (some x, t)
    | (none, t) => scan f b t
  | [], b, tr => rfl
  | s :: r, b, tr => by
    rw [List.cons_append]
    by_cases h : s ∈ tr
    · rw [scan_in h, scan_in h]; exact scan_app f r b tr
    · cases e : f s with
      | some x => rw [scan_some h e, scan_some h e]
      | none => rw [scan_none h e, scan_none h e]; exact scan_app f r b _
theorem scan_len (f : Int → Option (List Int)) : ∀ (a tr : List Int), (scan f a tr).2.length ≤ tr.length + a.length
  | [], tr => Nat.le_refl _
  | s :: r, tr => by
    unfold scan
    have h1 := scan_len f r tr
    have h2 := scan_len f r (tr ++ [s])
    rw [List.length_append, List.length_singleton] at h2
    rw [List.length_cons]
    split
    · omega
    · split
      · simp
      · omega
abbrev ob (n : Int) : Sl := .obj "Shortest" [("number", .int n)]
theorem last_at {row : List Int} (h : row ≠ []) : L2.atI (row.map PyData.int) (-1) = some (.int (lastI row)) := by
  refine atI_last (getLast?_map_int ?_)
  unfold lastI
  rw [List.getLastD_eq_getLast?]
  cases hh : row.getLast? with
  | none => exact absurd (List.getLast?_eq_none_iff.mp hh) h
  | some x => rfl
theorem in_ints (neg : Bool) (x : Int) (l : List Int) : gIn neg (.int x) (.list (l.map .int)) = some (.bool (if neg then !decide (x ∈ l) else decide (x ∈ l))) := by
  refine gIn_of (shaped_int x) ((Shp.list (n := 1) (Shp.ints 1 l)).ok (by decide)) ?_
  rw [List.any_map]
  have : ∀ l : List Int, (l.any ((fun z => PyData.eqv z (.int x)) ∘ PyData.int)) = decide (x ∈ l) := by
    intro l
    induction l with
    | nil => rfl
    | cons y r ih =>
      rw [List.any_cons, ih]
      show (PyData.eqv (.int y) (.int x) || _) = _
      rw [eqv_int]
      by_cases h : y = x
      · subst h; simp
      · simp [h, Ne.symm h]
  exact this l
theorem look_n (n : Int) : List.lookup ("number" : Str) [(("number" : Str), PyData.int n)] = some (.int n) := by simp [List.lookup]
theorem look_d (n : Int) : List.lookup ("deeper" : Str) [(("number" : Str), PyData.int n)] = none := by
  rw [List.lookup_cons]
  have : (("deeper" : Str) == ("number" : Str)) = false := by decide +kernel
  rw [this]; rfl
def RI (n : Int) (row : List Int) (size : Int) (one : Sl) (o : Option (List Int) × List Int) (fl : Fl) : Prop := match o with
  | (some x, _) => fl = .rt (.list (x.map .int))
  | (none, tr) => ∃ x5 x6 x7, fl = .nx [ob n, lS row, iS size, .own (.lst (tr.map .int)), one, x5, x6, x7]
theorem inner (n : Int) (row : List Int) (size : Nat) (one : Int) (rec : List (Str × PyData) → List PyData → R PyData) (f : Int → Option (List Int)) (hne : row ≠ []) (hl : row.length < 100)
    (hrec : ∀ st, lastI row < st → st ≤ n → rec [("number", .int n)] [.list ((row ++ [st]).map .int), .int ((size : Int) - 1)] = .ok (enc (f st))) : ∀ (others tr : List Int) (x5 x6 x7 : Sl), tr.length + others.length < 1000000 →
    RI n row size (iS one) (scan f (cands n (lastI row) one others) tr) (forD (gN 5) (b_Shortest_deeper_1 rec) (others.map .int) [ob n, lS row, iS size, .own (.lst (tr.map .int)), iS one, x5, x6, x7])
  | [], tr, x5, x6, x7, h => ⟨x5, x6, x7, rfl⟩
  | o :: others, tr, x5, x6, x7, h => by
    rw [List.length_cons] at h
    have lim : tr.length < LIM := Nat.lt_of_lt_of_le (show tr.length < 1000000 by omega) (by decide)
    have limr : row.length + 1 < LIM := Nat.lt_of_lt_of_le (show row.length + 1 < 1000 by omega) (by decide)
    have la := last_at hne
    show RI n row size (iS one) _ (match b_Shortest_deeper_1 rec [ob n, lS row, iS size, .own (.lst (tr.map .int)), iS one, iS o, x6, x7] with
      | .nx e => forD (gN 5) (b_Shortest_deeper_1 rec) (others.map .int) e
      | .ct e => forD (gN 5) (b_Shortest_deeper_1 rec) (others.map .int) e
      | .bk e => .nx e
      | r => r)
    have ih := fun tr' x5 x6 x7 h' => inner n row size one rec f hne hl hrec others tr' x5 x6 x7 h'
    have skip : ∀ e, e = [ob n, lS row, iS size, .own (.lst (tr.map .int)), iS one, iS o, iS (one + o), x7] → b_Shortest_deeper_1 rec [ob n, lS row, iS size, .own (.lst (tr.map .int)), iS one, iS o, x6, x7] = .nx e → scan f (cands n (lastI row) one (o :: others)) tr = scan f (cands n (lastI row) one others) tr →
        RI n row size (iS one) (scan f (cands n (lastI row) one (o :: others)) tr) (match b_Shortest_deeper_1 rec [ob n, lS row, iS size, .own (.lst (tr.map .int)), iS one, iS o, x6, x7] with
      | .nx e => forD (gN 5) (b_Shortest_deeper_1 rec) (others.map .int) e
      | .ct e => forD (gN 5) (b_Shortest_deeper_1 rec) (others.map .int) e
      | .bk e => .nx e
      | r => r) := fun e he h1 h2 => by
      rw [h1, h2, he]
      exact ih tr _ _ _ (by omega)
    by_cases c1 : o ≤ one
    · by_cases c2 : lastI row < one + o
      · by_cases c3 : one + o ≤ n
        · have ec : cands n (lastI row) one (o :: others) = (one + o) :: cands n (lastI row) one others := by
            unfold cands
            rw [List.filter_cons, if_pos (by simp [c1, c2, c3]), List.map_cons]
          by_cases c4 : (one + o) ∈ tr
          · refine skip _ rfl ?_ ?_
            · unfold b_Shortest_deeper_1
              simp! only [la, c1, c2, c3, dFld, look_n, in_ints, c4]
            · rw [ec]; exact scan_in c4
          · rw [ec]
            have hr := hrec (one + o) c2 c3
            rw [List.map_append] at hr
            have hr' : rec [("number", .int n)] [.list (row.map .int ++ [.int (one + o)]), .int ((size : Int) - 1)] = .ok (enc (f (one + o))) := hr
            cases hf : f (one + o) with
            | some x =>
              rw [hf] at hr'
              rw [scan_some c4 hf]
              have hb : b_Shortest_deeper_1 rec [ob n, lS row, iS size, .own (.lst (tr.map .int)), iS one, iS o, x6, x7] = .rt (.list (x.map .int)) := by
                unfold b_Shortest_deeper_1
                simp! only [la, c1, c2, c3, dFld, look_n, in_ints, c4, lim, dMethO, look_d, limr, hr', okOnly, enc, and_self]
              rw [hb]
              rfl
            | none =>
              rw [hf] at hr'
              rw [scan_none c4 hf]
              have hb : b_Shortest_deeper_1 rec [ob n, lS row, iS size, .own (.lst (tr.map .int)), iS one, iS o, x6, x7] = .nx [ob n, lS row, iS size, .own (.lst ((tr ++ [one + o]).map .int)), iS one, iS o, iS (one + o), .dat .none] := by
                unfold b_Shortest_deeper_1
                simp! only [la, c1, c2, c3, dFld, look_n, in_ints, c4, lim, dMethO, look_d, limr, hr', okOnly, enc, and_self, List.map_append]
              rw [hb]
              exact ih _ _ _ _ (by rw [List.length_append, List.length_singleton]; omega)
        · refine skip _ rfl ?_ ?_
          · unfold b_Shortest_deeper_1
            simp! only [la, c1, c2, c3, dFld, look_n, in_ints]
          · unfold cands
            rw [List.filter_cons, if_neg (by simp [c1, c2, c3])]
      · refine skip _ rfl ?_ ?_
        · unfold b_Shortest_deeper_1
          simp! only [la, c1, c2]
        · unfold cands
          rw [List.filter_cons, if_neg (by simp [c1, c2])]
    · refine skip _ rfl ?_ ?_
      · unfold b_Shortest_deeper_1
        simp! only [c1]
      · unfold cands
        rw [List.filter_cons, if_neg (by simp [c1])]
def RO (n : Int) (row : List Int) (size : Int) (o : Option (List Int) × List Int) (fl : Fl) : Prop := match o with
  | (some x, _) => fl = .rt (.list (x.map .int))
  | (none, tr) => ∃ x4 x5 x6 x7, fl = .nx [ob n, lS row, iS size, .own (.lst (tr.map .int)), x4, x5, x6, x7]
theorem outer (n : Int) (row : List Int) (size : Nat) (rec : List (Str × PyData) → List PyData → R PyData) (f : Int → Option (List Int)) (hne : row ≠ []) (hl : row.length < 100)
    (hrec : ∀ st, lastI row < st → st ≤ n → rec [("number", .int n)] [.list ((row ++ [st]).map .int), .int ((size : Int) - 1)] = .ok (enc (f st))) : ∀ (ones tr : List Int) (x4 x5 x6 x7 : Sl), tr.length + ones.length * 100 < 1000000 →
    RO n row size (scan f (allC n row ones) tr) (forD (gN 4) (b_Shortest_deeper_2 rec) (ones.map .int) [ob n, lS row, iS size, .own (.lst (tr.map .int)), x4, x5, x6, x7])
  | [], tr, x4, x5, x6, x7, h => ⟨x4, x5, x6, x7, rfl⟩
  | one :: ones, tr, x4, x5, x6, x7, h => by
    rw [List.length_cons] at h
    have e1 : allC n row (one :: ones) = cands n (lastI row) one row.reverse ++ allC n row ones := by unfold allC; rw [List.flatMap_cons]
    rw [e1, scan_app]
    have hlen : (cands n (lastI row) one row.reverse).length ≤ 100 := by
      unfold cands
      rw [List.length_map]
      have := List.length_filter_le (fun o => decide (o ≤ one) && (decide (lastI row < one + o) && decide (one + o ≤ n))) row.reverse
      rw [List.length_reverse] at this
      omega
    have hi := inner n row size one rec f hne hl hrec row.reverse tr x5 x6 x7 (by rw [List.length_reverse]; omega)
    have hb : b_Shortest_deeper_2 rec [ob n, lS row, iS size, .own (.lst (tr.map .int)), iS one, x5, x6, x7] = forD (gN 5) (b_Shortest_deeper_1 rec) (row.reverse.map .int) [ob n, lS row, iS size, .own (.lst (tr.map .int)), iS one, x5, x6, x7] := by
      unfold b_Shortest_deeper_2
      rw [dFor_of (l := row.reverse.map .int)]
      simp! only [dRevL, List.map_reverse]
    show RO n row size _ (match b_Shortest_deeper_2 rec [ob n, lS row, iS size, .own (.lst (tr.map .int)), iS one, x5, x6, x7] with
      | .nx e => forD (gN 4) (b_Shortest_deeper_2 rec) (ones.map .int) e
      | .ct e => forD (gN 4) (b_Shortest_deeper_2 rec) (ones.map .int) e
      | .bk e => .nx e
      | r => r)
    rw [hb]
    have hs := scan_len f (cands n (lastI row) one row.reverse) tr
    cases hsc : scan f (cands n (lastI row) one row.reverse) tr with
    | mk o t =>
      rw [hsc] at hi hs
      cases o with
      | some x =>
        have hi' : forD (gN 5) (b_Shortest_deeper_1 rec) (row.reverse.map .int) [ob n, lS row, iS size, .own (.lst (tr.map .int)), iS one, x5, x6, x7] = .rt (.list (x.map .int)) := hi
        rw [hi']
        rfl
      | none =>
        obtain ⟨y5, y6, y7, hi'⟩ := hi
        rw [hi']
        have hs' : t.length ≤ tr.length + (cands n (lastI row) one row.reverse).length := hs
        exact outer n row size rec f hne hl hrec ones t _ _ _ _ (by omega)
theorem lastI_app (row : List Int) (x : Int) : lastI (row ++ [x]) = x := by
  unfold lastI
  rw [List.getLastD_eq_getLast?, List.getLast?_append]
  rfl
theorem deeper_ok (n : Int) (hn : n < 1000) : ∀ (size d : Nat) (row : List Int), size < d → row ≠ [] → row.length + size < 100 → 0 ≤ lastI row → lastI row < 1000 → m_Shortest_deeper d [("number", .int n)] [.list (row.map .int), .int (size : Nat)] = .ok (enc (deepM n size row))
  | 0, 0, row, hd, _, _, _, _ => by omega
  | 0, d + 1, row, hd, hne, hl, h0, h1 => by
    have la := last_at hne
    show runO _ _ _ _ _ = _
    unfold N_Shortest_deeper g_Shortest_deeper deepM
    by_cases c : lastI row = n
    · simp! only [runO, startO, la, gEq_intf, dFld, look_n, c, enc]
    · simp! only [runO, startO, la, gEq_intf, dFld, look_n, c, enc, Int.natCast_zero]
  | s + 1, 0, row, hd, _, _, _, _ => by omega
  | s + 1, d + 1, row, hd, hne, hl, h0, h1 => by
    have la := last_at hne
    have hrec : ∀ st, lastI row < st → st ≤ n → m_Shortest_deeper d [("number", .int n)] [.list ((row ++ [st]).map .int), .int (((s + 1 : Nat) : Int) - 1)] = .ok (enc (deepM n s (row ++ [st]))) := fun st g1 g2 => by
      have e : ((s + 1 : Nat) : Int) - 1 = (s : Nat) := by omega
      rw [e]
      exact deeper_ok n hn s d (row ++ [st]) (by omega) (by simp) (by rw [List.length_append, List.length_singleton]; omega) (by rw [lastI_app]; omega) (by rw [lastI_app]; omega)
    have ho := outer n row (s + 1) (m_Shortest_deeper d) (fun st => deepM n s (row ++ [st])) hne (by omega) hrec row.reverse [] .un .un .un .un (by rw [List.length_reverse, List.length_nil]; omega)
    have sh : shlB (lastI row) ((s + 1 : Nat) : Int) = true := shlB_of (by omega) (by omega) (by omega)
    have z1 : ¬ ((s + 1 : Nat) : Int) = 0 := by omega
    have z2 : ((s + 1 : Nat) : Int).toNat = s + 1 := by omega
    show runO _ _ _ _ _ = _
    unfold N_Shortest_deeper g_Shortest_deeper
    have e0 : deepM n (s + 1) row = if lastI row = n then some row else if lastI row * 2 ^ (s + 1) < n then none else (scan (fun st => deepM n s (row ++ [st])) (allC n row row.reverse) []).1 := rfl
    rw [e0]
    by_cases c : lastI row = n
    · simp! only [runO, startO, la, gEq_intf, dFld, look_n, c, enc]
    · by_cases c2 : lastI row * 2 ^ (s + 1) < n
      · simp! only [runO, startO, la, gEq_intf, dFld, look_n, c, enc, z1, z2, sh, c2]
      · cases hsc : scan (fun st => deepM n s (row ++ [st])) (allC n row row.reverse) [] with
        | mk o t =>
          rw [hsc] at ho
          have er : (List.map PyData.int row).reverse = row.reverse.map .int := by rw [List.map_reverse]
          cases o with
          | some x =>
            have ho' : forD (gN 4) (b_Shortest_deeper_2 (m_Shortest_deeper d)) (row.reverse.map .int) [ob n, lS row, iS ((s + 1 : Nat) : Int), .own (.lst ([] : List PyData)), .un, .un, .un, .un] = .rt (.list (x.map .int)) := ho
            simp! only [runO, startO, la, gEq_intf, dFld, look_n, c, enc, z1, z2, sh, c2, dRevL, er, ho']
          | none =>
            obtain ⟨y4, y5, y6, y7, ho'⟩ := ho
            have ho2 : forD (gN 4) (b_Shortest_deeper_2 (m_Shortest_deeper d)) (row.reverse.map .int) [ob n, lS row, iS ((s + 1 : Nat) : Int), .own (.lst ([] : List PyData)), .un, .un, .un, .un] = .nx [ob n, lS row, iS ((s + 1 : Nat) : Int), .own (.lst (t.map .int)), y4, y5, y6, y7] := ho'
            simp! only [runO, startO, la, gEq_intf, dFld, look_n, c, enc, z1, z2, sh, c2, dRevL, er, ho2]
end G58

set_option Elab.async false
set_option linter.all false
set_option maxRecDepth 100000
set_option maxHeartbeats 4000000
namespace G58
open PySem PySem.Spec L2 DL
set_option autoImplicit false
def findS (n : Int) : Nat → Nat → Option (Nat × List Int)
  | 0, _ => none
  | k + 1, s => match deepM n s [1] with
    | some r => some (s, r)
    | none => findS n k (s + 1)
def sumsB (r : List Int) : Bool := (List.range r.length).all fun pl => decide (pl = 0) || (List.range pl).any fun a => (List.range (a + 1)).any fun b => decide (r.getD a 0 + r.getD b 0 = r.getD pl 0)
def extC (n last : Int) (k : Nat) (row : List Int) : List Int := row.flatMap fun one => (row.filter fun o => decide (last < one + o) && (decide (one + o ≤ n) && decide (n ≤ (one + o) * 2 ^ k))).map fun o => one + o
def ded : List Int → List Int → List Int
  | tr, [] => tr
  | tr, s :: r => if decide (s ∈ tr) = true then ded tr r else ded (tr ++ [s]) r
def nextR (n : Int) (k : Nat) (rows : List (List Int)) : List (List Int) := rows.flatMap fun row => (ded [] (extC n (lastI row) k row)).map fun t => row ++ [t]
def lv (n : Int) : Nat → List (List Int) → List (List Int)
  | 0, rows => rows
  | k + 1, rows => lv n k (nextR n k rows)
def lvOk (n : Int) : Nat → List (List Int) → Bool
  | 0, rows => decide (rows.length < 100000)
  | k + 1, rows => decide (rows.length < 100000) && lvOk n k (nextR n k rows)
def chkN (n : Nat) : Bool := match findS (n : Int) 8 n.log2 with
  | none => false
  | some (s, r) => decide (r.length < 20) && (decide (r[0]? = some 1) && (decide (lastI r = n) && (sumsB r && (decide (s < 11) && (decide (n ≤ 1) || (decide (2 ≤ r.length) && (lvOk n (r.length - 2) [[1]] && !(lv n (r.length - 2) [[1]]).any fun row => decide (lastI row = n))))))))

theorem chk_all : ((List.range 40).all fun k => chkN (k + 1)) = true := by decide +kernel
end G58

set_option Elab.async false
set_option linter.all false
set_option maxRecDepth 100000
set_option maxHeartbeats 4000000
namespace G58
open PySem PySem.Spec L2 DL
set_option autoImplicit false
theorem bits_nat {n : Nat} (h : 1 ≤ n) : Builtin.Int.intBits (n : Int) = n.log2 + 1 := by
  unfold Builtin.Int.intBits
  have : ¬ ((n : Int) == 0) = true := by simp; omega
  rw [if_neg this]; rfl
theorem findS_spec (n : Int) : ∀ (k s s1 : Nat) (r : List Int), findS n k s = some (s1, r) → s ≤ s1 ∧ s1 < s + k ∧ deepM n s1 [1] = some r ∧ ∀ s', s ≤ s' → s' < s1 → deepM n s' [1] = none
  | 0, s, s1, r, h => by cases h
  | k + 1, s, s1, r, h => by
    unfold findS at h
    cases hd : deepM n s [1] with
    | some x =>
      rw [hd] at h
      cases h
      exact ⟨Nat.le_refl _, by omega, hd, fun s' a b => by omega⟩
    | none =>
      rw [hd] at h
      obtain ⟨a, b, c, d⟩ := findS_spec n k (s + 1) s1 r h
      refine ⟨by omega, by omega, c, fun s' h1 h2 => ?_⟩
      by_cases e : s' = s
      · subst e; exact hd
      · exact d s' (by omega) h2
theorem found_ok (n : Nat) (h1 : 1 ≤ n) (hn : n < 1000) (s1 : Nat) (r : List Int) (hs : s1 < 12) (h : findS (n : Int) 8 n.log2 = some (s1, r)) : m_Shortest_found [("number", .int (n : Nat))] [] = .ok (.list (r.map .int)) := by
  obtain ⟨g1, g2, g3, g4⟩ := findS_spec n 8 n.log2 s1 r h
  have key : dWhile (fun _ => FUEL.1) t_Shortest_found_1 b_Shortest_found_1 [ob n, iS ((n.log2 : Nat) : Int), .un] = .rt (.list (r.map .int)) :=
    whileD_R (R := fun fl => fl = .rt (.list (r.map .int))) (fun m e => ∃ (sz : Nat) (x : Sl), n.log2 ≤ sz ∧ sz ≤ s1 ∧ m = s1 - sz ∧ e = [ob n, iS sz, x]) (by
      rintro m e ⟨sz, x, a1, a2, rfl, rfl⟩
      right
      refine ⟨by unfold t_Shortest_found_1; simp! only [], ?_⟩
      have hd := deeper_ok n (by omega) sz 12 [1] (by omega) (by simp) (by simp; omega) (by show (0 : Int) ≤ 1; decide) (by show (1 : Int) < 1000; decide)
      have hd' : m_Shortest_deeper 12 [("number", .int (n : Nat))] [.list [.int 1], .int (sz : Nat)] = .ok (enc (deepM n sz [1])) := hd
      by_cases e : sz = s1
      · subst e
        rw [g3] at hd'
        have hb : b_Shortest_found_1 [ob n, iS sz, x] = .rt (.list (r.map .int)) := by
          unfold b_Shortest_found_1
          simp! only [dMethO, look_d, hd', okOnly, enc, and_self]
        rw [hb]
        exact rfl
      · rw [g4 sz a1 (by omega)] at hd'
        have hb : b_Shortest_found_1 [ob n, iS sz, x] = .nx [ob n, iS ((sz : Int) + 1), .dat .none] := by
          unfold b_Shortest_found_1
          simp! only [dMethO, look_d, hd', okOnly, enc, and_self]
        rw [hb]
        exact ⟨s1 - (sz + 1), by omega, sz + 1, .dat .none, by omega, by omega, rfl, by
          have : ((sz + 1 : Nat) : Int) = (sz : Int) + 1 := by omega
          rw [this]⟩) (s1 - n.log2) FUEL.1 _ ⟨n.log2, .un, Nat.le_refl _, g1, rfl, rfl⟩ (fuel_lt (by omega))
  unfold m_Shortest_found N_Shortest_found g_Shortest_found
  have eb : ((n.log2 + 1 : Nat) : Int) - 1 = ((n.log2 : Nat) : Int) := by omega
  simp! only [runO, startO, dFld, look_n, bits_nat h1, eb, key]
theorem sumsB_ok (r : List Int) (h : sumsB r = true) : Sums r r.length := by
  intro pl h1 h2
  unfold sumsB at h
  rw [List.all_eq_true] at h
  have q := h pl (List.mem_range.mpr h2)
  have hz : decide (pl = 0) = false := decide_eq_false (by omega)
  rw [hz, Bool.false_or, List.any_eq_true] at q
  obtain ⟨a, ha, q⟩ := q
  rw [List.any_eq_true] at q
  obtain ⟨b, hb, q⟩ := q
  have ha' := List.mem_range.mp ha
  have hb' := List.mem_range.mp hb
  have q' := of_decide_eq_true q
  have gd : ∀ k, k < r.length → r[k]? = some (r.getD k 0) := fun k hk => by
    rw [List.getD_eq_getElem?_getD, List.getElem?_eq_getElem hk]; rfl
  exact ⟨a, b, _, _, ha', by omega, gd a (by omega), gd b (by omega), by rw [gd pl h2, q']⟩
/-- what the check says of a number -/
theorem shortest_ok (n : Nat) (h1 : 1 ≤ n) (h2 : n ≤ 40) : ∃ (r : List Int) (steps : List PyData), m_shortest_chain [.int (n : Nat)] = .ok (.tuple steps) ∧ Made r steps (r.length - 1) ∧ r.length < 20 ∧ r[0]? = some 1 ∧ lastI r = n ∧ (1 < n → 2 ≤ r.length ∧ lvOk (n : Int) (r.length - 2) [[1]] = true ∧ ((lv (n : Int) (r.length - 2) [[1]]).any fun row => decide (lastI row = n)) = false) := by
  have hc := List.all_eq_true.mp chk_all (n - 1) (List.mem_range.mpr (by omega))
  rw [show n - 1 + 1 = n by omega] at hc
  unfold chkN at hc
  cases hf : findS (n : Int) 8 n.log2 with
  | none => rw [hf] at hc; cases hc
  | some sr =>
    obtain ⟨s, r⟩ := sr
    rw [hf] at hc
    simp only [Bool.and_eq_true, decide_eq_true_eq, Bool.or_eq_true, Bool.not_eq_true'] at hc
    obtain ⟨c1, c2, c3, c4, c5, c6⟩ := hc
    have hr1 : 1 ≤ r.length := by
      cases r with
      | nil => cases c2
      | cons a b => simp
    obtain ⟨steps, k1, k2⟩ := chain_of_ok r (by omega) hr1 (sumsB_ok r c4)
    have k3 := found_ok n h1 (by omega) s r (by omega) hf
    refine ⟨r, steps, ?_, k2, c1, c2, c3, fun hn => ?_⟩
    · unfold m_shortest_chain g_shortest_chain N_shortest_chain
      simp! only [check_goal_int _ (show (1 : Int) ≤ (n : Int) by omega), show ¬ (200 : Int) < (n : Int) by omega, dNewM, k3, okOnly, k1]
    · rcases c6 with c6 | ⟨c6, c7, c8⟩
      · omega
      · exact ⟨c6, c7, c8⟩
theorem size_ok (d : PyData) (steps : List PyData) (h : m_shortest_chain [d] = .ok (.tuple steps)) : m_shortest_size [d] = .ok (.int steps.length) := by
  unfold m_shortest_size g_shortest_size N_shortest_size
  simp! only [h]
end G58

set_option Elab.async false
set_option linter.all false
set_option maxRecDepth 100000
set_option maxHeartbeats 4000000
namespace G58
open PySem PySem.Spec L2 DL
set_option autoImplicit false
def dedN : List Int → List Int → List Int
  | _, [] => []
  | tr, s :: r => if decide (s ∈ tr) = true then dedN tr r else s :: dedN (tr ++ [s]) r
theorem dedN_in {s : Int} {r tr : List Int} (h : s ∈ tr) : dedN tr (s :: r) = dedN tr r := by
  conv => lhs; unfold dedN
  rw [if_pos (decide_eq_true h)]
theorem dedN_out {s : Int} {r tr : List Int} (h : s ∉ tr) : dedN tr (s :: r) = s :: dedN (tr ++ [s]) r := by
  conv => lhs; unfold dedN
  rw [if_neg (by simp [h])]
theorem ded_eq : ∀ (cs tr : List Int), ded tr cs = tr ++ dedN tr cs
  | [], tr => by unfold ded dedN; simp
  | s :: r, tr => by
    by_cases h : s ∈ tr
    · rw [dedN_in h]; conv => lhs; unfold ded
      rw [if_pos (decide_eq_true h)]; exact ded_eq r tr
    · rw [dedN_out h]; conv => lhs; unfold ded
      rw [if_neg (by simp [h]), ded_eq r (tr ++ [s])]; simp
theorem dedN_app : ∀ (a b tr : List Int), dedN tr (a ++ b) = dedN tr a ++ dedN (tr ++ dedN tr a) b
  | [], b, tr => by simp [dedN]
  | s :: r, b, tr => by
    rw [List.cons_append]
    by_cases h : s ∈ tr
    · rw [dedN_in h, dedN_in h]; exact dedN_app r b tr
    · rw [dedN_out h, dedN_out h, dedN_app r b (tr ++ [s])]; simp
def candE (n last : Int) (k : Nat) (one : Int) (others : List Int) : List Int := (others.filter fun o => decide (last < one + o) && (decide (one + o ≤ n) && decide (n ≤ (one + o) * 2 ^ k))).map fun o => one + o
def encR (row : List Int) (t : Int) : PyData := .list ((row ++ [t]).map .int)
theorem innerE (n : Int) (size step k : Nat) (hk : k + step + 1 = size) (hk2 : size < 1000) (hn : n < 1000) (R2 : Sl) (row : List Int) (one : Int) (hne : row ≠ []) (hl : row.length < 1000) (hp : 0 ≤ lastI row) : ∀ (others tr : List Int) (lon : List PyData) (x8 x9 : Sl),
    tr.length + others.length < 200000 → lon.length + (dedN tr (candE n (lastI row) k one others)).length < 200000 →
    ∃ y8 y9, forD (gN 8) b__law_is_made_1 (others.map .int) [iS n, iS size, R2, iS step, .own (.lst lon), lS row, .own (.lst (tr.map .int)), iS one, x8, x9] =
      .nx [iS n, iS size, R2, iS step, .own (.lst (lon ++ (dedN tr (candE n (lastI row) k one others)).map (encR row))), lS row, .own (.lst ((tr ++ dedN tr (candE n (lastI row) k one others)).map .int)), iS one, y8, y9]
  | [], tr, lon, x8, x9, h, h' => ⟨x8, x9, by simp [candE, dedN, forD]⟩
  | o :: others, tr, lon, x8, x9, h, h' => by
    rw [List.length_cons] at h
    have la := last_at hne
    have lim : tr.length < LIM := Nat.lt_of_lt_of_le (show tr.length < 200000 by omega) (by decide)
    have lim2 : lon.length < LIM := Nat.lt_of_lt_of_le (show lon.length < 200000 by omega) (by decide)
    have lim3 : row.length + 1 < LIM := Nat.lt_of_lt_of_le (show row.length + 1 < 200000 by omega) (by decide)
    have ek : ((size : Int) - (step : Int) - 1) = (k : Nat) := by omega
    show ∃ y8 y9, (match b__law_is_made_1 [iS n, iS size, R2, iS step, .own (.lst lon), lS row, .own (.lst (tr.map .int)), iS one, iS o, x9] with
      | .nx e => forD (gN 8) b__law_is_made_1 (others.map .int) e
      | .ct e => forD (gN 8) b__law_is_made_1 (others.map .int) e
      | .bk e => .nx e
      | r => r) = _
    have skip : b__law_is_made_1 [iS n, iS size, R2, iS step, .own (.lst lon), lS row, .own (.lst (tr.map .int)), iS one, iS o, x9] = .nx [iS n, iS size, R2, iS step, .own (.lst lon), lS row, .own (.lst (tr.map .int)), iS one, iS o, iS (one + o)] →
        dedN tr (candE n (lastI row) k one (o :: others)) = dedN tr (candE n (lastI row) k one others) → ∃ y8 y9, (match b__law_is_made_1 [iS n, iS size, R2, iS step, .own (.lst lon), lS row, .own (.lst (tr.map .int)), iS one, iS o, x9] with
      | .nx e => forD (gN 8) b__law_is_made_1 (others.map .int) e
      | .ct e => forD (gN 8) b__law_is_made_1 (others.map .int) e
      | .bk e => .nx e
      | r => r) = .nx [iS n, iS size, R2, iS step, .own (.lst (lon ++ (dedN tr (candE n (lastI row) k one (o :: others))).map (encR row))), lS row, .own (.lst ((tr ++ dedN tr (candE n (lastI row) k one (o :: others))).map .int)), iS one, y8, y9] := fun h1 h2 => by
      rw [h1, h2]
      rw [h2] at h'
      exact innerE n size step k hk hk2 hn R2 row one hne hl hp others tr lon _ _ (by omega) h'
    by_cases c1 : lastI row < one + o
    · by_cases c2 : one + o ≤ n
      · have sh : shlB (one + o) (k : Int) = true := shlB_of (by omega) (by omega) (by omega)
        by_cases c4 : (one + o) ∈ tr
        · refine skip ?_ ?_
          · unfold b__law_is_made_1
            simp! only [la, c1, c2, in_ints, c4]
          · unfold candE
            rw [List.filter_cons]
            split
            · rw [List.map_cons, dedN_in c4]
            · rfl
        · by_cases c3 : n ≤ (one + o) * 2 ^ k
          · have ec : candE n (lastI row) k one (o :: others) = (one + o) :: candE n (lastI row) k one others := by
              unfold candE
              rw [List.filter_cons, if_pos (by simp [c1, c2, c3]), List.map_cons]
            rw [ec, dedN_out c4] at h' ⊢
            rw [List.length_cons] at h'
            have hb : b__law_is_made_1 [iS n, iS size, R2, iS step, .own (.lst lon), lS row, .own (.lst (tr.map .int)), iS one, iS o, x9] = .nx [iS n, iS size, R2, iS step, .own (.lst (lon ++ [encR row (one + o)])), lS row, .own (.lst ((tr ++ [one + o]).map .int)), iS one, iS o, iS (one + o)] := by
              unfold b__law_is_made_1 encR
              simp! only [la, c1, c2, in_ints, c4, ek, sh, Int.toNat_natCast, c3, lim, lim2, lim3, List.map_append]
            rw [hb]
            obtain ⟨y8, y9, ih⟩ := innerE n size step k hk hk2 hn R2 row one hne hl hp others (tr ++ [one + o]) (lon ++ [encR row (one + o)]) (iS o) (iS (one + o)) (by simp; omega) (by simp; omega)
            refine ⟨y8, y9, ih.trans ?_⟩
            simp
          · refine skip ?_ ?_
            · unfold b__law_is_made_1
              simp! only [la, c1, c2, in_ints, c4, ek, sh, Int.toNat_natCast, c3]
            · unfold candE
              rw [List.filter_cons, if_neg (by simp [c1, c2, c3])]
      · refine skip ?_ ?_
        · unfold b__law_is_made_1
          simp! only [la, c1, c2]
        · unfold candE
          rw [List.filter_cons, if_neg (by simp [c1, c2])]
    · refine skip ?_ ?_
      · unfold b__law_is_made_1
        simp! only [la, c1]
      · unfold candE
        rw [List.filter_cons, if_neg (by simp [c1])]
end G58

set_option Elab.async false
set_option linter.all false
set_option maxRecDepth 100000
set_option maxHeartbeats 4000000
namespace G58
open PySem PySem.Spec L2 DL
set_option autoImplicit false
def candA (n last : Int) (k : Nat) (ones others : List Int) : List Int := ones.flatMap fun one => candE n last k one others
theorem outerE (n : Int) (size step k : Nat) (hk : k + step + 1 = size) (hk2 : size < 1000) (hn : n < 1000) (R2 : Sl) (row : List Int) (hne : row ≠ []) (hl : row.length < 300) (hp : 0 ≤ lastI row) : ∀ (ones tr : List Int) (lon : List PyData) (x7 x8 x9 : Sl),
    tr.length + ones.length * 300 < 190000 → lon.length + (dedN tr (candA n (lastI row) k ones row)).length < 200000 →
    ∃ y7 y8 y9, forD (gN 7) b__law_is_made_2 (ones.map .int) [iS n, iS size, R2, iS step, .own (.lst lon), lS row, .own (.lst (tr.map .int)), x7, x8, x9] =
      .nx [iS n, iS size, R2, iS step, .own (.lst (lon ++ (dedN tr (candA n (lastI row) k ones row)).map (encR row))), lS row, .own (.lst ((tr ++ dedN tr (candA n (lastI row) k ones row)).map .int)), y7, y8, y9]
  | [], tr, lon, x7, x8, x9, h, h' => ⟨x7, x8, x9, by simp [candA, dedN, forD]⟩
  | one :: ones, tr, lon, x7, x8, x9, h, h' => by
    rw [List.length_cons] at h
    have e1 : candA n (lastI row) k (one :: ones) row = candE n (lastI row) k one row ++ candA n (lastI row) k ones row := by unfold candA; rw [List.flatMap_cons]
    rw [e1, dedN_app] at h' ⊢
    rw [List.length_append] at h'
    have hc : (dedN tr (candE n (lastI row) k one row)).length ≤ 300 := by
      have h1 : ∀ (cs t : List Int), (dedN t cs).length ≤ cs.length := by
        intro cs
        induction cs with
        | nil => intro t; exact Nat.le_refl _
        | cons s r ih =>
          intro t
          by_cases hs : s ∈ t
          · rw [dedN_in hs]; exact Nat.le_succ_of_le (ih t)
          · rw [dedN_out hs, List.length_cons, List.length_cons]; exact Nat.succ_le_succ (ih _)
      have h2 := h1 (candE n (lastI row) k one row) tr
      unfold candE at h2 ⊢
      rw [List.length_map] at h2
      have h3 := List.length_filter_le (fun o => decide (lastI row < one + o) && (decide (one + o ≤ n) && decide (n ≤ (one + o) * 2 ^ k))) row
      omega
    obtain ⟨z8, z9, hi⟩ := innerE n size step k hk hk2 hn R2 row one hne (by omega) hp row tr lon x8 x9 (by omega) (by omega)
    have hb : b__law_is_made_2 [iS n, iS size, R2, iS step, .own (.lst lon), lS row, .own (.lst (tr.map .int)), iS one, x8, x9] = forD (gN 8) b__law_is_made_1 (row.map .int) [iS n, iS size, R2, iS step, .own (.lst lon), lS row, .own (.lst (tr.map .int)), iS one, x8, x9] := by
      unfold b__law_is_made_2
      rw [dFor_of (l := row.map .int)]
      simp! only []
    show ∃ y7 y8 y9, (match b__law_is_made_2 [iS n, iS size, R2, iS step, .own (.lst lon), lS row, .own (.lst (tr.map .int)), iS one, x8, x9] with
      | .nx e => forD (gN 7) b__law_is_made_2 (ones.map .int) e
      | .ct e => forD (gN 7) b__law_is_made_2 (ones.map .int) e
      | .bk e => .nx e
      | r => r) = _
    rw [hb, hi]
    obtain ⟨y7, y8, y9, ih⟩ := outerE n size step k hk hk2 hn R2 row hne hl hp ones (tr ++ dedN tr (candE n (lastI row) k one row)) (lon ++ (dedN tr (candE n (lastI row) k one row)).map (encR row)) (iS one) z8 z9 (by rw [List.length_append]; omega) (by simp; omega)
    refine ⟨y7, y8, y9, ih.trans ?_⟩
    simp
theorem extC_eq (n last : Int) (k : Nat) (row : List Int) : extC n last k row = candA n last k row row := rfl
abbrev encL (row : List Int) : PyData := .list (row.map .int)
def GoodRow (m : Nat) (row : List Int) : Prop := row ≠ [] ∧ row.length ≤ m ∧ 0 ≤ lastI row
theorem dedN_mem {x : Int} : ∀ {cs tr : List Int}, x ∈ dedN tr cs → x ∈ cs
  | [], tr, h => by cases h
  | s :: r, tr, h => by
    by_cases hs : s ∈ tr
    · rw [dedN_in hs] at h; exact List.mem_cons_of_mem _ (dedN_mem h)
    · rw [dedN_out hs] at h
      rcases List.mem_cons.mp h with rfl | h
      · exact List.mem_cons_self
      · exact List.mem_cons_of_mem _ (dedN_mem h)
theorem next_good (n : Int) (k m : Nat) (rows : List (List Int)) (h : ∀ row ∈ rows, GoodRow m row) : ∀ row ∈ nextR n k rows, GoodRow (m + 1) row := by
  intro row hr
  unfold nextR at hr
  obtain ⟨r0, h0, h1⟩ := List.mem_flatMap.mp hr
  obtain ⟨t, ht, rfl⟩ := List.mem_map.mp h1
  rw [ded_eq, List.nil_append] at ht
  have ht' := dedN_mem ht
  obtain ⟨g1, g2, g3⟩ := h r0 h0
  unfold extC at ht'
  obtain ⟨one, h2, h3⟩ := List.mem_flatMap.mp ht'
  obtain ⟨o, h4, rfl⟩ := List.mem_map.mp h3
  have h5 := (List.mem_filter.mp h4).2
  simp only [Bool.and_eq_true, decide_eq_true_eq] at h5
  exact ⟨by simp, by simp; omega, by rw [lastI_app]; omega⟩
theorem rows_loop (n : Int) (size step k m : Nat) (hk : k + step + 1 = size) (hk2 : size < 1000) (hn : n < 1000) (R2 : Sl) (hm : m < 300) : ∀ (rows : List (List Int)) (lon : List PyData) (x5 x6 x7 x8 x9 : Sl),
    (∀ row ∈ rows, GoodRow m row) → lon.length + (nextR n k rows).length < 200000 →
    ∃ y5 y6 y7 y8 y9, forD (gN 5) b__law_is_made_3 (rows.map encL) [iS n, iS size, R2, iS step, .own (.lst lon), x5, x6, x7, x8, x9] =
      .nx [iS n, iS size, R2, iS step, .own (.lst (lon ++ (nextR n k rows).map encL)), y5, y6, y7, y8, y9]
  | [], lon, x5, x6, x7, x8, x9, hg, h => ⟨x5, x6, x7, x8, x9, by simp [nextR, forD]⟩
  | row :: rows, lon, x5, x6, x7, x8, x9, hg, h => by
    obtain ⟨g1, g2, g3⟩ := hg row List.mem_cons_self
    have e1 : nextR n k (row :: rows) = (dedN [] (candA n (lastI row) k row row)).map (fun t => row ++ [t]) ++ nextR n k rows := by
      unfold nextR
      rw [List.flatMap_cons, ded_eq, List.nil_append, extC_eq]
    rw [e1, List.length_append, List.length_map] at h
    rw [e1]
    have hrow : row.length * 300 < 190000 := by omega
    obtain ⟨z7, z8, z9, hi⟩ := outerE n size step k hk hk2 hn R2 row g1 (by omega) g3 row [] lon x7 x8 x9 (by rw [List.length_nil, Nat.zero_add]; exact hrow) (by omega)
    have hb : b__law_is_made_3 [iS n, iS size, R2, iS step, .own (.lst lon), lS row, x6, x7, x8, x9] = forD (gN 7) b__law_is_made_2 (row.map .int) [iS n, iS size, R2, iS step, .own (.lst lon), lS row, .own (.lst ([] : List PyData)), x7, x8, x9] := by
      unfold b__law_is_made_3
      rw [dSeq_nx (e := [iS n, iS size, R2, iS step, .own (.lst lon), lS row, .own (.lst ([] : List PyData)), x7, x8, x9]) (by simp! only []), dFor_of (l := row.map .int)]
      simp! only []
    show ∃ y5 y6 y7 y8 y9, (match b__law_is_made_3 [iS n, iS size, R2, iS step, .own (.lst lon), lS row, x6, x7, x8, x9] with
      | .nx e => forD (gN 5) b__law_is_made_3 (rows.map encL) e
      | .ct e => forD (gN 5) b__law_is_made_3 (rows.map encL) e
      | .bk e => .nx e
      | r => r) = _
    have hi' : forD (gN 7) b__law_is_made_2 (row.map .int) [iS n, iS size, R2, iS step, .own (.lst lon), lS row, .own (.lst ([] : List PyData)), x7, x8, x9] = _ := hi
    rw [hb, hi']
    obtain ⟨y5, y6, y7, y8, y9, ih⟩ := rows_loop n size step k m hk hk2 hn R2 hm rows (lon ++ (dedN [] (candA n (lastI row) k row row)).map (encR row)) _ _ z7 z8 z9 (fun r hr => hg r (List.mem_cons_of_mem _ hr)) (by simp; omega)
    refine ⟨y5, y6, y7, y8, y9, ih.trans ?_⟩
    simp [encR, Function.comp_def]
theorem lvOk_next {n : Int} {k : Nat} {rows : List (List Int)} (h : lvOk n (k + 1) rows = true) : rows.length < 100000 ∧ lvOk n k (nextR n k rows) = true := by
  unfold lvOk at h
  rw [Bool.and_eq_true] at h
  exact ⟨of_decide_eq_true h.1, h.2⟩
theorem lvOk_len {n : Int} {k : Nat} {rows : List (List Int)} (h : lvOk n k rows = true) : rows.length < 100000 := by
  cases k with
  | zero => unfold lvOk at h; exact of_decide_eq_true h
  | succ k => exact (lvOk_next h).1
theorem made_ok (n : Nat) (size : Nat) (hn : n < 1000) (hs : size < 200) (h : lvOk (n : Int) size [[1]] = true) (hb : ((lv (n : Int) size [[1]]).any fun row => decide (lastI row = n)) = false) : m__law_is_made [.int (n : Nat), .int (size : Nat)] = .ok (.bool false) := by
  obtain ⟨e, he, hi, rows, x3, x4, x5, x6, x7, x8, x9, rfl, hlv, hok, hgood⟩ := forD_nx (g := gN 3) (b := b__law_is_made_4) (ds := rangeD 0 1 size) (env := [iS n, iS size, .dat (.list ([[1]].map encL)), .un, .un, .un, .un, .un, .un, .un])
    (fun i e => i ≤ size ∧ ∃ rows x3 x4 x5 x6 x7 x8 x9, e = [iS n, iS size, .dat (.list (rows.map encL)), x3, x4, x5, x6, x7, x8, x9] ∧ lv (n : Int) size [[1]] = lv (n : Int) (size - i) rows ∧ lvOk (n : Int) (size - i) rows = true ∧ ∀ row ∈ rows, GoodRow (i + 1) row)
    ⟨Nat.zero_le _, [[1]], _, _, _, _, _, _, _, rfl, by rw [Nat.sub_zero], by rw [Nat.sub_zero]; exact h, fun row hr => by
      rw [List.mem_singleton.mp hr]; exact ⟨by simp, by simp, by show (0 : Int) ≤ 1; decide⟩⟩ (by
    rintro i d e hd ⟨hi, rows, x3, x4, x5, x6, x7, x8, x9, rfl, hlv, hok, hgood⟩
    obtain ⟨hlt, rfl⟩ := rangeD_at hd
    have e1 : (0 : Int) + (i : Nat) * 1 = (i : Nat) := by omega
    have e2 : size - i = (size - i - 1) + 1 := by omega
    rw [e2] at hlv hok
    obtain ⟨l1, l2⟩ := lvOk_next hok
    have l3 := lvOk_len l2
    obtain ⟨y5, y6, y7, y8, y9, hr⟩ := rows_loop n size i (size - i - 1) (i + 1) (by omega) (by omega) (by omega) (.dat (.list (rows.map encL))) (by omega) rows [] x5 x6 x7 x8 x9 hgood (by rw [List.length_nil]; omega)
    rw [List.nil_append] at hr
    refine ⟨[iS n, iS size, .dat (.list (rows.map encL)), iS i, x4, x5, x6, x7, x8, x9], [iS n, iS size, .dat (.list ((nextR n (size - i - 1) rows).map encL)), iS i, .dat (.list ((nextR n (size - i - 1) rows).map encL)), y5, y6, y7, y8, y9], by rw [e1]; rfl, ?_, by omega, nextR n (size - i - 1) rows, _, _, _, _, _, _, _, rfl, ?_, ?_, next_good n _ (i + 1) rows hgood⟩
    · unfold b__law_is_made_4
      rw [dSeq_nx (e := [iS n, iS size, .dat (.list (rows.map encL)), iS i, .own (.lst ([] : List PyData)), x5, x6, x7, x8, x9]) (by simp! only []), dSeq_nx (e := [iS n, iS size, .dat (.list (rows.map encL)), iS i, .own (.lst ((nextR n (size - i - 1) rows).map encL)), y5, y6, y7, y8, y9]) (by
        rw [dFor_of (l := rows.map encL) (by simp! only [])]; exact hr)]
      simp! only []
    · rw [hlv]
      show lv (n : Int) (size - i - 1) (nextR n (size - i - 1) rows) = _
      congr 1
    · rw [show size - (i + 1) = size - i - 1 by omega]; exact l2)
  rw [rangeD_length, Nat.sub_self] at hlv hok
  have hlv' : lv (n : Int) size [[1]] = rows := hlv
  rw [hlv'] at hb
  have lim : rows.length < LIM := Nat.lt_of_lt_of_le (lvOk_len hok) (by decide)
  rw [rangeD_length] at hgood
  have hc : compD (gN 5) tYesD (dBin (gEq false) (dIx (dVarB 5) (dNeg (dC (.int 1)))) (dVarB 0)) [iS n, iS size, .dat (.list (rows.map encL)), x3, x4, .un, x6, x7, x8, x9] (rows.map encL) = .ok ((rows.map encL).map fun _ => .bool false) :=
    compD_map (fun _ => .bool false) fun d hd => by
      obtain ⟨row, hr, rfl⟩ := List.mem_map.mp hd
      have la := last_at (hgood row hr).1
      have hne : ¬ lastI row = (n : Int) := by
        have := List.any_eq_false.mp hb row hr
        simpa using this
      simp! only [la, gEq_intf, hne]
  have hg := gRange1_nat size (by omega)
  have ha : gAny [.list ((rows.map encL).map fun _ => .bool false)] = some (.bool false) := any_false fun x hx => by
    obtain ⟨_, _, rfl⟩ := List.mem_map.mp hx; rfl
  have he' : forD (gN 3) b__law_is_made_4 (rangeD 0 1 size) [iS n, iS size, .dat (.list [.list [.int 1]]), .un, .un, .un, .un, .un, .un, .un] = _ := he
  unfold m__law_is_made g__law_is_made N__law_is_made
  simp! only [hg, he', lim, hc, ha]
end G58

set_option Elab.async false
set_option linter.all false
set_option maxRecDepth 100000
set_option maxHeartbeats 4000000
namespace G58
open PySem PySem.Spec L2 DL
set_option autoImplicit false
theorem sub_chain : subT sub_BadChain "BadChain" = some true := by decide +kernel
theorem sub_num : subT sub_BadNumber "BadNumber" = some true := by decide +kernel
theorem told_ok (row : List Int) (steps : List PyData) (h : m_chain_of [.list (row.map .int)] = .ok (.tuple steps)) : m__law_told [.list (row.map .int)] = .ok (.tuple steps) := by
  unfold m__law_told g__law_told N__law_told
  simp! only [dTryAs, h]
theorem told_bad (row : List Int) (z : Int) (h : m_chain_of [.list (row.map .int)] = .error (.exc "BadChain" [("place", .int z)])) : m__law_told [.list (row.map .int)] = .ok (.int z) := by
  unfold m__law_told g__law_told N__law_told
  simp! only [dTryAs, h, sub_chain, unX, unS, dField, and_self, endX]
def bad : R PyData := .error (.exc "BadNumber" [])
theorem chain_bad {d : PyData} (h : m_check_goal [d] = bad) : m_shortest_chain [d] = bad := by
  unfold bad at *
  unfold m_shortest_chain g_shortest_chain N_shortest_chain
  simp! only [h]
theorem chain_great (n : Int) (h : 200 < n) : m_shortest_chain [.int n] = bad := by
  unfold bad m_shortest_chain g_shortest_chain N_shortest_chain
  simp! only [check_goal_int n (by omega), h]
theorem size_bad {d : PyData} (h : m_shortest_chain [d] = bad) : m_shortest_size [d] = bad := by
  unfold bad at *
  unfold m_shortest_size g_shortest_size N_shortest_size
  simp! only [h]
theorem refused_ok (d : PyData) (h : m_shortest_chain [d] = bad) : m__law_refused [d] = .ok (.bool true) := by
  have h2 := size_bad h
  unfold bad at h h2
  have b0 : b__law_refused_1 [.dat d, iS 0, iS 0] = .nx [.dat d, iS (0 + 1), iS 0] := by
    unfold b__law_refused_1 dTry
    simp! only [gEq_intf, Int.reduceEq, h, sub_num]
  have b1 : b__law_refused_1 [.dat d, iS (0 + 1), iS 1] = .nx [.dat d, iS (0 + 1 + 1), iS 1] := by
    unfold b__law_refused_1 dTry
    simp! only [gEq_intf, Int.reduceEq, h2, sub_num]
  have p : Pass (gN 2) b__law_refused_1 [.int 0, .int 1] [.dat d, iS 0, .un] _ := .cons rfl b0 (.cons rfl b1 .nil)
  have hr : rangeD 0 1 2 = [.int 0, .int 1] := rfl
  have hg := gRange1_eq (j := 2) 2 (by decide) (by decide) rfl
  unfold m__law_refused g__law_refused N__law_refused
  simp! only [hg, hr, p.run, gEq_intf, Int.reduceEq]
theorem bad_at (i : Int) (h : 0 ≤ i) (h2 : i < 7) : ∃ d, L2.atI [PyData.int 0, .int (-3), .int 201, .int 1000, .none, .bool true, .str "5"] i = some d ∧ m_shortest_chain [d] = bad := by
  obtain rfl | rfl | rfl | rfl | rfl | rfl | rfl : i = 0 ∨ i = 1 ∨ i = 2 ∨ i = 3 ∨ i = 4 ∨ i = 5 ∨ i = 6 := by omega
  · exact ⟨_, DL.atI_nat (i := 0) rfl, chain_bad (check_goal_low _ (by decide))⟩
  · exact ⟨_, DL.atI_nat (i := 1) rfl, chain_bad (check_goal_low _ (by decide))⟩
  · exact ⟨_, DL.atI_nat (i := 2) rfl, chain_great _ (by decide)⟩
  · exact ⟨_, DL.atI_nat (i := 3) rfl, chain_great _ (by decide)⟩
  · exact ⟨_, DL.atI_nat (i := 4) rfl, chain_bad (check_goal_bad _ is_integer_none)⟩
  · exact ⟨_, DL.atI_nat (i := 5) rfl, chain_bad (check_goal_bad _ (is_integer_bool _))⟩
  · exact ⟨_, DL.atI_nat (i := 6) rfl, chain_bad (check_goal_bad _ (is_integer_str _))⟩
/-! ### the first part of the law -/
theorem law_first (n : Nat) (h1 : 1 ≤ n) (h2 : n ≤ 40) (a0 a1 a3 a4 a5 a6 a7 a8 a9 a10 : Sl) : ∃ y3 y4 : PyData, b_law_1 [a0, a1, iS n, a3, a4, a5, a6, a7, a8, a9, a10] = .nx [a0, a1, iS n, .dat y3, .dat y4, a5, a6, a7, a8, a9, a10] := by
  obtain ⟨r, steps, k1, k2, k3, k4, k5, k6⟩ := shortest_ok n h1 h2
  have hr1 : 1 ≤ r.length := by
    cases r with
    | nil => cases k4
    | cons a b => simp
  have hne : r ≠ [] := by rintro rfl; simp at hr1
  have n1 := numbers_ok r steps (r.length - 1) k4 (by omega) (by omega) k2
  rw [show r.length - 1 + 1 = r.length by omega, List.take_length] at n1
  have n2 := size_ok _ steps k1
  have la := last_at hne
  rw [k5] at la
  by_cases c : 1 < n
  · obtain ⟨c1, c2, c3⟩ := k6 c
    have m1 := made_ok n (r.length - 2) (by omega) (by omega) c2 c3
    have es : (steps.length : Int) - 1 = ((r.length - 2 : Nat) : Int) := by rw [k2.1]; omega
    refine ⟨.tuple steps, .list (r.map .int), ?_⟩
    unfold b_law_1
    simp! only [k1, n1, la, n2, gEq_intt, show (1 : Int) < (n : Int) by omega, es, m1]
  · refine ⟨.tuple steps, .list (r.map .int), ?_⟩
    unfold b_law_1
    simp! only [k1, n1, la, n2, gEq_intt, show ¬ (1 : Int) < (n : Int) by omega]
end G58

set_option Elab.async false
set_option linter.all false
set_option maxRecDepth 100000
set_option maxHeartbeats 4000000
namespace G58
open PySem PySem.Spec L2 DL
set_option autoImplicit false
/-! ### a row that grows -/
structure RowOk (k : Nat) (row : List Int) : Prop where
  z : row[0]? = some 1
  len : row.length = k + 1
  sm : Sums row row.length
  up : ∀ x ∈ row, 1 ≤ x ∧ x ≤ lastI row
abbrev pS (row : List Int) : Sl := .own (.pin 3 (row.map .int))
/-- sums above the last number -/
structure SumsOk (row sums : List Int) (m : Nat) (P : Int → Int → Prop) : Prop where
  len : sums.length ≤ m
  of : ∀ s ∈ sums, lastI row < s ∧ ∃ x y, x ∈ row ∧ y ∈ row ∧ s = x + y
  all : ∀ x y, P x y → lastI row < x + y → x + y ∈ sums
theorem sum_body (row sums : List Int) (m : Nat) (P : Int → Int → Prop) (hne : row ≠ []) (hm : m < 100000) (x y : Int) (hx : x ∈ row) (hy : y ∈ row) (h : SumsOk row sums m P) (a0 a1 a2 a3 a5 a6 a10 : Sl) :
    ∃ sums', b_law_2 [a0, a1, a2, a3, pS row, a5, a6, .own (.lst (sums.map .int)), iS x, iS y, a10] = .nx [a0, a1, a2, a3, pS row, a5, a6, .own (.lst (sums'.map .int)), iS x, iS y, a10] ∧ SumsOk row sums' (m + 1) (fun u v => P u v ∨ (u = x ∧ v = y)) := by
  have la := last_at hne
  have lim : sums.length < LIM := Nat.lt_of_lt_of_le (show sums.length < 100001 by have := h.len; omega) (by decide)
  by_cases c1 : lastI row < x + y
  · by_cases c2 : (x + y) ∈ sums
    · refine ⟨sums, ?_, Nat.le_succ_of_le h.len, h.of, ?_⟩
      · unfold b_law_2
        simp! only [la, c1, in_ints, c2]
      · rintro u v (hP | ⟨rfl, rfl⟩) hl
        · exact h.all u v hP hl
        · exact c2
    · refine ⟨sums ++ [x + y], ?_, by rw [List.length_append, List.length_singleton]; exact Nat.succ_le_succ h.len, ?_, ?_⟩
      · unfold b_law_2
        simp! only [la, c1, in_ints, c2, lim, List.map_append]
      · intro s hs
        rcases List.mem_append.mp hs with z | z
        · exact h.of s z
        · rw [List.mem_singleton.mp z]; exact ⟨c1, x, y, hx, hy, rfl⟩
      · rintro u v (hP | ⟨rfl, rfl⟩) hl
        · exact List.mem_append_left _ (h.all u v hP hl)
        · simp
  · refine ⟨sums, ?_, Nat.le_succ_of_le h.len, h.of, ?_⟩
    · unfold b_law_2
      simp! only [la, c1]
    · rintro u v (hP | ⟨rfl, rfl⟩) hl
      · exact h.all u v hP hl
      · exact absurd hl c1
theorem sum_inner (row sums : List Int) (m : Nat) (P : Int → Int → Prop) (hne : row ≠ []) (hl : row.length < 100) (hm : m < 90000) (x : Int) (hx : x ∈ row) (h : SumsOk row sums m P) (a0 a1 a2 a3 a5 a6 a9 a10 : Sl) (h9 : unPS 3 a9 = a9) :
    ∃ sums' y9, unPS 3 y9 = y9 ∧ b_law_3 [a0, a1, a2, a3, pS row, a5, a6, .own (.lst (sums.map .int)), iS x, a9, a10] = .nx [a0, a1, a2, a3, pS row, a5, a6, .own (.lst (sums'.map .int)), iS x, y9, a10] ∧ SumsOk row sums' (m + row.length) (fun u v => P u v ∨ (u = x ∧ v ∈ row)) := by
  obtain ⟨e, he, sums', y9, rfl, n9, hs⟩ := forLD_R (i := 4) (t := 3) (g := gN 9) (b := b_law_2) (ds := row.map .int) (R := fun fl => ∃ e, fl = .nx e ∧ ∃ sums' y9, e = [a0, a1, a2, a3, pS row, a5, a6, .own (.lst (sums'.map .int)), iS x, y9, a10] ∧ unPS 3 y9 = y9 ∧ SumsOk row sums' (m + row.length) (fun u v => P u v ∨ (u = x ∧ v ∈ row)))
    (fun k e => k ≤ row.length ∧ ∃ sums' y9, e = [a0, a1, a2, a3, pS row, a5, a6, .own (.lst (sums'.map .int)), iS x, y9, a10] ∧ unPS 3 y9 = y9 ∧ SumsOk row sums' (m + k) (fun u v => P u v ∨ (u = x ∧ v ∈ row.take k)))
    (by rintro k e ⟨hk, s, y, rfl, _⟩; rfl)
    (by
      rintro k d e hd ⟨hk, s, y, rfl, n9, hs⟩
      obtain ⟨z, hz, rfl⟩ := map_int_at hd
      have hlt := (List.getElem?_eq_some_iff.mp hz).1
      obtain ⟨s', g1, g2⟩ := sum_body row s (m + k) _ hne (by omega) x z hx (List.mem_of_getElem? hz) hs a0 a1 a2 a3 a5 a6 a10
      refine ⟨_, rfl, ?_⟩
      have g1' : b_law_2 ([a0, a1, a2, a3, pS row, a5, a6, .own (.lst (s.map .int)), iS x, y, a10].set 9 (.dat (.int z))) = _ := g1
      rw [g1']
      refine ⟨by omega, s', iS z, rfl, rfl, g2.len, g2.of, fun u v hP hl => g2.all u v ?_ hl⟩
      rcases hP with hP | ⟨rfl, hv⟩
      · exact .inl (.inl hP)
      · rw [List.take_succ, hz] at hv
        rcases List.mem_append.mp hv with hv | hv
        · exact .inl (.inr ⟨rfl, hv⟩)
        · exact .inr ⟨rfl, by simpa using hv⟩)
    (by
      rintro e ⟨hk, s, y, rfl, n9, hs⟩
      refine ⟨_, rfl, s, y, rfl, n9, ?_⟩
      rw [List.length_map] at hs
      rwa [List.take_length] at hs)
    ((row.map PyData.int).length + 1) 0 [a0, a1, a2, a3, pS row, a5, a6, .own (.lst (sums.map .int)), iS x, a9, a10] (by omega) (Nat.zero_le _) ⟨Nat.zero_le _, sums, a9, rfl, h9, h.len, h.of, fun u v hP hl => h.all u v (by simpa using hP) hl⟩
  exact ⟨sums', y9, n9, he, hs⟩
theorem sum_outer (row : List Int) (hne : row ≠ []) (hl : row.length < 100) (a0 a1 a2 a3 a5 a6 a8 a9 a10 : Sl) (h8 : unPS 3 a8 = a8) (h9 : unPS 3 a9 = a9) :
    ∃ sums y8 y9, unPS 3 y8 = y8 ∧ unPS 3 y9 = y9 ∧ forLD 4 3 (gN 8) b_law_3 ((row.map PyData.int).length + 1) 0 [a0, a1, a2, a3, pS row, a5, a6, .own (.lst ([] : List PyData)), a8, a9, a10] = .nx [a0, a1, a2, a3, pS row, a5, a6, .own (.lst (sums.map .int)), y8, y9, a10] ∧ SumsOk row sums (row.length * 100) (fun u v => u ∈ row ∧ v ∈ row) := by
  obtain ⟨e, he, sums', y8, y9, rfl, n8, n9, hs⟩ := forLD_R (i := 4) (t := 3) (g := gN 8) (b := b_law_3) (ds := row.map .int) (R := fun fl => ∃ e, fl = .nx e ∧ ∃ sums' y8 y9, e = [a0, a1, a2, a3, pS row, a5, a6, .own (.lst (sums'.map .int)), y8, y9, a10] ∧ unPS 3 y8 = y8 ∧ unPS 3 y9 = y9 ∧ SumsOk row sums' (row.length * 100) (fun u v => u ∈ row ∧ v ∈ row))
    (fun k e => k ≤ row.length ∧ ∃ sums' y8 y9, e = [a0, a1, a2, a3, pS row, a5, a6, .own (.lst (sums'.map .int)), y8, y9, a10] ∧ unPS 3 y8 = y8 ∧ unPS 3 y9 = y9 ∧ SumsOk row sums' (k * 100) (fun u v => u ∈ row.take k ∧ v ∈ row))
    (by rintro k e ⟨hk, s, y8, y9, rfl, _⟩; rfl)
    (by
      rintro k d e hd ⟨hk, s, y8, y9, rfl, n8, n9, hs⟩
      obtain ⟨z, hz, rfl⟩ := map_int_at hd
      have hlt := (List.getElem?_eq_some_iff.mp hz).1
      obtain ⟨s', y9', n9', g1, g2⟩ := sum_inner row s (k * 100) _ hne hl (by omega) z (List.mem_of_getElem? hz) hs a0 a1 a2 a3 a5 a6 y9 a10 n9
      refine ⟨_, rfl, ?_⟩
      have g1' : b_law_3 ([a0, a1, a2, a3, pS row, a5, a6, .own (.lst (s.map .int)), y8, y9, a10].set 8 (.dat (.int z))) = _ := g1
      rw [g1']
      refine ⟨by omega, s', iS z, y9', rfl, rfl, n9', by have := g2.len; omega, g2.of, fun u v hP hl => g2.all u v ?_ hl⟩
      obtain ⟨hu, hv⟩ := hP
      rw [List.take_succ, hz] at hu
      rcases List.mem_append.mp hu with hu | hu
      · exact .inl ⟨hu, hv⟩
      · exact .inr ⟨by simpa using hu, hv⟩)
    (by
      rintro e ⟨hk, s, y8, y9, rfl, n8, n9, hs⟩
      refine ⟨_, rfl, s, y8, y9, rfl, n8, n9, ?_⟩
      rw [List.length_map] at hs
      rwa [List.take_length] at hs)
    ((row.map PyData.int).length + 1) 0 [a0, a1, a2, a3, pS row, a5, a6, .own (.lst ([] : List PyData)), a8, a9, a10] (by omega) (Nat.zero_le _) ⟨Nat.zero_le _, [], a8, a9, rfl, h8, h9, by simp, fun s h => (by cases h), fun u v hP hl => (by simp at hP)⟩
  exact ⟨sums', y8, y9, n8, n9, he, hs⟩
end G58

set_option Elab.async false
set_option linter.all false
set_option maxRecDepth 100000
set_option maxHeartbeats 4000000
namespace G58
open PySem PySem.Spec L2 DL
set_option autoImplicit false
theorem lastI_mem {row : List Int} (h : row ≠ []) : lastI row ∈ row := by
  unfold lastI
  rw [List.getLastD_eq_getLast?]
  cases hh : row.getLast? with
  | none => exact absurd (List.getLast?_eq_none_iff.mp hh) h
  | some x => exact List.mem_of_getLast? hh
theorem RowOk.ne {k : Nat} {row : List Int} (h : RowOk k row) : row ≠ [] := by
  rintro rfl
  have := h.len
  simp at this
theorem mem_at {row : List Int} {x : Int} (h : x ∈ row) : ∃ i, i < row.length ∧ row[i]? = some x := by
  obtain ⟨i, hi, e⟩ := List.getElem_of_mem h
  exact ⟨i, hi, by rw [List.getElem?_eq_getElem hi, e]⟩
theorem RowOk.app {k : Nat} {row : List Int} (h : RowOk k row) {x y : Int} (hx : x ∈ row) (hy : y ∈ row) (hl : lastI row < x + y) : RowOk (k + 1) (row ++ [x + y]) := by
  have hne := h.ne
  have hlm := h.up _ (lastI_mem hne)
  refine ⟨?_, by rw [List.length_append, List.length_singleton, h.len], ?_, fun z hz => ?_⟩
  · rw [List.getElem?_append_left (by rw [h.len]; omega)]; exact h.z
  · intro pl h1 h2
    rw [List.length_append, List.length_singleton] at h2
    by_cases hp : pl < row.length
    · obtain ⟨a, b, u, v, g1, g2, g3, g4, g5⟩ := h.sm pl h1 hp
      refine ⟨a, b, u, v, g1, g2, ?_, ?_, ?_⟩
      · rw [List.getElem?_append_left (by omega)]; exact g3
      · rw [List.getElem?_append_left (by omega)]; exact g4
      · rw [List.getElem?_append_left hp]; exact g5
    · have e : pl = row.length := by omega
      subst e
      obtain ⟨i, hi, ei⟩ := mem_at hx
      obtain ⟨j, hj, ej⟩ := mem_at hy
      have e3 : (row ++ [x + y])[row.length]? = some (x + y) := by
        rw [List.getElem?_append_right (Nat.le_refl _)]; simp
      by_cases hij : j ≤ i
      · exact ⟨i, j, x, y, hi, hij, by rw [List.getElem?_append_left hi]; exact ei, by rw [List.getElem?_append_left hj]; exact ej, e3⟩
      · exact ⟨j, i, y, x, hj, by omega, by rw [List.getElem?_append_left hj]; exact ej, by rw [List.getElem?_append_left hi]; exact ei, by rw [e3, Int.add_comm]⟩
  · rw [lastI_app]
    rcases List.mem_append.mp hz with hz | hz
    · have := h.up z hz
      exact ⟨this.1, by omega⟩
    · rw [List.mem_singleton.mp hz]
      exact ⟨by omega, Int.le_refl _⟩
theorem grow_body (row : List Int) (k : Nat) (hk : k < 6) (h : RowOk k row) (r : Int) (a0 a2 a3 a6 a7 a8 a9 a10 : Sl) (h0 : unPS 3 a0 = a0) (h2 : unPS 3 a2 = a2) (h3 : unPS 3 a3 = a3) (h8 : unPS 3 a8 = a8) (h9 : unPS 3 a9 = a9) (h10 : unPS 3 a10 = a10) :
    ∃ row' y6 y7 y8 y9, unPS 3 y8 = y8 ∧ unPS 3 y9 = y9 ∧ b_law_4 [a0, iS r, a2, a3, .own (.lst (row.map .int)), iS k, a6, a7, a8, a9, a10] = .nx [a0, iS r, a2, a3, .own (.lst (row'.map .int)), iS k, y6, y7, y8, y9, a10] ∧ RowOk (k + 1) row' := by
  have hne := h.ne
  have hlen := h.len
  have hd : divB r (11 + 5 * (k : Int)) = true := divB_lit (by omega) (by omega)
  have hm : ∀ j, mulB 5 j = true := fun j => mulB_l (by decide) (by decide)
  obtain ⟨sums, y8, y9, n8, n9, hf, hs⟩ := sum_outer row hne (by omega) a0 (iS r) a2 a3 (iS k) (iS (r / (11 + 5 * (k : Int)))) a8 a9 a10 h8 h9
  have hlm := h.up _ (lastI_mem hne)
  have hsn : sums ≠ [] := by
    intro e
    have := hs.all (lastI row) (lastI row) ⟨lastI_mem hne, lastI_mem hne⟩ (by omega)
    rw [e] at this
    cases this
  have hsl : 0 < sums.length := List.length_pos_iff.mpr hsn
  obtain ⟨j, hj⟩ : ∃ j : Nat, (r / (11 + 5 * (k : Int))) % (sums.length : Int) = (j : Int) := ⟨((r / (11 + 5 * (k : Int))) % (sums.length : Int)).toNat, by
    have := Int.emod_nonneg (r / (11 + 5 * (k : Int))) (show (sums.length : Int) ≠ 0 by omega)
    omega⟩
  have hj2 : j < (isortI sums).length := by
    rw [(isortI_perm sums).length_eq]
    have := Int.emod_lt_of_pos (r / (11 + 5 * (k : Int))) (show (0 : Int) < (sums.length : Int) by omega)
    omega
  obtain ⟨t, ht⟩ : ∃ t, (isortI sums)[j]? = some t := ⟨_, List.getElem?_eq_getElem hj2⟩
  have htm : t ∈ sums := (isortI_perm sums).mem_iff.mp (List.mem_of_getElem? ht)
  obtain ⟨h1, x, y, hx, hy, rfl⟩ := hs.of t htm
  have hat := at_map ht
  have lim : row.length < LIM := Nat.lt_of_lt_of_le (show row.length < 100 by omega) (by decide)
  refine ⟨row ++ [x + y], iS (r / (11 + 5 * (k : Int))), .own (.lst (sums.map .int)), y8, y9, n8, n9, ?_, h.app hx hy h1⟩
  unfold b_law_4
  rw [dSeq_nx (e := [a0, iS r, a2, a3, .own (.lst (row.map .int)), iS k, iS (r / (11 + 5 * (k : Int))), a7, a8, a9, a10]) (by simp! only [hm, hd])]
  rw [dSeq_nx (e := [a0, iS r, a2, a3, .own (.lst (row.map .int)), iS k, iS (r / (11 + 5 * (k : Int))), .own (.lst ([] : List PyData)), a8, a9, a10]) (by simp! only [])]
  have ho : dForO 3 4 (gN 8) b_law_3 [a0, iS r, a2, a3, .own (.lst (row.map .int)), iS k, iS (r / (11 + 5 * (k : Int))), .own (.lst ([] : List PyData)), a8, a9, a10] = .nx [a0, iS r, a2, a3, .own (.lst (row.map .int)), iS k, iS (r / (11 + 5 * (k : Int))), .own (.lst (sums.map .int)), y8, y9, a10] := by
    have e0 : dForO 3 4 (gN 8) b_law_3 [a0, iS r, a2, a3, .own (.lst (row.map .int)), iS k, iS (r / (11 + 5 * (k : Int))), .own (.lst ([] : List PyData)), a8, a9, a10] = endP 3 (forLD 4 3 (gN 8) b_law_3 ((row.map PyData.int).length + 1) 0 [unPS 3 a0, iS r, unPS 3 a2, unPS 3 a3, pS row, iS k, iS (r / (11 + 5 * (k : Int))), .own (.lst ([] : List PyData)), unPS 3 a8, unPS 3 a9, unPS 3 a10]) := rfl
    rw [e0, h0, h2, h3, h8, h9, h10, hf]
    have e1 : endP 3 (.nx [a0, iS r, a2, a3, pS row, iS k, iS (r / (11 + 5 * (k : Int))), .own (.lst (sums.map .int)), y8, y9, a10]) = .nx [unPS 3 a0, iS r, unPS 3 a2, unPS 3 a3, .own (.lst (row.map .int)), iS k, iS (r / (11 + 5 * (k : Int))), .own (.lst (sums.map .int)), unPS 3 y8, unPS 3 y9, unPS 3 a10] := rfl
    rw [e1, h0, h2, h3, n8, n9, h10]
  rw [dSeq_nx ho]
  have hsl' : (0 : Int) < (sums.length : Int) := by omega
  simp! only [gSortedI_ints, hsl', hj, hat, lim, List.map_append]
end G58

set_option Elab.async false
set_option linter.all false
set_option maxRecDepth 100000
set_option maxHeartbeats 4000000
namespace G58
open PySem PySem.Spec L2 DL
set_option autoImplicit false
theorem eqvAll_ints : ∀ l : List Int, PyData.eqvAll (l.map .int) (l.map .int) = true
  | [] => by simp only [List.map_nil, PyData.eqvAll]
  | x :: r => by
    simp only [List.map_cons, PyData.eqvAll, eqvAll_ints r, eqv_int, decide_true, Bool.and_self]
theorem eq_lists (l : List Int) : gEq true (.list (l.map .int)) (.list (l.map .int)) = some (.bool false) := by
  have sh := (Shp.list (n := 1) (Shp.ints 1 l)).ok (by decide)
  exact gEq_of (b := true) sh sh (by simp only [PyData.eqv]; exact eqvAll_ints l)
theorem noL_stp (a b : Nat) : noL (stp a b) = true := by simp only [stp, noL, noLs, Bool.and_self]
theorem noLs_made {row : List Int} : ∀ {steps : List PyData}, (∀ s ∈ steps, ∃ a b, s = stp a b) → noLs steps = true
  | [], _ => by simp only [noLs]
  | s :: r, h => by
    obtain ⟨a, b, rfl⟩ := h s List.mem_cons_self
    simp only [noLs, noL_stp, noLs_made (row := row) (fun x hx => h x (List.mem_cons_of_mem _ hx)), Bool.and_self]
theorem grow_loop (m : Nat) (hm : m ≤ 6) (r : Int) (a0 a2 a3 : Sl) (h0 : unPS 3 a0 = a0) (h2 : unPS 3 a2 = a2) (h3 : unPS 3 a3 = a3) :
    ∃ row y5 y6 y7 y8 y9, forD (gN 5) b_law_4 (rangeD 0 1 m) [a0, iS r, a2, a3, .own (.lst [.int 1]), .un, .un, .un, .un, .un, .un] = .nx [a0, iS r, a2, a3, .own (.lst (row.map .int)), y5, y6, y7, y8, y9, .un] ∧ RowOk m row := by
  obtain ⟨e, he, hi, row, y5, y6, y7, y8, y9, rfl, n8, n9, hr⟩ := forD_nx (g := gN 5) (b := b_law_4) (ds := rangeD 0 1 m) (env := [a0, iS r, a2, a3, .own (.lst [.int 1]), .un, .un, .un, .un, .un, .un])
    (fun k e => k ≤ m ∧ ∃ row y5 y6 y7 y8 y9, e = [a0, iS r, a2, a3, .own (.lst (row.map .int)), y5, y6, y7, y8, y9, .un] ∧ unPS 3 y8 = y8 ∧ unPS 3 y9 = y9 ∧ RowOk k row)
    ⟨Nat.zero_le _, [1], _, _, _, _, _, rfl, rfl, rfl, rfl, rfl, fun pl h1 h2 => by simp at h2; omega, fun x hx => by
      rw [List.mem_singleton.mp hx]; exact ⟨Int.le_refl _, Int.le_refl _⟩⟩ (by
    rintro k d e hd ⟨hi, row, y5, y6, y7, y8, y9, rfl, n8, n9, hr⟩
    obtain ⟨hlt, rfl⟩ := rangeD_at hd
    have e1 : (0 : Int) + (k : Nat) * 1 = (k : Nat) := by omega
    obtain ⟨row', z6, z7, z8, z9, m8, m9, g1, g2⟩ := grow_body row k (by omega) hr r a0 a2 a3 y6 y7 y8 y9 .un h0 h2 h3 n8 n9 rfl
    exact ⟨_, _, by rw [e1]; rfl, g1, by omega, row', _, _, _, _, _, rfl, m8, m9, g2⟩)
  rw [rangeD_length] at hr
  exact ⟨row, y5, y6, y7, y8, y9, he, hr⟩
theorem law_holds (ns : List Int) (hl : ns.length ≤ 63) : m_law [.list (ns.map .int)] = .ok (.bool true) := by
  obtain ⟨c, hc1, hc2, hc⟩ := law_cell ns 0 (by decide)
  obtain ⟨r, hr1, hr2, hr⟩ := law_rich c 0 hc1 hc2 (by decide) (by decide)
  have hc' : m__law_cell [.list (ns.map .int), .int 0] = .ok (.int c) := hc
  obtain ⟨n1, hn1, a1, b1⟩ : ∃ n : Nat, 1 + r % 40 = (n : Int) ∧ 1 ≤ n ∧ n ≤ 40 := ⟨(1 + r % 40).toNat, by omega, by omega, by omega⟩
  obtain ⟨n2, hn2, a2, b2⟩ : ∃ n : Nat, 1 + r / 41 % 40 = (n : Int) ∧ 1 ≤ n ∧ n ≤ 40 := ⟨(1 + r / 41 % 40).toNat, by omega, by omega, by omega⟩
  obtain ⟨m, hm, hm2⟩ : ∃ m : Nat, 1 + r / 7 % 6 = (m : Int) ∧ m ≤ 6 := ⟨(1 + r / 7 % 6).toNat, by omega, by omega⟩
  have hm1 : 1 ≤ m := by omega
  obtain ⟨y3, y4, f1⟩ := law_first n1 a1 b1 (.dat (.list (ns.map .int))) (iS r) .un .un .un .un .un .un .un .un
  obtain ⟨z3, z4, f2⟩ := law_first n2 a2 b2 (.dat (.list (ns.map .int))) (iS r) (.dat y3) (.dat y4) .un .un .un .un .un .un
  have p : Pass (gN 2) b_law_1 [.int n1, .int n2] [.dat (.list (ns.map .int)), iS r, .un, .un, .un, .un, .un, .un, .un, .un, .un] _ := .cons rfl f1 (.cons rfl f2 .nil)
  obtain ⟨row, w5, w6, w7, w8, w9, g1, g2⟩ := grow_loop m hm2 r (.dat (.list (ns.map .int))) (iS n2) (.dat z3) rfl rfl rfl
  have hg := gRange1_eq (j := (m : Int)) m (by omega) (by omega) (by omega)
  have hne := g2.ne
  have hlen := g2.len
  obtain ⟨steps, k1, k2⟩ := chain_of_ok row (by omega) (by omega) g2.sm
  have t1 := told_ok row steps k1
  have n1' := numbers_ok row steps (row.length - 1) g2.z (by omega) (by omega) k2
  rw [show row.length - 1 + 1 = row.length by omega, List.take_length] at n1'
  have hnl : noL (.tuple steps) = true := by
    have := noLs_made (row := row) (steps := steps) fun s hs => by
      obtain ⟨i, hi, e⟩ := List.getElem_of_mem hs
      obtain ⟨a, b, x, y, g, _⟩ := k2.2 i s (by rw [List.getElem?_eq_getElem hi, e])
      exact ⟨a, b, g⟩
    simp only [noL, this]
  have hu := g2.up
  have hlm := hu _ (lastI_mem hne)
  have la := last_at hne
  have cb := chain_of_bad (row ++ [2 * lastI row + 1]) (by simp; omega) row.length (by omega) (by simp) (fun pl h1 h2 => by
    obtain ⟨a, b, u, v, q1, q2, q3, q4, q5⟩ := g2.sm pl h1 h2
    refine ⟨a, b, u, v, q1, q2, ?_, ?_, ?_⟩
    · rw [List.getElem?_append_left (by omega)]; exact q3
    · rw [List.getElem?_append_left (by omega)]; exact q4
    · rw [List.getElem?_append_left h2]; exact q5) (fun a b x y h1 h2 h3 h4 h5 => by
    rw [List.getElem?_append_left (by omega)] at h3 h4
    rw [List.getElem?_append_right (Nat.le_refl _), Nat.sub_self] at h5
    have e5 : 2 * lastI row + 1 = x + y := by simpa using h5
    have := (hu x (List.mem_of_getElem? h3)).2
    have := (hu y (List.mem_of_getElem? h4)).2
    omega)
  have t2 := told_bad _ _ cb
  have t2' : m__law_told [.list (row.map .int ++ [.int (2 * lastI row + 1)])] = .ok (.int ((row.length : Int) - 1)) := by
    rw [List.map_append] at t2
    exact t2
  obtain ⟨bd, q1, q2⟩ := bad_at (r / 13 % 7) (by omega) (by omega)
  have q3 := refused_ok bd q2
  have hd : ∀ j, 0 < j → j < 18446744073709551616 → divB r j = true := fun j a b => divB_lit a b
  have hm2' : ∀ j, mulB 2 j = true := fun j => mulB_l (by decide) (by decide)
  have limr : row.length + 1 < LIM := Nat.lt_of_lt_of_le (show row.length + 1 < 100 by omega) (by decide)
  unfold m_law g_law N_law
  show outR (dSeq _ _ _) = _
  have st : startD [("script" : Str), "rich", "number", "told", "row", "k", "part", "sums", "one", "other", "spoilt"].length [.list (ns.map .int)] = [.dat (.list (ns.map .int)), .un, .un, .un, .un, .un, .un, .un, .un, .un, .un] := rfl
  rw [st]
  rw [dSeq_nx (e := [.dat (.list (ns.map .int)), iS r, .un, .un, .un, .un, .un, .un, .un, .un, .un]) (by simp! only [hc', hr])]
  rw [dSeq_nx (e := [.dat (.list (ns.map .int)), iS r, iS n2, .dat z3, .dat z4, .un, .un, .un, .un, .un, .un]) (by
    rw [dFor_of (l := [.int n1, .int n2]) (by simp! only [hd 41 (by decide) (by decide), hn1, hn2])]
    exact p.run)]
  rw [dSeq_nx (e := [.dat (.list (ns.map .int)), iS r, iS n2, .dat z3, .own (.lst [.int 1]), .un, .un, .un, .un, .un, .un]) (by simp! only [])]
  rw [dSeq_nx (e := [.dat (.list (ns.map .int)), iS r, iS n2, .dat z3, .own (.lst (row.map .int)), w5, w6, w7, w8, w9, .un]) (by
    rw [dFor_of (l := rangeD 0 1 m) (by simp! only [hd 7 (by decide) (by decide), hm, hg])]
    exact g1)]
  rw [dSeq_nx (e := [.dat (.list (ns.map .int)), iS r, iS n2, .dat (.tuple steps), .own (.lst (row.map .int)), w5, w6, w7, w8, w9, .un]) (by
    simp! only [dCallB, t1, guardX, hnl])]
  rw [dSeq_nx (e := [.dat (.list (ns.map .int)), iS r, iS n2, .dat (.tuple steps), .own (.lst (row.map .int)), w5, w6, w7, w8, w9, .un]) (by
    simp! only [n1', eq_lists])]
  rw [dSeq_nx (e := [.dat (.list (ns.map .int)), iS r, iS n2, .dat (.tuple steps), .own (.lst (row.map .int)), w5, w6, w7, w8, w9, .dat (.list (row.map .int ++ [.int (2 * lastI row + 1)]))]) (by
    simp! only [la, hm2', limr])]
  rw [dSeq_nx (e := [.dat (.list (ns.map .int)), iS r, iS n2, .dat (.tuple steps), .own (.lst (row.map .int)), w5, w6, w7, w8, w9, .dat (.list (row.map .int ++ [.int (2 * lastI row + 1)]))]) (by
    simp! only [t2', gEq_intt])]
  simp! only [hd 13 (by decide) (by decide), q1, q3]
end G58

set_option Elab.async false
set_option linter.all false
set_option maxRecDepth 100000
set_option maxHeartbeats 4000000
namespace G58
open PySem PySem.Spec L2 PyProof.Rows DL
set_option autoImplicit false
def topS (i : Nat) : Stmt := PySem.Challenge.pw_chordkeep_k58_whole_shortest_chains.main.body.getD i (.Pass ⟨0, 0, 0, 0⟩)
abbrev st_is_integer : Stmt := topS 5
abbrev st_check_goal : Stmt := topS 8
abbrev st_chain_of : Stmt := topS 10
abbrev st_Shortest_deeper : Stmt := inClass (topS 9) 2
abbrev st_Shortest_found : Stmt := inClass (topS 9) 1
abbrev st_shortest_chain : Stmt := topS 11
abbrev st_shortest_size : Stmt := topS 12
abbrev st__law_cell : Stmt := topS 14
abbrev st__law_rich : Stmt := topS 15
abbrev st__law_numbers : Stmt := topS 16
abbrev st__law_is_made : Stmt := topS 17
abbrev st__law_told : Stmt := topS 18
abbrev st__law_refused : Stmt := topS 19
abbrev st_law : Stmt := topS 20
structure Txt (K : PySem.W.Frag) (mg : Str → Option Value) : Prop where
  n_abs : mg "abs" = none
  n_any : mg "any" = none
  n_bool : mg "bool" = none
  n_int : mg "int" = none
  n_isinstance : mg "isinstance" = none
  n_len : mg "len" = none
  n_range : mg "range" = none
  n_sorted : mg "sorted" = none
  n_tuple : mg "tuple" = none
  g_BadChain : mg "BadChain" = some (.ref (cOf mg "BadChain"))
  g_BadNumber : mg "BadNumber" = some (.ref (cOf mg "BadNumber"))
  x_BadChain : ∃ C fI, PySem.FX_place.FxTxt K mg "BadChain" "BadChain.__init__" C fI
  x_BadNumber : ExT K mg "BadNumber"
  c_MOST_SHORTEST : KonT mg "MOST_SHORTEST" 200
  sub_BadChain : SubT K mg "BadChain" sub_BadChain
  sub_BadNumber : SubT K mg "BadNumber" sub_BadNumber
  f_is_integer : ∃ (f : Addr) (fd : FuncData), Fun K "is_integer" "is_integer" st_is_integer f fd ∧ mg "is_integer" = some (.ref f)
  f_check_goal : ∃ (f : Addr) (fd : FuncData), Fun K "check_goal" "check_goal" st_check_goal f fd ∧ mg "check_goal" = some (.ref f)
  f_chain_of : ∃ (f : Addr) (fd : FuncData), Fun K "chain_of" "chain_of" st_chain_of f fd ∧ mg "chain_of" = some (.ref f)
  f_Shortest_deeper : ∃ (f : Addr) (fd : FuncData), Fun K "deeper" "Shortest.deeper" st_Shortest_deeper f fd ∧ Meth K (cOf mg "Shortest") "deeper" f
  f_Shortest_found : ∃ (f : Addr) (fd : FuncData), Fun K "found" "Shortest.found" st_Shortest_found f fd ∧ Meth K (cOf mg "Shortest") "found" f
  f_shortest_chain : ∃ (f : Addr) (fd : FuncData), Fun K "shortest_chain" "shortest_chain" st_shortest_chain f fd ∧ mg "shortest_chain" = some (.ref f)
  f_shortest_size : ∃ (f : Addr) (fd : FuncData), Fun K "shortest_size" "shortest_size" st_shortest_size f fd ∧ mg "shortest_size" = some (.ref f)
  f__law_cell : ∃ (f : Addr) (fd : FuncData), Fun K "_law_cell" "_law_cell" st__law_cell f fd ∧ mg "_law_cell" = some (.ref f)
  f__law_rich : ∃ (f : Addr) (fd : FuncData), Fun K "_law_rich" "_law_rich" st__law_rich f fd ∧ mg "_law_rich" = some (.ref f)
  f__law_numbers : ∃ (f : Addr) (fd : FuncData), Fun K "_law_numbers" "_law_numbers" st__law_numbers f fd ∧ mg "_law_numbers" = some (.ref f)
  f__law_is_made : ∃ (f : Addr) (fd : FuncData), Fun K "_law_is_made" "_law_is_made" st__law_is_made f fd ∧ mg "_law_is_made" = some (.ref f)
  f__law_told : ∃ (f : Addr) (fd : FuncData), Fun K "_law_told" "_law_told" st__law_told f fd ∧ mg "_law_told" = some (.ref f)
  f__law_refused : ∃ (f : Addr) (fd : FuncData), Fun K "_law_refused" "_law_refused" st__law_refused f fd ∧ mg "_law_refused" = some (.ref f)
  f_law : ∃ (f : Addr) (fd : FuncData), Fun K "law" "law" st_law f fd ∧ mg "law" = some (.ref f)
  o_Shortest : ObT K mg "Shortest"
  na_Shortest_number : NoAttr K (cOf mg "Shortest") "number"
  mk_Shortest : ∃ (fI : Addr) (fdI : FuncData), Mk K (cOf mg "Shortest") fI ∧ Fun K "__init__" "Shortest.__init__" (inClass (topS 9) 0) fI fdI
theorem sci_Shortest : FnScope ["self", "number"] ["self", "number"] (defScope (inClass (topS 9) 0)) := ⟨rfl, rfl, rfl, by decide +kernel, rfl, by decide +kernel, by decide +kernel⟩
theorem init_Shortest {P : Program} {w : World} {K : PySem.W.Frag} {mg : Str → Option Value} {base : Heap} {f : Addr} {fd : FuncData} (hc : Cls K (cOf mg "Shortest")) (hn : NoAttr K (cOf mg "Shortest") "number") (F : Fun K "__init__" "Shortest.__init__" (inClass (topS 9) 0) f fd) : FnOk P w K mg base CX0 1 f fd ["self", "number"] (spInit1 (cOf mg "Shortest") "number") := by
  refine F.ok sci_Shortest (fun vs H Q E h => ?_) (fun cdv A outer s H vs Q E hr h => ?_)
  · obtain ⟨p, dx, v, rfl, _⟩ := h
    rfl
  · obtain ⟨p, dx, v, rfl, hp, k⟩ := h
    exact ⟨_, pss_one (ps_fld (pv 0) (pv 1) rfl), _, rfl, _, rfl, p, _, dx, [], rfl, hp, hc, hn, (by show 0 < 1000; decide), k⟩
end G58
namespace G58
open PySem PySem.Spec L2 PyProof.Rows DL
set_option autoImplicit false
theorem sc_is_integer : FnScope N_is_integer ["value"] (defScope st_is_integer) := ⟨rfl, rfl, rfl, by decide +kernel, rfl, by decide +kernel, by decide +kernel⟩
theorem ok_is_integer {P : Program} {w : World} {K : PySem.W.Frag} {mg : Str → Option Value} {base : Heap} {f : Addr} {fd : FuncData} (T : Txt K mg) (F : Fun K "is_integer" "is_integer" st_is_integer f fd) : FnOk P w K mg base (L2.CX P w) 1 f fd ["value"] (spM K mg 1 m_is_integer) :=
  def_ok F sc_is_integer rfl (fun _ _ _ => rfl) (fun cdv A outer s H O E hr tk hp => by
    have hu : (A.deeper (envOfC "is_integer" (defScope st_is_integer) s.heap.objs.size f cdv)).units + 64 < cLine := hr.units
    have hu5 : (A.deeper (envOfC "is_integer" (defScope st_is_integer) s.heap.objs.size f cdv)).units + 65 < cLine := by have := hr.un; omega
    have hu1 : (A.deeper (envOfC "is_integer" (defScope st_is_integer) s.heap.objs.size f cdv)).units + 1 < cLine := by have := hr.un; omega
    exact ss_one (s_ret (toB (e_and (e_isi "int" T.n_isinstance T.n_int (by decide +kernel) (e_varB 0)) (e_one (e_not (e_isi "bool" T.n_isinstance T.n_bool (by decide +kernel) (e_varB 0))))))))
theorem def_is_integer {P : Program} {w : World} {K : PySem.W.Frag} {mg : Str → Option Value} {base : Heap} (T : Txt K mg) : Def P w K mg base "is_integer" 1 m_is_integer 1 := by
  obtain ⟨f, fd, F, hm⟩ := T.f_is_integer
  exact ⟨f, fd, ["value"], ok_is_integer T F, hm, F.kp, F.binds fun _ _ _ _ _ _ us hl => match us, hl with | [_], _ => rfl⟩
theorem sc_check_goal : FnScope N_check_goal ["number"] (defScope st_check_goal) := ⟨rfl, rfl, rfl, by decide +kernel, rfl, by decide +kernel, by decide +kernel⟩
theorem ok_check_goal {P : Program} {w : World} {K : PySem.W.Frag} {mg : Str → Option Value} {base : Heap} {f : Addr} {fd : FuncData} (T : Txt K mg) (D_is_integer : Def P w K mg base "is_integer" 1 m_is_integer 1) (F : Fun K "check_goal" "check_goal" st_check_goal f fd) : FnOk P w K mg base (L2.CX P w) 2 f fd ["number"] (spM K mg 1 m_check_goal) :=
  def_ok F sc_check_goal rfl (fun _ _ _ => rfl) (fun cdv A outer s H O E hr tk hp => by
    have hu : (A.deeper (envOfC "check_goal" (defScope st_check_goal) s.heap.objs.size f cdv)).units + 64 < cLine := hr.units
    have hu5 : (A.deeper (envOfC "check_goal" (defScope st_check_goal) s.heap.objs.size f cdv)).units + 65 < cLine := by have := hr.un; omega
    have hu1 : (A.deeper (envOfC "check_goal" (defScope st_check_goal) s.heap.objs.size f cdv)).units + 1 < cLine := by have := hr.un; omega
    have C_is_integer := D_is_integer.cal hr (by decide)
    exact ss_one (s_if (t_w (w_or (t_not (t_val (e_call C_is_integer tk (a_cons (e_var 0) (a_nil))))) (w_or1 (t_cmp op_lt opd_bool0 (e_varB 0) (toB (e_int)))))) (ss_one (s_raise0 T.x_BadNumber.g (ps_raise rfl tk (pmk_own0 PySem.F.excBase_ValueError T.x_BadNumber.ex T.x_BadNumber.g T.x_BadNumber.kp (raises_own T.x_BadNumber.sb T.x_BadNumber.ty))))) (ss_nil)))
theorem def_check_goal {P : Program} {w : World} {K : PySem.W.Frag} {mg : Str → Option Value} {base : Heap} (T : Txt K mg) (D_is_integer : Def P w K mg base "is_integer" 1 m_is_integer 1) : Def P w K mg base "check_goal" 1 m_check_goal 2 := by
  obtain ⟨f, fd, F, hm⟩ := T.f_check_goal
  exact ⟨f, fd, ["number"], ok_check_goal T D_is_integer F, hm, F.kp, F.binds fun _ _ _ _ _ _ us hl => match us, hl with | [_], _ => rfl⟩
theorem sc_chain_of : FnScope N_chain_of ["row"] (defScope st_chain_of) := ⟨rfl, rfl, rfl, by decide +kernel, rfl, by decide +kernel, by decide +kernel⟩
theorem ok_chain_of {P : Program} {w : World} {K : PySem.W.Frag} {mg : Str → Option Value} {base : Heap} {f : Addr} {fd : FuncData} (T : Txt K mg) (F : Fun K "chain_of" "chain_of" st_chain_of f fd) : FnOk P w K mg base (L2.CX P w) 1 f fd ["row"] (spM K mg 1 m_chain_of) :=
  def_ok F sc_chain_of rfl (fun _ _ _ => rfl) (fun cdv A outer s H O E hr tk hp => by
    have hu : (A.deeper (envOfC "chain_of" (defScope st_chain_of) s.heap.objs.size f cdv)).units + 64 < cLine := hr.units
    have hu5 : (A.deeper (envOfC "chain_of" (defScope st_chain_of) s.heap.objs.size f cdv)).units + 65 < cLine := by have := hr.un; omega
    have hu1 : (A.deeper (envOfC "chain_of" (defScope st_chain_of) s.heap.objs.size f cdv)).units + 1 < cLine := by have := hr.un; omega
    exact ss_cons (s_setX (ps_set (i := 1) sc_chain_of.nd rfl (Or.inl rfl) (x_f (f_lst (a_nil)))))
      (ss_cons (s_for hp rfl (i_range2 (pi_range2 rfl T.n_range (pa_cons (toB (e_int)) (pa_cons (toB (e_callB call_len cd_len T.n_len boot_len (b_cons (e_varB 0) (b_nil)))) (pa_nil))))) (g_name 2 sc_chain_of.nd) (ss_cons (s_set 3 sc_chain_of.nd (e_non))
      (ss_cons (s_for hp rfl (i_range1 (pi_range1 rfl T.n_range (pa_cons (e_varB 2) (pa_nil)))) (g_name 4 sc_chain_of.nd) (ss_one (s_for hp rfl (i_range1 (pi_range1 rfl T.n_range (pa_cons (toB (e_op op_addA opd_addA (e_varB 4) (toB (e_int)))) (pa_nil)))) (g_name 5 sc_chain_of.nd) (ss_one (s_if (t_cmp (op_eqD hu) opd_eqD (toB (e_op op_addA opd_addA (toB (e_ix (e_varB 0) (e_varB 4))) (toB (e_ix (e_varB 0) (e_varB 5))))) (toB (e_ix (e_varB 0) (e_varB 2)))) (ss_one (s_set 3 sc_chain_of.nd (e_tup (a_cons (e_var 4) (a_cons (e_var 5) (a_nil)))))) (ss_nil))))))
      (ss_cons (s_if (t_cmp op_isN opd_isN (e_varB 3) (toB (e_non))) (ss_one (s_raise_place rfl T.x_BadChain hr tk (e_op op_sub opd_int0 (e_varB 2) (toB (e_int))))) (ss_nil))
      (ss_one (s_append (ps_expr (pe_bm PySem.F.plainAttrs_list PySem.F.slot_list_append PySem.F.type_list_append mt_append (pv 1) (pa_cons (e_op op_addA opd_addA (toB (e_tup (a_cons (e_str) (a_nil)))) (e_varB 3)) pa_nil)))))))))
      (ss_one (s_ret (toB (e_callTy call_tuple_of cd_tuple T.n_tuple (by decide +kernel) (b_cons (e_varB 1) (b_nil))))))))
theorem def_chain_of {P : Program} {w : World} {K : PySem.W.Frag} {mg : Str → Option Value} {base : Heap} (T : Txt K mg) : Def P w K mg base "chain_of" 1 m_chain_of 1 := by
  obtain ⟨f, fd, F, hm⟩ := T.f_chain_of
  exact ⟨f, fd, ["row"], ok_chain_of T F, hm, F.kp, F.binds fun _ _ _ _ _ _ us hl => match us, hl with | [_], _ => rfl⟩
theorem sc_Shortest_deeper : FnScope N_Shortest_deeper ["self", "row", "size"] (defScope st_Shortest_deeper) := ⟨rfl, rfl, rfl, by decide +kernel, rfl, by decide +kernel, by decide +kernel⟩
theorem ok_Shortest_deeper {P : Program} {w : World} {K : PySem.W.Frag} {mg : Str → Option Value} {base : Heap} {f : Addr} {fd : FuncData} (T : Txt K mg) (F : Fun K "deeper" "Shortest.deeper" st_Shortest_deeper f fd) (HM : Meth K (cOf mg "Shortest") "deeper" f) : ∀ d : Nat, FnOk P w K mg base (L2.CX P w) (1 + d) f fd ["self", "row", "size"] (spO K mg "Shortest" 2 (m_Shortest_deeper d))
  | 0 => def_okO0 F sc_Shortest_deeper rfl
  | d + 1 => by
    have D_Shortest_deeper : DefO P w K mg base "Shortest" "deeper" 2 (m_Shortest_deeper d) (1 + d) := ⟨f, fd, ["self", "row", "size"], ok_Shortest_deeper T F HM d, HM, F.binds fun _ _ _ _ _ _ us hl => match us, hl with | [_, _, _], _ => rfl⟩
    exact def_okO F sc_Shortest_deeper rfl (fun _ _ _ _ => rfl) (fun cdv A outer s H O E hr tk hp => by
      have hu : (A.deeper (envOfC "Shortest.deeper" (defScope st_Shortest_deeper) s.heap.objs.size f cdv)).units + 64 < cLine := hr.units
      have hu5 : (A.deeper (envOfC "Shortest.deeper" (defScope st_Shortest_deeper) s.heap.objs.size f cdv)).units + 65 < cLine := by have := hr.un; omega
      have hu1 : (A.deeper (envOfC "Shortest.deeper" (defScope st_Shortest_deeper) s.heap.objs.size f cdv)).units + 1 < cLine := by have := hr.un; omega
      have C_Shortest_deeper := D_Shortest_deeper.cal hr (Nat.le_refl _)
      exact ss_cons (s_if (t_cmp (op_eqD hu) opd_eqD (toB (e_ix (e_varB 1) (toB (e_neg (toB (e_int)))))) (toB (e_fldO 0 T.o_Shortest T.na_Shortest_number rfl))) (ss_one (s_ret (e_varB 1))) (ss_nil))
        (ss_cons (s_if (t_w (w_or (t_cmp (op_eqD hu) opd_eqD (e_varB 2) (toB (e_int))) (w_or1 (t_cmp op_lt opd_bool0 (toB (e_op op_shl opd_shl (toB (e_ix (e_varB 1) (toB (e_neg (toB (e_int)))))) (e_varB 2))) (toB (e_fldO 0 T.o_Shortest T.na_Shortest_number rfl)))))) (ss_one (s_ret (toB (e_non)))) (ss_nil))
        (ss_cons (s_setX (ps_set (i := 3) sc_Shortest_deeper.nd rfl (Or.inl rfl) (x_f (f_lst (a_nil)))))
        (ss_cons (s_for hp rfl (i_seq (e_revL (pe_revL (e_varB 1)))) (g_name 4 sc_Shortest_deeper.nd) (ss_one (s_for hp rfl (i_seq (e_revL (pe_revL (e_varB 1)))) (g_name 5 sc_Shortest_deeper.nd) (ss_cons (s_set 6 sc_Shortest_deeper.nd (e_op op_addA opd_addA (e_varB 4) (e_varB 5)))
        (ss_one (s_if (t_w (w_and (t_cmp op_le opd_bool0 (e_varB 5) (e_varB 4)) (w_and (t_cmp op_gt opd_bool0 (e_varB 6) (toB (e_ix (e_varB 1) (toB (e_neg (toB (e_int))))))) (w_and (t_cmp op_le opd_bool0 (e_varB 6) (toB (e_fldO 0 T.o_Shortest T.na_Shortest_number rfl))) (w_and1 (t_cmp (op_notInD hu5) opd_notInD (e_varB 6) (e_varB 3))))))) (ss_cons (s_append (ps_expr (pe_bm PySem.F.plainAttrs_list PySem.F.slot_list_append PySem.F.type_list_append mt_append (pv 3) (pa_cons (e_var 6) pa_nil))))
        (ss_cons (s_set 7 sc_Shortest_deeper.nd (e_methO 0 T.o_Shortest C_Shortest_deeper rfl (a_cons (e_op op_addA opd_addA (e_varB 1) (toB (e_lst (a_cons (e_var 6) (a_nil))))) (a_cons (e_op op_sub opd_int0 (e_varB 2) (toB (e_int))) (a_nil)))))
        (ss_one (s_if (t_cmp op_notN opd_notN (e_varB 7) (toB (e_non))) (ss_one (s_ret (e_varB 7))) (ss_nil))))) (ss_nil)))))))
        (ss_one (s_ret (toB (e_non))))))))
theorem def_Shortest_deeper {P : Program} {w : World} {K : PySem.W.Frag} {mg : Str → Option Value} {base : Heap} (T : Txt K mg) : DefO P w K mg base "Shortest" "deeper" 2 (m_Shortest_deeper 12) 13 := by
  obtain ⟨f, fd, F, hm⟩ := T.f_Shortest_deeper
  exact ⟨f, fd, ["self", "row", "size"], ok_Shortest_deeper T F hm 12, hm, F.binds fun _ _ _ _ _ _ us hl => match us, hl with | [_, _, _], _ => rfl⟩
theorem sc_Shortest_found : FnScope N_Shortest_found ["self"] (defScope st_Shortest_found) := ⟨rfl, rfl, rfl, by decide +kernel, rfl, by decide +kernel, by decide +kernel⟩
theorem ok_Shortest_found {P : Program} {w : World} {K : PySem.W.Frag} {mg : Str → Option Value} {base : Heap} {f : Addr} {fd : FuncData} (T : Txt K mg) (D_Shortest_deeper : DefO P w K mg base "Shortest" "deeper" 2 (m_Shortest_deeper 12) 13) (F : Fun K "found" "Shortest.found" st_Shortest_found f fd) : FnOk P w K mg base (L2.CX P w) 14 f fd ["self"] (spO K mg "Shortest" 0 m_Shortest_found) :=
  def_okO F sc_Shortest_found rfl (fun _ _ _ _ => rfl) (fun cdv A outer s H O E hr tk hp => by
    have hu : (A.deeper (envOfC "Shortest.found" (defScope st_Shortest_found) s.heap.objs.size f cdv)).units + 64 < cLine := hr.units
    have hu5 : (A.deeper (envOfC "Shortest.found" (defScope st_Shortest_found) s.heap.objs.size f cdv)).units + 65 < cLine := by have := hr.un; omega
    have hu1 : (A.deeper (envOfC "Shortest.found" (defScope st_Shortest_found) s.heap.objs.size f cdv)).units + 1 < cLine := by have := hr.un; omega
    have C_Shortest_deeper := D_Shortest_deeper.cal hr (by decide)
    exact ss_cons (s_set 1 sc_Shortest_found.nd (e_op op_sub opd_int0 (toB (e_bits (toB (e_fldO 0 T.o_Shortest T.na_Shortest_number rfl)))) (toB (e_int))))
      (ss_one (s_while (fun _ => FUEL.1) hp (t_val (e_bl)) (ss_cons (s_set 2 sc_Shortest_found.nd (e_methO 0 T.o_Shortest C_Shortest_deeper rfl (a_cons (e_lst (a_cons (e_int) (a_nil))) (a_cons (e_var 1) (a_nil)))))
      (ss_cons (s_if (t_cmp op_notN opd_notN (e_varB 2) (toB (e_non))) (ss_one (s_ret (e_varB 2))) (ss_nil))
      (ss_one (s_aug 1 iop_add opd_int0 sc_Shortest_found.nd (toB (e_int)))))))))
theorem def_Shortest_found {P : Program} {w : World} {K : PySem.W.Frag} {mg : Str → Option Value} {base : Heap} (T : Txt K mg) (D_Shortest_deeper : DefO P w K mg base "Shortest" "deeper" 2 (m_Shortest_deeper 12) 13) : DefO P w K mg base "Shortest" "found" 0 m_Shortest_found 14 := by
  obtain ⟨f, fd, F, hm⟩ := T.f_Shortest_found
  exact ⟨f, fd, ["self"], ok_Shortest_found T D_Shortest_deeper F, hm, F.binds fun _ _ _ _ _ _ us hl => match us, hl with | [_], _ => rfl⟩
theorem sc_shortest_chain : FnScope N_shortest_chain ["number"] (defScope st_shortest_chain) := ⟨rfl, rfl, rfl, by decide +kernel, rfl, by decide +kernel, by decide +kernel⟩
theorem ok_shortest_chain {P : Program} {w : World} {K : PySem.W.Frag} {mg : Str → Option Value} {base : Heap} {f : Addr} {fd : FuncData} (T : Txt K mg) (D_Shortest_found : DefO P w K mg base "Shortest" "found" 0 m_Shortest_found 14) (D_chain_of : Def P w K mg base "chain_of" 1 m_chain_of 1) (D_check_goal : Def P w K mg base "check_goal" 1 m_check_goal 2) (F : Fun K "shortest_chain" "shortest_chain" st_shortest_chain f fd) : FnOk P w K mg base (L2.CX P w) 15 f fd ["number"] (spM K mg 1 m_shortest_chain) :=
  def_ok F sc_shortest_chain rfl (fun _ _ _ => rfl) (fun cdv A outer s H O E hr tk hp => by
    have hu : (A.deeper (envOfC "shortest_chain" (defScope st_shortest_chain) s.heap.objs.size f cdv)).units + 64 < cLine := hr.units
    have hu5 : (A.deeper (envOfC "shortest_chain" (defScope st_shortest_chain) s.heap.objs.size f cdv)).units + 65 < cLine := by have := hr.un; omega
    have hu1 : (A.deeper (envOfC "shortest_chain" (defScope st_shortest_chain) s.heap.objs.size f cdv)).units + 1 < cLine := by have := hr.un; omega
    obtain ⟨fI, fdI, MK, FI0⟩ := T.mk_Shortest
    have FI := init_Shortest (P := P) (w := w) (mg := mg) (base := base) T.o_Shortest.cl T.na_Shortest_number FI0
    have bI := FI0.binds (ps := ["self", "number"]) fun _ _ _ _ _ _ us hl => match us, hl with | [_, _], _ => rfl
    have hrI : Room 2 (A.deeper (envOfC "shortest_chain" (defScope st_shortest_chain) s.heap.objs.size f cdv)) := hr.mono (by decide)
    have C_Shortest_found := D_Shortest_found.cal hr (by decide)
    have C_chain_of := D_chain_of.cal hr (by decide)
    have C_check_goal := D_check_goal.cal hr (by decide)
    exact ss_cons (s_expr (e_call C_check_goal tk (a_cons (e_var 0) (a_nil))))
      (ss_cons (s_if (t_cmp op_gt opd_bool0 (e_varB 0) (toB (e_globI T.c_MOST_SHORTEST))) (ss_one (s_raise0 T.x_BadNumber.g (ps_raise rfl tk (pmk_own0 PySem.F.excBase_ValueError T.x_BadNumber.ex T.x_BadNumber.g T.x_BadNumber.kp (raises_own T.x_BadNumber.sb T.x_BadNumber.ty))))) (ss_nil))
      (ss_one (s_ret (toB (e_call C_chain_of tk (a_cons (e_newM T.o_Shortest C_Shortest_found MK FI hrI bI (by decide) (e_var 0)) (a_nil))))))))
theorem def_shortest_chain {P : Program} {w : World} {K : PySem.W.Frag} {mg : Str → Option Value} {base : Heap} (T : Txt K mg) (D_Shortest_found : DefO P w K mg base "Shortest" "found" 0 m_Shortest_found 14) (D_chain_of : Def P w K mg base "chain_of" 1 m_chain_of 1) (D_check_goal : Def P w K mg base "check_goal" 1 m_check_goal 2) : Def P w K mg base "shortest_chain" 1 m_shortest_chain 15 := by
  obtain ⟨f, fd, F, hm⟩ := T.f_shortest_chain
  exact ⟨f, fd, ["number"], ok_shortest_chain T D_Shortest_found D_chain_of D_check_goal F, hm, F.kp, F.binds fun _ _ _ _ _ _ us hl => match us, hl with | [_], _ => rfl⟩
theorem sc_shortest_size : FnScope N_shortest_size ["number"] (defScope st_shortest_size) := ⟨rfl, rfl, rfl, by decide +kernel, rfl, by decide +kernel, by decide +kernel⟩
theorem ok_shortest_size {P : Program} {w : World} {K : PySem.W.Frag} {mg : Str → Option Value} {base : Heap} {f : Addr} {fd : FuncData} (T : Txt K mg) (D_shortest_chain : Def P w K mg base "shortest_chain" 1 m_shortest_chain 15) (F : Fun K "shortest_size" "shortest_size" st_shortest_size f fd) : FnOk P w K mg base (L2.CX P w) 16 f fd ["number"] (spM K mg 1 m_shortest_size) :=
  def_ok F sc_shortest_size rfl (fun _ _ _ => rfl) (fun cdv A outer s H O E hr tk hp => by
    have hu : (A.deeper (envOfC "shortest_size" (defScope st_shortest_size) s.heap.objs.size f cdv)).units + 64 < cLine := hr.units
    have hu5 : (A.deeper (envOfC "shortest_size" (defScope st_shortest_size) s.heap.objs.size f cdv)).units + 65 < cLine := by have := hr.un; omega
    have hu1 : (A.deeper (envOfC "shortest_size" (defScope st_shortest_size) s.heap.objs.size f cdv)).units + 1 < cLine := by have := hr.un; omega
    have C_shortest_chain := D_shortest_chain.cal hr (by decide)
    exact ss_one (s_ret (toB (e_callB call_len cd_len T.n_len boot_len (b_cons (toB (e_call C_shortest_chain tk (a_cons (e_var 0) (a_nil)))) (b_nil))))))
theorem def_shortest_size {P : Program} {w : World} {K : PySem.W.Frag} {mg : Str → Option Value} {base : Heap} (T : Txt K mg) (D_shortest_chain : Def P w K mg base "shortest_chain" 1 m_shortest_chain 15) : Def P w K mg base "shortest_size" 1 m_shortest_size 16 := by
  obtain ⟨f, fd, F, hm⟩ := T.f_shortest_size
  exact ⟨f, fd, ["number"], ok_shortest_size T D_shortest_chain F, hm, F.kp, F.binds fun _ _ _ _ _ _ us hl => match us, hl with | [_], _ => rfl⟩
theorem sc__law_cell : FnScope N__law_cell ["script", "k"] (defScope st__law_cell) := ⟨rfl, rfl, rfl, by decide +kernel, rfl, by decide +kernel, by decide +kernel⟩
theorem ok__law_cell {P : Program} {w : World} {K : PySem.W.Frag} {mg : Str → Option Value} {base : Heap} {f : Addr} {fd : FuncData} (T : Txt K mg) (F : Fun K "_law_cell" "_law_cell" st__law_cell f fd) : FnOk P w K mg base (L2.CX P w) 1 f fd ["script", "k"] (spM K mg 2 m__law_cell) :=
  def_ok F sc__law_cell rfl (fun _ _ _ => rfl) (fun cdv A outer s H O E hr tk hp => by
    have hu : (A.deeper (envOfC "_law_cell" (defScope st__law_cell) s.heap.objs.size f cdv)).units + 64 < cLine := hr.units
    have hu5 : (A.deeper (envOfC "_law_cell" (defScope st__law_cell) s.heap.objs.size f cdv)).units + 65 < cLine := by have := hr.un; omega
    have hu1 : (A.deeper (envOfC "_law_cell" (defScope st__law_cell) s.heap.objs.size f cdv)).units + 1 < cLine := by have := hr.un; omega
    exact ss_cons (s_if (t_cmp op_lt opd_bool0 (e_varB 1) (toB (e_callB call_len cd_len T.n_len boot_len (b_cons (e_varB 0) (b_nil))))) (ss_one (s_ret (toB (e_op op_mod opd_mod (toB (e_callB call_abs cd_abs T.n_abs (by decide +kernel) (b_cons (toB (e_callTy call_int1 cd_int1 T.n_int (by decide +kernel) (b_cons (toB (e_ix (e_varB 0) (e_varB 1))) (b_nil)))) (b_nil)))) (toB (e_int)))))) (ss_nil))
      (ss_one (s_ret (toB (e_int)))))
theorem def__law_cell {P : Program} {w : World} {K : PySem.W.Frag} {mg : Str → Option Value} {base : Heap} (T : Txt K mg) : Def P w K mg base "_law_cell" 2 m__law_cell 1 := by
  obtain ⟨f, fd, F, hm⟩ := T.f__law_cell
  exact ⟨f, fd, ["script", "k"], ok__law_cell T F, hm, F.kp, F.binds fun _ _ _ _ _ _ us hl => match us, hl with | [_, _], _ => rfl⟩
theorem sc__law_rich : FnScope N__law_rich ["cell", "k"] (defScope st__law_rich) := ⟨rfl, rfl, rfl, by decide +kernel, rfl, by decide +kernel, by decide +kernel⟩
theorem ok__law_rich {P : Program} {w : World} {K : PySem.W.Frag} {mg : Str → Option Value} {base : Heap} {f : Addr} {fd : FuncData} (T : Txt K mg) (F : Fun K "_law_rich" "_law_rich" st__law_rich f fd) : FnOk P w K mg base (L2.CX P w) 1 f fd ["cell", "k"] (spM K mg 2 m__law_rich) :=
  def_ok F sc__law_rich rfl (fun _ _ _ => rfl) (fun cdv A outer s H O E hr tk hp => by
    have hu : (A.deeper (envOfC "_law_rich" (defScope st__law_rich) s.heap.objs.size f cdv)).units + 64 < cLine := hr.units
    have hu5 : (A.deeper (envOfC "_law_rich" (defScope st__law_rich) s.heap.objs.size f cdv)).units + 65 < cLine := by have := hr.un; omega
    have hu1 : (A.deeper (envOfC "_law_rich" (defScope st__law_rich) s.heap.objs.size f cdv)).units + 1 < cLine := by have := hr.un; omega
    exact ss_cons (s_set 2 sc__law_rich.nd (e_op op_mod opd_mod (toB (e_callTy call_int1 cd_int1 T.n_int (by decide +kernel) (b_cons (toB (e_op op_addA opd_addA (toB (e_op op_addA opd_addA (toB (e_op op_mulA opd_mulA (e_varB 0) (toB (e_int)))) (toB (e_op op_mulA opd_mulA (e_varB 1) (toB (e_int)))))) (toB (e_int)))) (b_nil)))) (toB (e_int))))
      (ss_one (s_ret (toB (e_op op_addA opd_addA (toB (e_op op_mulA opd_mulA (e_varB 2) (toB (e_int)))) (toB (e_op op_mod opd_mod (toB (e_callTy call_int1 cd_int1 T.n_int (by decide +kernel) (b_cons (toB (e_op op_addA opd_addA (toB (e_op op_mulA opd_mulA (e_varB 2) (toB (e_int)))) (e_varB 0))) (b_nil)))) (toB (e_int)))))))))
theorem def__law_rich {P : Program} {w : World} {K : PySem.W.Frag} {mg : Str → Option Value} {base : Heap} (T : Txt K mg) : Def P w K mg base "_law_rich" 2 m__law_rich 1 := by
  obtain ⟨f, fd, F, hm⟩ := T.f__law_rich
  exact ⟨f, fd, ["cell", "k"], ok__law_rich T F, hm, F.kp, F.binds fun _ _ _ _ _ _ us hl => match us, hl with | [_, _], _ => rfl⟩
theorem sc__law_numbers : FnScope N__law_numbers ["chain"] (defScope st__law_numbers) := ⟨rfl, rfl, rfl, by decide +kernel, rfl, by decide +kernel, by decide +kernel⟩
theorem ok__law_numbers {P : Program} {w : World} {K : PySem.W.Frag} {mg : Str → Option Value} {base : Heap} {f : Addr} {fd : FuncData} (T : Txt K mg) (F : Fun K "_law_numbers" "_law_numbers" st__law_numbers f fd) : FnOk P w K mg base (L2.CX P w) 1 f fd ["chain"] (spM K mg 1 m__law_numbers) :=
  def_ok F sc__law_numbers rfl (fun _ _ _ => rfl) (fun cdv A outer s H O E hr tk hp => by
    have hu : (A.deeper (envOfC "_law_numbers" (defScope st__law_numbers) s.heap.objs.size f cdv)).units + 64 < cLine := hr.units
    have hu5 : (A.deeper (envOfC "_law_numbers" (defScope st__law_numbers) s.heap.objs.size f cdv)).units + 65 < cLine := by have := hr.un; omega
    have hu1 : (A.deeper (envOfC "_law_numbers" (defScope st__law_numbers) s.heap.objs.size f cdv)).units + 1 < cLine := by have := hr.un; omega
    exact ss_cons (s_setX (ps_set (i := 1) sc__law_numbers.nd rfl (Or.inl rfl) (x_f (f_lst (a_cons (e_int) (a_nil))))))
      (ss_cons (s_for hp rfl (i_seq (e_var 0)) (g_name 2 sc__law_numbers.nd) (ss_cons (s_if (t_w (w_or (t_not (t_val (e_isi "tuple" T.n_isinstance T.n_tuple (by decide +kernel) (e_varB 2)))) (w_or (t_cmp (op_neD hu) opd_neD (toB (e_callB call_len cd_len T.n_len boot_len (b_cons (e_varB 2) (b_nil)))) (toB (e_int))) (w_or (t_cmp (op_neD hu) opd_neD (toB (e_ix (e_varB 2) (toB (e_int)))) (toB (e_str))) (w_or (t_not (t_chain op_le op_lt opd_bool0 opd_bool0 (toB (e_int)) (toB (e_ix (e_varB 2) (toB (e_int)))) (toB (e_callB call_len cd_len T.n_len boot_len (b_cons (e_varB 1) (b_nil)))))) (w_or1 (t_not (t_chain op_le op_lt opd_bool0 opd_bool0 (toB (e_int)) (toB (e_ix (e_varB 2) (toB (e_int)))) (toB (e_callB call_len cd_len T.n_len boot_len (b_cons (e_varB 1) (b_nil)))))))))))) (ss_one (s_ret (toB (e_non)))) (ss_nil))
      (ss_one (s_append (ps_expr (pe_bm PySem.F.plainAttrs_list PySem.F.slot_list_append PySem.F.type_list_append mt_append (pv 1) (pa_cons (e_op op_addA opd_addA (toB (e_ix (e_varB 1) (toB (e_ix (e_varB 2) (toB (e_int)))))) (toB (e_ix (e_varB 1) (toB (e_ix (e_varB 2) (toB (e_int))))))) pa_nil)))))))
      (ss_one (s_ret (e_varB 1)))))
theorem def__law_numbers {P : Program} {w : World} {K : PySem.W.Frag} {mg : Str → Option Value} {base : Heap} (T : Txt K mg) : Def P w K mg base "_law_numbers" 1 m__law_numbers 1 := by
  obtain ⟨f, fd, F, hm⟩ := T.f__law_numbers
  exact ⟨f, fd, ["chain"], ok__law_numbers T F, hm, F.kp, F.binds fun _ _ _ _ _ _ us hl => match us, hl with | [_], _ => rfl⟩
theorem sc__law_is_made : FnScope N__law_is_made ["number", "size"] (defScope st__law_is_made) := ⟨rfl, rfl, rfl, by decide +kernel, rfl, by decide +kernel, by decide +kernel⟩
theorem ok__law_is_made {P : Program} {w : World} {K : PySem.W.Frag} {mg : Str → Option Value} {base : Heap} {f : Addr} {fd : FuncData} (T : Txt K mg) (F : Fun K "_law_is_made" "_law_is_made" st__law_is_made f fd) : FnOk P w K mg base (L2.CX P w) 1 f fd ["number", "size"] (spM K mg 2 m__law_is_made) :=
  def_ok F sc__law_is_made rfl (fun _ _ _ => rfl) (fun cdv A outer s H O E hr tk hp => by
    have hu : (A.deeper (envOfC "_law_is_made" (defScope st__law_is_made) s.heap.objs.size f cdv)).units + 64 < cLine := hr.units
    have hu5 : (A.deeper (envOfC "_law_is_made" (defScope st__law_is_made) s.heap.objs.size f cdv)).units + 65 < cLine := by have := hr.un; omega
    have hu1 : (A.deeper (envOfC "_law_is_made" (defScope st__law_is_made) s.heap.objs.size f cdv)).units + 1 < cLine := by have := hr.un; omega
    exact ss_cons (s_set 2 sc__law_is_made.nd (e_lst (a_cons (e_lst (a_cons (e_int) (a_nil))) (a_nil))))
      (ss_cons (s_for hp rfl (i_range1 (pi_range1 rfl T.n_range (pa_cons (e_varB 1) (pa_nil)))) (g_name 3 sc__law_is_made.nd) (ss_cons (s_setX (ps_set (i := 4) sc__law_is_made.nd rfl (Or.inl rfl) (x_f (f_lst (a_nil)))))
      (ss_cons (s_for hp rfl (i_seq (e_var 2)) (g_name 5 sc__law_is_made.nd) (ss_cons (s_setX (ps_set (i := 6) sc__law_is_made.nd rfl (Or.inl rfl) (x_f (f_lst (a_nil)))))
      (ss_one (s_for hp rfl (i_seq (e_var 5)) (g_name 7 sc__law_is_made.nd) (ss_one (s_for hp rfl (i_seq (e_var 5)) (g_name 8 sc__law_is_made.nd) (ss_cons (s_set 9 sc__law_is_made.nd (e_op op_addA opd_addA (e_varB 7) (e_varB 8)))
      (ss_one (s_if (t_w (w_and (t_cmp op_gt opd_bool0 (e_varB 9) (toB (e_ix (e_varB 5) (toB (e_neg (toB (e_int))))))) (w_and (t_cmp op_le opd_bool0 (e_varB 9) (e_varB 0)) (w_and (t_cmp (op_notInD hu5) opd_notInD (e_varB 9) (e_varB 6)) (w_and1 (t_cmp op_ge opd_bool0 (toB (e_op op_shl opd_shl (e_varB 9) (toB (e_op op_sub opd_int0 (toB (e_op op_sub opd_int0 (e_varB 1) (e_varB 3))) (toB (e_int)))))) (e_varB 0))))))) (ss_cons (s_append (ps_expr (pe_bm PySem.F.plainAttrs_list PySem.F.slot_list_append PySem.F.type_list_append mt_append (pv 6) (pa_cons (e_var 9) pa_nil))))
      (ss_one (s_append (ps_expr (pe_bm PySem.F.plainAttrs_list PySem.F.slot_list_append PySem.F.type_list_append mt_append (pv 4) (pa_cons (e_op op_addA opd_addA (e_varB 5) (toB (e_lst (a_cons (e_var 9) (a_nil))))) pa_nil)))))) (ss_nil))))))))))
      (ss_one (s_freeze 4 (s_set 2 sc__law_is_made.nd (e_var 4)))))))
      (ss_one (s_ret (toB (e_callB (cr_any rfl) cd_any T.n_any (by decide +kernel) (b_cons (toB (e_ofF (f_comp (by decide) (pe_lc (own := [(("row" : Str), 5)]) rfl sc__law_is_made.nd (i_seq (e_var 2)) (blkOk_by (own := [(("row" : Str), 5)]) (N := N__law_is_made) (sc := defScope st__law_is_made) (by decide +kernel)) (fun _ _ _ _ _ => g_name 5 sc__law_is_made.nd) (fun _ _ _ _ _ => pts_yes) (fun _ _ _ _ _ => e_cmp (op_eqD hu) opd_eqD (toB (e_ix (e_varB 5) (toB (e_neg (toB (e_int)))))) (e_varB 0)))))) (b_nil))))))))
theorem def__law_is_made {P : Program} {w : World} {K : PySem.W.Frag} {mg : Str → Option Value} {base : Heap} (T : Txt K mg) : Def P w K mg base "_law_is_made" 2 m__law_is_made 1 := by
  obtain ⟨f, fd, F, hm⟩ := T.f__law_is_made
  exact ⟨f, fd, ["number", "size"], ok__law_is_made T F, hm, F.kp, F.binds fun _ _ _ _ _ _ us hl => match us, hl with | [_, _], _ => rfl⟩
theorem sc__law_told : FnScope N__law_told ["row"] (defScope st__law_told) := ⟨rfl, rfl, rfl, by decide +kernel, rfl, by decide +kernel, by decide +kernel⟩
theorem ok__law_told {P : Program} {w : World} {K : PySem.W.Frag} {mg : Str → Option Value} {base : Heap} {f : Addr} {fd : FuncData} (T : Txt K mg) (D_chain_of : Def P w K mg base "chain_of" 1 m_chain_of 1) (F : Fun K "_law_told" "_law_told" st__law_told f fd) : FnOk P w K mg base (L2.CX P w) 2 f fd ["row"] (spM K mg 1 m__law_told) :=
  def_ok F sc__law_told rfl (fun _ _ _ => rfl) (fun cdv A outer s H O E hr tk hp => by
    have hu : (A.deeper (envOfC "_law_told" (defScope st__law_told) s.heap.objs.size f cdv)).units + 64 < cLine := hr.units
    have hu5 : (A.deeper (envOfC "_law_told" (defScope st__law_told) s.heap.objs.size f cdv)).units + 65 < cLine := by have := hr.un; omega
    have hu1 : (A.deeper (envOfC "_law_told" (defScope st__law_told) s.heap.objs.size f cdv)).units + 1 < cLine := by have := hr.un; omega
    have C_chain_of := D_chain_of.cal hr (by decide)
    exact ss_one (s_tryAs (i := 1) rfl rfl sc__law_told.nd rfl ⟨rfl, by decide, Or.inl T.g_BadChain⟩ tk (fun W pn xe tk1 hp1 => ss_one (s_ret (toB (e_call C_chain_of tk1 (a_cons (e_var 0) (a_nil)))))) (fun a oe cls dd pn hz hf => ss_one (s_ret (toB (e_by_place 1 T.x_BadChain hz hf rfl rfl)))) (T.sub_BadChain)))
theorem def__law_told {P : Program} {w : World} {K : PySem.W.Frag} {mg : Str → Option Value} {base : Heap} (T : Txt K mg) (D_chain_of : Def P w K mg base "chain_of" 1 m_chain_of 1) : Def P w K mg base "_law_told" 1 m__law_told 2 := by
  obtain ⟨f, fd, F, hm⟩ := T.f__law_told
  exact ⟨f, fd, ["row"], ok__law_told T D_chain_of F, hm, F.kp, F.binds fun _ _ _ _ _ _ us hl => match us, hl with | [_], _ => rfl⟩
theorem sc__law_refused : FnScope N__law_refused ["value"] (defScope st__law_refused) := ⟨rfl, rfl, rfl, by decide +kernel, rfl, by decide +kernel, by decide +kernel⟩
theorem ok__law_refused {P : Program} {w : World} {K : PySem.W.Frag} {mg : Str → Option Value} {base : Heap} {f : Addr} {fd : FuncData} (T : Txt K mg) (D_shortest_chain : Def P w K mg base "shortest_chain" 1 m_shortest_chain 15) (D_shortest_size : Def P w K mg base "shortest_size" 1 m_shortest_size 16) (F : Fun K "_law_refused" "_law_refused" st__law_refused f fd) : FnOk P w K mg base (L2.CX P w) 17 f fd ["value"] (spM K mg 1 m__law_refused) :=
  def_ok F sc__law_refused rfl (fun _ _ _ => rfl) (fun cdv A outer s H O E hr tk hp => by
    have hu : (A.deeper (envOfC "_law_refused" (defScope st__law_refused) s.heap.objs.size f cdv)).units + 64 < cLine := hr.units
    have hu5 : (A.deeper (envOfC "_law_refused" (defScope st__law_refused) s.heap.objs.size f cdv)).units + 65 < cLine := by have := hr.un; omega
    have hu1 : (A.deeper (envOfC "_law_refused" (defScope st__law_refused) s.heap.objs.size f cdv)).units + 1 < cLine := by have := hr.un; omega
    have C_shortest_chain := D_shortest_chain.cal hr (by decide)
    have C_shortest_size := D_shortest_size.cal hr (by decide)
    exact ss_cons (s_set 1 sc__law_refused.nd (e_int))
      (ss_cons (s_for hp rfl (i_range1 (pi_range1 rfl T.n_range (pa_cons (toB (e_int)) (pa_nil)))) (g_name 2 sc__law_refused.nd) (ss_one (s_tryO rfl rfl ⟨rfl, by decide, Or.inl T.g_BadNumber⟩ tk (fun W pn xe tk1 hp1 => ss_one (s_if (t_cmp (op_eqD hu) opd_eqD (e_varB 2) (toB (e_int))) (ss_one (s_expr (e_call C_shortest_chain tk1 (a_cons (e_var 0) (a_nil))))) (ss_one (s_expr (e_call C_shortest_size tk1 (a_cons (e_var 0) (a_nil))))))) (fun a oe cls dd pn hz hf fs => ss_one (s_set 1 sc__law_refused.nd (e_op op_addA opd_addA (e_varB 1) (toB (e_int))))) (T.sub_BadNumber))))
      (ss_one (s_ret (toB (e_cmp (op_eqD hu) opd_eqD (e_varB 1) (toB (e_int))))))))
theorem def__law_refused {P : Program} {w : World} {K : PySem.W.Frag} {mg : Str → Option Value} {base : Heap} (T : Txt K mg) (D_shortest_chain : Def P w K mg base "shortest_chain" 1 m_shortest_chain 15) (D_shortest_size : Def P w K mg base "shortest_size" 1 m_shortest_size 16) : Def P w K mg base "_law_refused" 1 m__law_refused 17 := by
  obtain ⟨f, fd, F, hm⟩ := T.f__law_refused
  exact ⟨f, fd, ["value"], ok__law_refused T D_shortest_chain D_shortest_size F, hm, F.kp, F.binds fun _ _ _ _ _ _ us hl => match us, hl with | [_], _ => rfl⟩
theorem sc_law : FnScope N_law ["script"] (defScope st_law) := ⟨rfl, rfl, rfl, by decide +kernel, rfl, by decide +kernel, by decide +kernel⟩
theorem ok_law {P : Program} {w : World} {K : PySem.W.Frag} {mg : Str → Option Value} {base : Heap} {f : Addr} {fd : FuncData} (T : Txt K mg) (D__law_cell : Def P w K mg base "_law_cell" 2 m__law_cell 1) (D__law_is_made : Def P w K mg base "_law_is_made" 2 m__law_is_made 1) (D__law_numbers : Def P w K mg base "_law_numbers" 1 m__law_numbers 1) (D__law_refused : Def P w K mg base "_law_refused" 1 m__law_refused 17) (D__law_rich : Def P w K mg base "_law_rich" 2 m__law_rich 1) (D__law_told : Def P w K mg base "_law_told" 1 m__law_told 2) (D_shortest_chain : Def P w K mg base "shortest_chain" 1 m_shortest_chain 15) (D_shortest_size : Def P w K mg base "shortest_size" 1 m_shortest_size 16) (F : Fun K "law" "law" st_law f fd) : FnOk P w K mg base (L2.CX P w) 18 f fd ["script"] (spM K mg 1 m_law) :=
  def_ok F sc_law rfl (fun _ _ _ => rfl) (fun cdv A outer s H O E hr tk hp => by
    have hu : (A.deeper (envOfC "law" (defScope st_law) s.heap.objs.size f cdv)).units + 64 < cLine := hr.units
    have hu5 : (A.deeper (envOfC "law" (defScope st_law) s.heap.objs.size f cdv)).units + 65 < cLine := by have := hr.un; omega
    have hu1 : (A.deeper (envOfC "law" (defScope st_law) s.heap.objs.size f cdv)).units + 1 < cLine := by have := hr.un; omega
    have C__law_cell := D__law_cell.cal hr (by decide)
    have C__law_is_made := D__law_is_made.cal hr (by decide)
    have C__law_numbers := D__law_numbers.cal hr (by decide)
    have C__law_refused := D__law_refused.cal hr (by decide)
    have C__law_rich := D__law_rich.cal hr (by decide)
    have C__law_told := D__law_told.cal hr (by decide)
    have C_shortest_chain := D_shortest_chain.cal hr (by decide)
    have C_shortest_size := D_shortest_size.cal hr (by decide)
    exact ss_cons (s_set 1 sc_law.nd (e_call C__law_rich tk (a_cons (e_call C__law_cell tk (a_cons (e_var 0) (a_cons (e_int) (a_nil)))) (a_cons (e_int) (a_nil)))))
      (ss_cons (s_for hp rfl (i_seq (e_lst (a_cons (e_op op_addA opd_addA (toB (e_int)) (toB (e_op op_mod opd_mod (e_varB 1) (toB (e_int))))) (a_cons (e_op op_addA opd_addA (toB (e_int)) (toB (e_op op_mod opd_mod (toB (e_op op_fdivW opd_fdiv (e_varB 1) (toB (e_int)))) (toB (e_int))))) (a_nil))))) (g_name 2 sc_law.nd) (ss_cons (s_set 3 sc_law.nd (e_call C_shortest_chain tk (a_cons (e_var 2) (a_nil))))
      (ss_cons (s_setX (ps_set (i := 4) sc_law.nd rfl (Or.inl rfl) (x_e (e_call C__law_numbers tk (a_cons (e_var 3) (a_nil))))))
      (ss_cons (s_if (t_w (w_or (t_cmp op_isN opd_isN (e_varB 4) (toB (e_non))) (w_or (t_cmp (op_neD hu) opd_neD (toB (e_ix (e_varB 4) (toB (e_neg (toB (e_int)))))) (e_varB 2)) (w_or1 (t_cmp (op_neD hu) opd_neD (toB (e_call C_shortest_size tk (a_cons (e_var 2) (a_nil)))) (toB (e_callB call_len cd_len T.n_len boot_len (b_cons (e_varB 3) (b_nil))))))))) (ss_one (s_ret (toB (e_bl)))) (ss_nil))
      (ss_one (s_if (t_w (w_and (t_cmp op_gt opd_bool0 (e_varB 2) (toB (e_int))) (w_and1 (t_val (e_call C__law_is_made tk (a_cons (e_var 2) (a_cons (e_op op_sub opd_int0 (toB (e_callB call_len cd_len T.n_len boot_len (b_cons (e_varB 3) (b_nil)))) (toB (e_int))) (a_nil)))))))) (ss_one (s_ret (toB (e_bl)))) (ss_nil)))))))
      (ss_cons (s_setX (ps_set (i := 4) sc_law.nd rfl (Or.inl rfl) (x_f (f_lst (a_cons (e_int) (a_nil))))))
      (ss_cons (s_for hp rfl (i_range1 (pi_range1 rfl T.n_range (pa_cons (toB (e_op op_addA opd_addA (toB (e_int)) (toB (e_op op_mod opd_mod (toB (e_op op_fdivW opd_fdiv (e_varB 1) (toB (e_int)))) (toB (e_int)))))) (pa_nil)))) (g_name 5 sc_law.nd) (ss_cons (s_set 6 sc_law.nd (e_op op_fdivW opd_fdiv (e_varB 1) (toB (e_op op_addA opd_addA (toB (e_int)) (toB (e_op op_mulA opd_mulA (toB (e_int)) (e_varB 5)))))))
      (ss_cons (s_setX (ps_set (i := 7) sc_law.nd rfl (Or.inl rfl) (x_f (f_lst (a_nil)))))
      (ss_cons (s_forO 3 4 hp rfl (fun pn => g_name 8 sc_law.nd) (fun pn => ss_one (s_forO 2 4 hp rfl (fun pn => g_name 9 sc_law.nd) (fun pn => ss_one (s_if (t_w (w_and (t_cmp op_gt opd_bool0 (toB (e_op op_addA opd_addA (e_varB 8) (e_varB 9))) (toB (e_ix (e_varB 4) (toB (e_neg (toB (e_int))))))) (w_and1 (t_cmp (op_notInD hu5) opd_notInD (toB (e_op op_addA opd_addA (e_varB 8) (e_varB 9))) (e_varB 7))))) (ss_one (s_append (ps_expr (pe_bm PySem.F.plainAttrs_list PySem.F.slot_list_append PySem.F.type_list_append mt_append (pv 7) (pa_cons (e_op op_addA opd_addA (e_varB 8) (e_varB 9)) pa_nil))))) (ss_nil))))))
      (ss_one (s_append (ps_expr (pe_bm PySem.F.plainAttrs_list PySem.F.slot_list_append PySem.F.type_list_append mt_append (pv 4) (pa_cons (e_ix (toB (e_callB (cr_sortedI) cd_sortedI T.n_sorted (by decide +kernel) (b_cons (e_varB 7) (b_nil)))) (toB (e_op op_mod opd_mod (e_varB 6) (toB (e_callB call_len cd_len T.n_len boot_len (b_cons (e_varB 7) (b_nil))))))) pa_nil)))))))))
      (ss_cons (s_set 3 sc_law.nd (e_callBs C__law_told tk (b_cons (e_varB 4) (b_nil))))
      (ss_cons (s_if (t_w (w_or (t_val (e_isi "int" T.n_isinstance T.n_int (by decide +kernel) (e_varB 3))) (w_or1 (t_cmp (op_neD hu) opd_neD (toB (e_call C__law_numbers tk (a_cons (e_var 3) (a_nil)))) (e_varB 4))))) (ss_one (s_ret (toB (e_bl)))) (ss_nil))
      (ss_cons (s_set 10 sc_law.nd (e_op op_addA opd_addA (e_varB 4) (toB (e_lst (a_cons (e_op op_addA opd_addA (toB (e_op op_mulA opd_mulA (toB (e_int)) (toB (e_ix (e_varB 4) (toB (e_neg (toB (e_int)))))))) (toB (e_int))) (a_nil))))))
      (ss_cons (s_if (t_cmp (op_neD hu) opd_neD (toB (e_call C__law_told tk (a_cons (e_var 10) (a_nil)))) (toB (e_op op_sub opd_int0 (toB (e_callB call_len cd_len T.n_len boot_len (b_cons (e_varB 4) (b_nil)))) (toB (e_int))))) (ss_one (s_ret (toB (e_bl)))) (ss_nil))
      (ss_one (s_ret (toB (e_call C__law_refused tk (a_cons (e_ix (toB (e_lst (a_cons (e_int) (a_cons (e_neg (toB (e_int))) (a_cons (e_int) (a_cons (e_int) (a_cons (e_non) (a_cons (e_bl) (a_cons (e_str) (a_nil)))))))))) (toB (e_op op_mod opd_mod (toB (e_op op_fdivW opd_fdiv (e_varB 1) (toB (e_int)))) (toB (e_int))))) (a_nil))))))))))))))
theorem def_law {P : Program} {w : World} {K : PySem.W.Frag} {mg : Str → Option Value} {base : Heap} (T : Txt K mg) (D__law_cell : Def P w K mg base "_law_cell" 2 m__law_cell 1) (D__law_is_made : Def P w K mg base "_law_is_made" 2 m__law_is_made 1) (D__law_numbers : Def P w K mg base "_law_numbers" 1 m__law_numbers 1) (D__law_refused : Def P w K mg base "_law_refused" 1 m__law_refused 17) (D__law_rich : Def P w K mg base "_law_rich" 2 m__law_rich 1) (D__law_told : Def P w K mg base "_law_told" 1 m__law_told 2) (D_shortest_chain : Def P w K mg base "shortest_chain" 1 m_shortest_chain 15) (D_shortest_size : Def P w K mg base "shortest_size" 1 m_shortest_size 16) : Def P w K mg base "law" 1 m_law 18 := by
  obtain ⟨f, fd, F, hm⟩ := T.f_law
  exact ⟨f, fd, ["script"], ok_law T D__law_cell D__law_is_made D__law_numbers D__law_refused D__law_rich D__law_told D_shortest_chain D_shortest_size F, hm, F.kp, F.binds fun _ _ _ _ _ _ us hl => match us, hl with | [_], _ => rfl⟩
end G58

set_option Elab.async false
set_option linter.all false
set_option maxRecDepth 100000
set_option maxHeartbeats 4000000
namespace G58
open PySem PySem.Spec L2 PyProof.Rows DL
set_option autoImplicit false
theorem all_mk {P : Program} {w : World} {K : PySem.W.Frag} {h : Heap} {mg : Str → Option Value} {fa : Addr} (X : K.In h) (G : h.Ns mainGlobals mg) (hfa : mg "law" = some (.ref fa))
  {C_BadChain : Addr} {C_BadNumber : Addr} {C_Shortest : Addr} {fi_BadChain : Addr} {nm_BadChain q_BadChain : Str} {N_BadChain : Addr} {bs_BadChain : List Value} {sn_BadChain : List Str} {su_BadChain : List Value} {ab_BadChain : Bool} {co_BadChain : Option Bool} {dd_BadChain : Option Addr} {m0_BadChain m1_BadChain m2_BadChain m3_BadChain m5_BadChain : Option Value} {bm_BadChain : List Value} {oci_BadChain dci_BadChain pmi_BadChain cdi_BadChain cti_BadChain : Value} {odi_BadChain ani_BadChain : Option Addr} {sli_BadChain : Array (Option Value)} {tc_MOST_SHORTEST : _} {fi_Shortest : Addr} {od_Shortest an_Shortest : Option Addr} {sl_Shortest : Array (Option Value)} {oc_Shortest kv_Shortest dc_Shortest pm_Shortest cd_Shortest ct_Shortest : Value} {f_0 : Addr} {od_0 an_0 : Option Addr} {sl_0 : Array (Option Value)} {oc_0 kv_0 dc_0 pm_0 cd_0 ct_0 : Value} {f_1 : Addr} {od_1 an_1 : Option Addr} {sl_1 : Array (Option Value)} {oc_1 kv_1 dc_1 pm_1 cd_1 ct_1 : Value} {f_2 : Addr} {od_2 an_2 : Option Addr} {sl_2 : Array (Option Value)} {oc_2 kv_2 dc_2 pm_2 cd_2 ct_2 : Value} {f_3 : Addr} {od_3 an_3 : Option Addr} {sl_3 : Array (Option Value)} {oc_3 kv_3 dc_3 pm_3 cd_3 ct_3 : Value} {f_4 : Addr} {od_4 an_4 : Option Addr} {sl_4 : Array (Option Value)} {oc_4 kv_4 dc_4 pm_4 cd_4 ct_4 : Value} {f_5 : Addr} {od_5 an_5 : Option Addr} {sl_5 : Array (Option Value)} {oc_5 kv_5 dc_5 pm_5 cd_5 ct_5 : Value} {f_6 : Addr} {od_6 an_6 : Option Addr} {sl_6 : Array (Option Value)} {oc_6 kv_6 dc_6 pm_6 cd_6 ct_6 : Value} {f_7 : Addr} {od_7 an_7 : Option Addr} {sl_7 : Array (Option Value)} {oc_7 kv_7 dc_7 pm_7 cd_7 ct_7 : Value} {f_8 : Addr} {od_8 an_8 : Option Addr} {sl_8 : Array (Option Value)} {oc_8 kv_8 dc_8 pm_8 cd_8 ct_8 : Value} {f_9 : Addr} {od_9 an_9 : Option Addr} {sl_9 : Array (Option Value)} {oc_9 kv_9 dc_9 pm_9 cd_9 ct_9 : Value} {f_10 : Addr} {od_10 an_10 : Option Addr} {sl_10 : Array (Option Value)} {oc_10 kv_10 dc_10 pm_10 cd_10 ct_10 : Value} {f_11 : Addr} {od_11 an_11 : Option Addr} {sl_11 : Array (Option Value)} {oc_11 kv_11 dc_11 pm_11 cd_11 ct_11 : Value} {f_12 : Addr} {od_12 an_12 : Option Addr} {sl_12 : Array (Option Value)} {oc_12 kv_12 dc_12 pm_12 cd_12 ct_12 : Value} {f_13 : Addr} {od_13 an_13 : Option Addr} {sl_13 : Array (Option Value)} {oc_13 kv_13 dc_13 pm_13 cd_13 ct_13 : Value}
  (a_BadChain : PySem.W.nsIn K mainGlobals "BadChain" = some (some (.ref C_BadChain)))
  (a_BadNumber : PySem.W.nsIn K mainGlobals "BadNumber" = some (some (.ref C_BadNumber)))
  (a_Shortest : PySem.W.nsIn K mainGlobals "Shortest" = some (some (.ref C_Shortest)))
  (l_BadChain : K.lookup C_BadChain = some (excClassObj nm_BadChain q_BadChain C_BadChain N_BadChain bs_BadChain bm_BadChain true sn_BadChain su_BadChain ab_BadChain co_BadChain dd_BadChain m0_BadChain m1_BadChain m2_BadChain m3_BadChain m5_BadChain "ValueError.__new__"))
  (w_BadChain : PySem.HandSPX.refsVE bm_BadChain = true)
  (sa_BadChain : PySem.W.findIn K (.ref C_BadChain) "__setattr__" = some (some (.builtin "object.__setattr__")))
  (ga_BadChain : PySem.W.findIn K (.ref C_BadChain) "__getattribute__" = some (some (.builtin "BaseException.__getattribute__")))
  (gg_BadChain : PySem.W.findIn K (.ref C_BadChain) "__getattr__" = some none)
  (nb_BadChain : PySem.W.findIn K (.ref C_BadChain) "place" = some none)
  (a1_BadChain : PySem.W.findIn K (.ref C_BadChain) "__init__" = some (some (.ref fi_BadChain)))
  (t1_BadChain : PySem.W.typeIn K (.ref fi_BadChain) = some (.type "function"))
  (l1_BadChain : K.lookup fi_BadChain = some ⟨oci_BadChain, odi_BadChain, .func (PySem.W.fnOf "__init__" "BadChain.__init__" (defArgs (inClass (topS 3) 0)) (defBody (inClass (topS 3) 0)) (defScope (inClass (topS 3) 0)) .none .none dci_BadChain pmi_BadChain ani_BadChain cdi_BadChain cti_BadChain), sli_BadChain⟩)
  (c1_BadChain : PySem.W.codeIn K cdi_BadChain "BadChain.__init__" = true)
  (k_BadChain : PySem.W.keepIn K (.ref C_BadChain) = true)
  (s_BadChain : PySem.W.subIn K (.ref C_BadChain) (.type "BaseException") = some true)
  (t_BadChain : PySem.W.typeIn K (.ref C_BadChain) = some (.type "type"))
  (hd_BadChain : PySem.W.hasDictIn K C_BadChain = true)
  (ic_BadChain : PySem.W.isClsIn K C_BadChain = true)
  (ss_BadChain : PySem.W.subIn K (.ref C_BadChain) (.ref C_BadChain) = some true)
  (e_BadNumber : PySem.W.excIn K C_BadNumber veL "ValueError.__new__" = true)
  (k_BadNumber : PySem.W.keepIn K (.ref C_BadNumber) = true)
  (s_BadNumber : PySem.W.subIn K (.ref C_BadNumber) (.type "BaseException") = some true)
  (t_BadNumber : PySem.W.typeIn K (.ref C_BadNumber) = some (.type "type"))
  (z_abs : PySem.W.nsIn K mainGlobals "abs" = some none)
  (z_any : PySem.W.nsIn K mainGlobals "any" = some none)
  (z_bool : PySem.W.nsIn K mainGlobals "bool" = some none)
  (z_int : PySem.W.nsIn K mainGlobals "int" = some none)
  (z_isinstance : PySem.W.nsIn K mainGlobals "isinstance" = some none)
  (z_len : PySem.W.nsIn K mainGlobals "len" = some none)
  (z_range : PySem.W.nsIn K mainGlobals "range" = some none)
  (z_sorted : PySem.W.nsIn K mainGlobals "sorted" = some none)
  (z_tuple : PySem.W.nsIn K mainGlobals "tuple" = some none)
  (cn_MOST_SHORTEST : PySem.W.nsIn K mainGlobals "MOST_SHORTEST" = some (some (.int 200 tc_MOST_SHORTEST)))
  (i_BadChain : PySem.W.isClsIn K C_BadChain = true)
  (m_BadChain_BadNumber : PySem.W.subIn K (.ref C_BadNumber) (.ref C_BadChain) = some false)
  (m_BadChain_BadChain : PySem.W.subIn K (.ref C_BadChain) (.ref C_BadChain) = some true)
  (i_BadNumber : PySem.W.isClsIn K C_BadNumber = true)
  (m_BadNumber_BadNumber : PySem.W.subIn K (.ref C_BadNumber) (.ref C_BadNumber) = some true)
  (m_BadNumber_BadChain : PySem.W.subIn K (.ref C_BadChain) (.ref C_BadNumber) = some false)
  (pg_Shortest : PySem.W.plainGet K C_Shortest Str.empty = true)
  (hd_Shortest : PySem.W.hasDictIn K C_Shortest = true)
  (po_Shortest : PySem.W.plainOver K C_Shortest = true)
  (sa_Shortest : PySem.W.findIn K (.ref C_Shortest) "__setattr__" = some (some (.builtin "object.__setattr__")))
  (na_Shortest_number : PySem.W.findIn K (.ref C_Shortest) "number" = some none)
  (mk_Shortest : PySem.W.makesIn K C_Shortest = true)
  (mi_Shortest : PySem.W.findIn K (.ref C_Shortest) "__init__" = some (some (.ref fi_Shortest)))
  (mf_Shortest : PySem.W.isFn K (.ref fi_Shortest) = true)
  (ck_Shortest : PySem.W.keepIn K (.ref C_Shortest) = true)
  (ml_Shortest : K.lookup fi_Shortest = some ⟨oc_Shortest, od_Shortest, .func (PySem.W.fnOf "__init__" "Shortest.__init__" (defArgs (inClass (topS 9) 0)) (defBody (inClass (topS 9) 0)) (defScope (inClass (topS 9) 0)) .none kv_Shortest dc_Shortest pm_Shortest an_Shortest cd_Shortest ct_Shortest), sl_Shortest⟩)
  (mc_Shortest : PySem.W.codeIn K cd_Shortest "Shortest.__init__" = true)
  (kk_Shortest : PySem.W.keepIn K (.ref fi_Shortest) = true)
  (fa_0 : PySem.W.nsIn K mainGlobals "is_integer" = some (some (.ref f_0)))
  (fl_0 : K.lookup f_0 = some ⟨oc_0, od_0, .func (PySem.W.fnOf "is_integer" "is_integer" (defArgs st_is_integer) (defBody st_is_integer) (defScope st_is_integer) .none kv_0 dc_0 pm_0 an_0 cd_0 ct_0), sl_0⟩)
  (fc_0 : PySem.W.codeIn K cd_0 "is_integer" = true)
  (fk_0 : PySem.W.keepIn K (.ref f_0) = true)
  (fa_1 : PySem.W.nsIn K mainGlobals "check_goal" = some (some (.ref f_1)))
  (fl_1 : K.lookup f_1 = some ⟨oc_1, od_1, .func (PySem.W.fnOf "check_goal" "check_goal" (defArgs st_check_goal) (defBody st_check_goal) (defScope st_check_goal) .none kv_1 dc_1 pm_1 an_1 cd_1 ct_1), sl_1⟩)
  (fc_1 : PySem.W.codeIn K cd_1 "check_goal" = true)
  (fk_1 : PySem.W.keepIn K (.ref f_1) = true)
  (fa_2 : PySem.W.nsIn K mainGlobals "chain_of" = some (some (.ref f_2)))
  (fl_2 : K.lookup f_2 = some ⟨oc_2, od_2, .func (PySem.W.fnOf "chain_of" "chain_of" (defArgs st_chain_of) (defBody st_chain_of) (defScope st_chain_of) .none kv_2 dc_2 pm_2 an_2 cd_2 ct_2), sl_2⟩)
  (fc_2 : PySem.W.codeIn K cd_2 "chain_of" = true)
  (fk_2 : PySem.W.keepIn K (.ref f_2) = true)
  (fa_3 : PySem.W.findIn K (.ref C_Shortest) "deeper" = some (some (.ref f_3)))
  (fi_3 : PySem.W.isFn K (.ref f_3) = true)
  (fl_3 : K.lookup f_3 = some ⟨oc_3, od_3, .func (PySem.W.fnOf "deeper" "Shortest.deeper" (defArgs st_Shortest_deeper) (defBody st_Shortest_deeper) (defScope st_Shortest_deeper) .none kv_3 dc_3 pm_3 an_3 cd_3 ct_3), sl_3⟩)
  (fc_3 : PySem.W.codeIn K cd_3 "Shortest.deeper" = true)
  (fk_3 : PySem.W.keepIn K (.ref f_3) = true)
  (fa_4 : PySem.W.findIn K (.ref C_Shortest) "found" = some (some (.ref f_4)))
  (fi_4 : PySem.W.isFn K (.ref f_4) = true)
  (fl_4 : K.lookup f_4 = some ⟨oc_4, od_4, .func (PySem.W.fnOf "found" "Shortest.found" (defArgs st_Shortest_found) (defBody st_Shortest_found) (defScope st_Shortest_found) .none kv_4 dc_4 pm_4 an_4 cd_4 ct_4), sl_4⟩)
  (fc_4 : PySem.W.codeIn K cd_4 "Shortest.found" = true)
  (fk_4 : PySem.W.keepIn K (.ref f_4) = true)
  (fa_5 : PySem.W.nsIn K mainGlobals "shortest_chain" = some (some (.ref f_5)))
  (fl_5 : K.lookup f_5 = some ⟨oc_5, od_5, .func (PySem.W.fnOf "shortest_chain" "shortest_chain" (defArgs st_shortest_chain) (defBody st_shortest_chain) (defScope st_shortest_chain) .none kv_5 dc_5 pm_5 an_5 cd_5 ct_5), sl_5⟩)
  (fc_5 : PySem.W.codeIn K cd_5 "shortest_chain" = true)
  (fk_5 : PySem.W.keepIn K (.ref f_5) = true)
  (fa_6 : PySem.W.nsIn K mainGlobals "shortest_size" = some (some (.ref f_6)))
  (fl_6 : K.lookup f_6 = some ⟨oc_6, od_6, .func (PySem.W.fnOf "shortest_size" "shortest_size" (defArgs st_shortest_size) (defBody st_shortest_size) (defScope st_shortest_size) .none kv_6 dc_6 pm_6 an_6 cd_6 ct_6), sl_6⟩)
  (fc_6 : PySem.W.codeIn K cd_6 "shortest_size" = true)
  (fk_6 : PySem.W.keepIn K (.ref f_6) = true)
  (fa_7 : PySem.W.nsIn K mainGlobals "_law_cell" = some (some (.ref f_7)))
  (fl_7 : K.lookup f_7 = some ⟨oc_7, od_7, .func (PySem.W.fnOf "_law_cell" "_law_cell" (defArgs st__law_cell) (defBody st__law_cell) (defScope st__law_cell) .none kv_7 dc_7 pm_7 an_7 cd_7 ct_7), sl_7⟩)
  (fc_7 : PySem.W.codeIn K cd_7 "_law_cell" = true)
  (fk_7 : PySem.W.keepIn K (.ref f_7) = true)
  (fa_8 : PySem.W.nsIn K mainGlobals "_law_rich" = some (some (.ref f_8)))
  (fl_8 : K.lookup f_8 = some ⟨oc_8, od_8, .func (PySem.W.fnOf "_law_rich" "_law_rich" (defArgs st__law_rich) (defBody st__law_rich) (defScope st__law_rich) .none kv_8 dc_8 pm_8 an_8 cd_8 ct_8), sl_8⟩)
  (fc_8 : PySem.W.codeIn K cd_8 "_law_rich" = true)
  (fk_8 : PySem.W.keepIn K (.ref f_8) = true)
  (fa_9 : PySem.W.nsIn K mainGlobals "_law_numbers" = some (some (.ref f_9)))
  (fl_9 : K.lookup f_9 = some ⟨oc_9, od_9, .func (PySem.W.fnOf "_law_numbers" "_law_numbers" (defArgs st__law_numbers) (defBody st__law_numbers) (defScope st__law_numbers) .none kv_9 dc_9 pm_9 an_9 cd_9 ct_9), sl_9⟩)
  (fc_9 : PySem.W.codeIn K cd_9 "_law_numbers" = true)
  (fk_9 : PySem.W.keepIn K (.ref f_9) = true)
  (fa_10 : PySem.W.nsIn K mainGlobals "_law_is_made" = some (some (.ref f_10)))
  (fl_10 : K.lookup f_10 = some ⟨oc_10, od_10, .func (PySem.W.fnOf "_law_is_made" "_law_is_made" (defArgs st__law_is_made) (defBody st__law_is_made) (defScope st__law_is_made) .none kv_10 dc_10 pm_10 an_10 cd_10 ct_10), sl_10⟩)
  (fc_10 : PySem.W.codeIn K cd_10 "_law_is_made" = true)
  (fk_10 : PySem.W.keepIn K (.ref f_10) = true)
  (fa_11 : PySem.W.nsIn K mainGlobals "_law_told" = some (some (.ref f_11)))
  (fl_11 : K.lookup f_11 = some ⟨oc_11, od_11, .func (PySem.W.fnOf "_law_told" "_law_told" (defArgs st__law_told) (defBody st__law_told) (defScope st__law_told) .none kv_11 dc_11 pm_11 an_11 cd_11 ct_11), sl_11⟩)
  (fc_11 : PySem.W.codeIn K cd_11 "_law_told" = true)
  (fk_11 : PySem.W.keepIn K (.ref f_11) = true)
  (fa_12 : PySem.W.nsIn K mainGlobals "_law_refused" = some (some (.ref f_12)))
  (fl_12 : K.lookup f_12 = some ⟨oc_12, od_12, .func (PySem.W.fnOf "_law_refused" "_law_refused" (defArgs st__law_refused) (defBody st__law_refused) (defScope st__law_refused) .none kv_12 dc_12 pm_12 an_12 cd_12 ct_12), sl_12⟩)
  (fc_12 : PySem.W.codeIn K cd_12 "_law_refused" = true)
  (fk_12 : PySem.W.keepIn K (.ref f_12) = true)
  (fa_13 : PySem.W.nsIn K mainGlobals "law" = some (some (.ref f_13)))
  (fl_13 : K.lookup f_13 = some ⟨oc_13, od_13, .func (PySem.W.fnOf "law" "law" (defArgs st_law) (defBody st_law) (defScope st_law) .none kv_13 dc_13 pm_13 an_13 cd_13 ct_13), sl_13⟩)
  (fc_13 : PySem.W.codeIn K cd_13 "law" = true)
  (fk_13 : PySem.W.keepIn K (.ref f_13) = true) :
    ∃ fd : FuncData, (∀ (s : Shared) (v : Value), BindsTo s fd ⟨[v], []⟩ [("script", v)]) ∧ ∀ base : Heap, K.In base → base.Ns mainGlobals mg → FnOk P w K mg base (L2.CX P w) 18 fa fd ["script"] (spL K) := by
  have e := hfa.symm.trans (PySem.W.mg_of X G fa_13)
  cases e
  have T : Txt K mg := {
    x_BadChain := ⟨C_BadChain, fi_BadChain, { gC := PySem.W.mg_of X G a_BadChain, cls := ⟨nm_BadChain, q_BadChain, N_BadChain, bs_BadChain, bm_BadChain, sn_BadChain, su_BadChain, ab_BadChain, co_BadChain, dd_BadChain, m0_BadChain, m1_BadChain, m2_BadChain, m3_BadChain, m5_BadChain, l_BadChain, w_BadChain⟩, sa := sa_BadChain, ga := ga_BadChain, gg := gg_BadChain, noN := nb_BadChain, iC := a1_BadChain, tC := t1_BadChain, kC := k_BadChain, exC := s_BadChain, tyC := t_BadChain, hdC := hd_BadChain, te := exm_of s_BadChain ic_BadChain t_BadChain ss_BadChain, fn := ⟨_, _, _, _, _, _, _, _, _, _, _, _, _, _, l1_BadChain, c1_BadChain⟩ }⟩,
    x_BadNumber := .mk' (PySem.W.mg_of X G a_BadNumber) e_BadNumber k_BadNumber s_BadNumber t_BadNumber,
    g_BadChain := by rw [cOf_eq (PySem.W.mg_of X G a_BadChain)]; exact PySem.W.mg_of X G a_BadChain,
    g_BadNumber := by rw [cOf_eq (PySem.W.mg_of X G a_BadNumber)]; exact PySem.W.mg_of X G a_BadNumber,
    n_abs := PySem.W.mg_none_of X G z_abs,
    n_any := PySem.W.mg_none_of X G z_any,
    n_bool := PySem.W.mg_none_of X G z_bool,
    n_int := PySem.W.mg_none_of X G z_int,
    n_isinstance := PySem.W.mg_none_of X G z_isinstance,
    n_len := PySem.W.mg_none_of X G z_len,
    n_range := PySem.W.mg_none_of X G z_range,
    n_sorted := PySem.W.mg_none_of X G z_sorted,
    n_tuple := PySem.W.mg_none_of X G z_tuple,
    c_MOST_SHORTEST := ⟨_, PySem.W.mg_of X G cn_MOST_SHORTEST⟩,
    sub_BadChain := .cons (PySem.W.mg_of X G a_BadChain) (PySem.W.mg_of X G a_BadChain) (exm_of s_BadChain i_BadChain t_BadChain m_BadChain_BadChain) (.cons (PySem.W.mg_of X G a_BadNumber) (PySem.W.mg_of X G a_BadChain) (exm_of s_BadChain i_BadChain t_BadChain m_BadChain_BadNumber) (.nil)),
    sub_BadNumber := .cons (PySem.W.mg_of X G a_BadChain) (PySem.W.mg_of X G a_BadNumber) (exm_of s_BadNumber i_BadNumber t_BadNumber m_BadNumber_BadChain) (.cons (PySem.W.mg_of X G a_BadNumber) (PySem.W.mg_of X G a_BadNumber) (exm_of s_BadNumber i_BadNumber t_BadNumber m_BadNumber_BadNumber) (.nil)),
    o_Shortest := ⟨by rw [cOf_eq (PySem.W.mg_of X G a_Shortest)]; exact PySem.W.mg_of X G a_Shortest, by rw [cOf_eq (PySem.W.mg_of X G a_Shortest)]; exact ⟨pg_Shortest, hd_Shortest, po_Shortest, sa_Shortest⟩⟩,
    na_Shortest_number := by rw [cOf_eq (PySem.W.mg_of X G a_Shortest)]; exact na_Shortest_number,
    mk_Shortest := by rw [cOf_eq (PySem.W.mg_of X G a_Shortest)]; exact ⟨_, _, ⟨mk_Shortest, mi_Shortest, mf_Shortest, ck_Shortest⟩, fun_mk (st := inClass (topS 9) 0) ml_Shortest mc_Shortest kk_Shortest⟩,
    f_is_integer := ⟨_, _, fun_mk (st := st_is_integer) fl_0 fc_0 fk_0, PySem.W.mg_of X G fa_0⟩,
    f_check_goal := ⟨_, _, fun_mk (st := st_check_goal) fl_1 fc_1 fk_1, PySem.W.mg_of X G fa_1⟩,
    f_chain_of := ⟨_, _, fun_mk (st := st_chain_of) fl_2 fc_2 fk_2, PySem.W.mg_of X G fa_2⟩,
    f_Shortest_deeper := by rw [cOf_eq (PySem.W.mg_of X G a_Shortest)]; exact ⟨_, _, fun_mk (st := st_Shortest_deeper) fl_3 fc_3 fk_3, ⟨fa_3, fi_3, fk_3⟩⟩,
    f_Shortest_found := by rw [cOf_eq (PySem.W.mg_of X G a_Shortest)]; exact ⟨_, _, fun_mk (st := st_Shortest_found) fl_4 fc_4 fk_4, ⟨fa_4, fi_4, fk_4⟩⟩,
    f_shortest_chain := ⟨_, _, fun_mk (st := st_shortest_chain) fl_5 fc_5 fk_5, PySem.W.mg_of X G fa_5⟩,
    f_shortest_size := ⟨_, _, fun_mk (st := st_shortest_size) fl_6 fc_6 fk_6, PySem.W.mg_of X G fa_6⟩,
    f__law_cell := ⟨_, _, fun_mk (st := st__law_cell) fl_7 fc_7 fk_7, PySem.W.mg_of X G fa_7⟩,
    f__law_rich := ⟨_, _, fun_mk (st := st__law_rich) fl_8 fc_8 fk_8, PySem.W.mg_of X G fa_8⟩,
    f__law_numbers := ⟨_, _, fun_mk (st := st__law_numbers) fl_9 fc_9 fk_9, PySem.W.mg_of X G fa_9⟩,
    f__law_is_made := ⟨_, _, fun_mk (st := st__law_is_made) fl_10 fc_10 fk_10, PySem.W.mg_of X G fa_10⟩,
    f__law_told := ⟨_, _, fun_mk (st := st__law_told) fl_11 fc_11 fk_11, PySem.W.mg_of X G fa_11⟩,
    f__law_refused := ⟨_, _, fun_mk (st := st__law_refused) fl_12 fc_12 fk_12, PySem.W.mg_of X G fa_12⟩,
    f_law := ⟨_, _, fun_mk (st := st_law) fl_13 fc_13 fk_13, PySem.W.mg_of X G fa_13⟩ }
  refine ⟨PySem.W.fnOf "law" "law" (defArgs st_law) (defBody st_law) (defScope st_law) .none kv_13 dc_13 pm_13 an_13 cd_13 ct_13, fun s v => .of_eq rfl, fun base _ _ => ?_⟩
  have D_is_integer := def_is_integer (P := P) (w := w) (base := base) T
  have D_check_goal := def_check_goal (P := P) (w := w) (base := base) T D_is_integer
  have D_chain_of := def_chain_of (P := P) (w := w) (base := base) T
  have D_Shortest_deeper := def_Shortest_deeper (P := P) (w := w) (base := base) T
  have D_Shortest_found := def_Shortest_found (P := P) (w := w) (base := base) T D_Shortest_deeper
  have D_shortest_chain := def_shortest_chain (P := P) (w := w) (base := base) T D_Shortest_found D_chain_of D_check_goal
  have D_shortest_size := def_shortest_size (P := P) (w := w) (base := base) T D_shortest_chain
  have D__law_cell := def__law_cell (P := P) (w := w) (base := base) T
  have D__law_rich := def__law_rich (P := P) (w := w) (base := base) T
  have D__law_numbers := def__law_numbers (P := P) (w := w) (base := base) T
  have D__law_is_made := def__law_is_made (P := P) (w := w) (base := base) T
  have D__law_told := def__law_told (P := P) (w := w) (base := base) T D_chain_of
  have D__law_refused := def__law_refused (P := P) (w := w) (base := base) T D_shortest_chain D_shortest_size
  exact (ok_law T D__law_cell D__law_is_made D__law_numbers D__law_refused D__law_rich D__law_told D_shortest_chain D_shortest_size (fun_mk (st := st_law) fl_13 fc_13 fk_13)).imp fun vs H Q E h => spL_of law_holds h
end G58
open PySem PySem.W PyProof.Rows
set_option maxRecDepth 100000 in
set_option maxHeartbeats 0 in
theorem PySem.Challenge.cw_chordkeep_k58_whole_shortest_chains_holds : PySem.Challenge.rw_chordkeep_k58_whole_shortest_chains.Holds := by
  w_on; o_law; k_head; (case hw => w_witness2)
  k_fill
  refine L2.walk_of (l := PySem.Challenge.rw_chordkeep_k58_whole_shortest_chains) (n := 63) (k := 18) (x := "script") (CX := fun w => L2.CX PySem.Challenge.rw_chordkeep_k58_whole_shortest_chains.prog w) (sp := fun w => DL.spL _) rfl (by decide) rfl ⟨rfl, by decide, by decide⟩ (fun w h Y => PySem.W.kIn_of Y) ?F (fun _ _ a ns hl _ hS => ⟨a, ns, rfl, hS, hl, fun _ => rfl⟩) (fun w H s e s' ⟨_, _, _, _, _, _, _, _, _, _, _, _, z⟩ => z)
  case F =>
    intro w mg fa h KX G hmg
    refine' G58.all_mk KX G hmg ?a_BadChain ?a_BadNumber ?a_Shortest ?l_BadChain ?w_BadChain ?sa_BadChain ?ga_BadChain ?gg_BadChain ?nb_BadChain ?a1_BadChain ?t1_BadChain ?l1_BadChain ?c1_BadChain ?k_BadChain ?s_BadChain ?t_BadChain ?hd_BadChain ?ic_BadChain ?ss_BadChain ?e_BadNumber ?k_BadNumber ?s_BadNumber ?t_BadNumber ?z_abs ?z_any ?z_bool ?z_int ?z_isinstance ?z_len ?z_range ?z_sorted ?z_tuple ?cn_MOST_SHORTEST ?i_BadChain ?m_BadChain_BadNumber ?m_BadChain_BadChain ?i_BadNumber ?m_BadNumber_BadNumber ?m_BadNumber_BadChain ?pg_Shortest ?hd_Shortest ?po_Shortest ?sa_Shortest ?na_Shortest_number ?mk_Shortest ?mi_Shortest ?mf_Shortest ?ck_Shortest ?ml_Shortest ?mc_Shortest ?kk_Shortest ?fa_0 ?fl_0 ?fc_0 ?fk_0 ?fa_1 ?fl_1 ?fc_1 ?fk_1 ?fa_2 ?fl_2 ?fc_2 ?fk_2 ?fa_3 ?fi_3 ?fl_3 ?fc_3 ?fk_3 ?fa_4 ?fi_4 ?fl_4 ?fc_4 ?fk_4 ?fa_5 ?fl_5 ?fc_5 ?fk_5 ?fa_6 ?fl_6 ?fc_6 ?fk_6 ?fa_7 ?fl_7 ?fc_7 ?fk_7 ?fa_8 ?fl_8 ?fc_8 ?fk_8 ?fa_9 ?fl_9 ?fc_9 ?fk_9 ?fa_10 ?fl_10 ?fc_10 ?fk_10 ?fa_11 ?fl_11 ?fc_11 ?fk_11 ?fa_12 ?fl_12 ?fc_12 ?fk_12 ?fa_13 ?fl_13 ?fc_13 ?fk_13
    (case a_BadChain => k_is); (case a_BadNumber => k_is); (case a_Shortest => k_is); (case l_BadChain => k_is); (case w_BadChain => first | rfl | decide +kernel | kernel_rfl); (case sa_BadChain => k_is)
    (case ga_BadChain => k_is); (case gg_BadChain => k_is); (case nb_BadChain => k_is); (case a1_BadChain => k_is); (case t1_BadChain => k_is); (case l1_BadChain => k_is)
    (case c1_BadChain => k_is); (case k_BadChain => k_is); (case s_BadChain => k_is); (case t_BadChain => k_is); (case hd_BadChain => k_is); (case ic_BadChain => k_is)
    (case ss_BadChain => first | rfl | k_is | kernel_rfl); (case e_BadNumber => first | kx_is | k_is | kernel_rfl); (case k_BadNumber => k_is); (case s_BadNumber => k_is); (case t_BadNumber => k_is); (case z_abs => k_is)
    (case z_any => k_is); (case z_bool => k_is); (case z_int => k_is); (case z_isinstance => k_is); (case z_len => k_is); (case z_range => k_is)
    (case z_sorted => k_is); (case z_tuple => k_is); (case cn_MOST_SHORTEST => k_is); (case i_BadChain => k_is); (case m_BadChain_BadNumber => first | rfl | k_is | kernel_rfl); (case m_BadChain_BadChain => first | rfl | k_is | kernel_rfl)
    (case i_BadNumber => k_is); (case m_BadNumber_BadNumber => first | rfl | k_is | kernel_rfl); (case m_BadNumber_BadChain => first | rfl | k_is | kernel_rfl); (case pg_Shortest => k_is); (case hd_Shortest => k_is); (case po_Shortest => k_is)
    (case sa_Shortest => k_is); (case na_Shortest_number => k_is); (case mk_Shortest => k_is); (case mi_Shortest => k_is); (case mf_Shortest => k_is); (case ck_Shortest => k_is)
    (case ml_Shortest => k_is); (case mc_Shortest => k_is); (case kk_Shortest => k_is); (case fa_0 => k_is); (case fl_0 => k_is); (case fc_0 => k_is)
    (case fk_0 => k_is); (case fa_1 => k_is); (case fl_1 => k_is); (case fc_1 => k_is); (case fk_1 => k_is); (case fa_2 => k_is)
    (case fl_2 => k_is); (case fc_2 => k_is); (case fk_2 => k_is); (case fa_3 => k_is); (case fi_3 => k_is); (case fl_3 => k_is)
    (case fc_3 => k_is); (case fk_3 => k_is); (case fa_4 => k_is); (case fi_4 => k_is); (case fl_4 => k_is); (case fc_4 => k_is)
    (case fk_4 => k_is); (case fa_5 => k_is); (case fl_5 => k_is); (case fc_5 => k_is); (case fk_5 => k_is); (case fa_6 => k_is)
    (case fl_6 => k_is); (case fc_6 => k_is); (case fk_6 => k_is); (case fa_7 => k_is); (case fl_7 => k_is); (case fc_7 => k_is)
    (case fk_7 => k_is); (case fa_8 => k_is); (case fl_8 => k_is); (case fc_8 => k_is); (case fk_8 => k_is); (case fa_9 => k_is)
    (case fl_9 => k_is); (case fc_9 => k_is); (case fk_9 => k_is); (case fa_10 => k_is); (case fl_10 => k_is); (case fc_10 => k_is)
    (case fk_10 => k_is); (case fa_11 => k_is); (case fl_11 => k_is); (case fc_11 => k_is); (case fk_11 => k_is); (case fa_12 => k_is)
    (case fl_12 => k_is); (case fc_12 => k_is); (case fk_12 => k_is); (case fa_13 => k_is); (case fl_13 => k_is); (case fc_13 => k_is)
    (case fk_13 => k_is)

