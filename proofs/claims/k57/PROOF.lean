import PyProof.Rows.All
import Wide.All
import OpenK.AllK
import Wide.FinOn
import HandS.ForMost
import HandS.ForExc
import HandS.IsInst
import HandS.CallSlots
import HandS.TryMany
import HandS.TryOnly
import HandS.Style
import HandS.Flow
import HandS.Deep
import HandS.Conv
import HandS.WideBits
import HandS.TupAny
import HandS.TupMul
import HandS.SortInts
import HandS.Small
import HandS.Wide
import HandS.ExcInit
import HandS.RaiseMore
import HandS.SetFor
import KE.KExcLine
import PySem.Challenge.RW_chordkeep_k57_whole_chains_of_each_kind
set_option Elab.async false
set_option linter.all false
set_option maxRecDepth 100000
set_option maxHeartbeats 1000000
/-! The data layer: plain functions over PyData for expressions and statements, over the hand layer. -/
namespace DL
open PySem PySem.Spec L2
set_option autoImplicit false

/-! ### results -/
inductive Er where
  | stuck
  | exc (c : Str) (fs : List (Str × PyData))
abbrev R (α : Type) := Except Er α
def keyD : Key → PyData
  | .inl i => .int i
  | .inr x => .str x
def keyPair (p : Key × PyData) : PyData × PyData := (keyD p.1, p.2)
/-- what a def may hold alone and change: a list, a dict -/
inductive Ow where
  | lst (ds : List PyData)
  | dic (ps : List (Key × PyData))
def Ow.data : Ow → PyData
  | .lst ds => .list ds
  | .dic ps => .dict (ps.map keyPair)
/-- a slot: empty, a datum that nobody changes, what this def alone holds -/
inductive Sl where
  | un
  | dat (d : PyData)
  | own (w : Ow)
abbrev Ev := List Sl
abbrev DE := Ev → R PyData
abbrev DT := Ev → R Bool
abbrev DA := Ev → R (List PyData)
inductive Fl where
  | nx (e : Ev)
  | rt (d : PyData)
  | bk (e : Ev)
  | ct (e : Ev)
  | ex (e : Ev) (c : Str) (fs : List (Str × PyData))
  | stuck
abbrev DS := Ev → Fl

/-! ### what a datum is in the heap -/
mutual
inductive Dv (K : PySem.W.Frag) (H : Hp) : V → PyData → Prop
  | non : Dv K H .non .none
  | bl (b : Bool) : Dv K H (.bl b) (.bool b)
  | int (i : Int) : Dv K H (.int i) (.int i)
  | str (x : Str) : Dv K H (.str x) (.str x)
  | lst {a : Addr} {xs : List V} {ds : List PyData} : SqL K H a xs → Dvs K H xs ds → Dv K H (.ref a) (.list ds)
  | tup {a : Addr} {xs : List V} {ds : List PyData} : SqT K H a xs → Dvs K H xs ds → Dv K H (.ref a) (.tuple ds)
  | dct {a : Addr} {kvs : List (Key × V)} {ps : List (Key × PyData)} {qs : List (PyData × PyData)} : Rd H a (.dK kvs) → Dks K H kvs ps → qs = ps.map keyPair → Dv K H (.ref a) (.dict qs)
inductive Dks (K : PySem.W.Frag) (H : Hp) : List (Key × V) → List (Key × PyData) → Prop
  | nil : Dks K H [] []
  | cons {k : Key} {v : V} {kvs : List (Key × V)} {d : PyData} {ps : List (Key × PyData)} : Dv K H v d → Dks K H kvs ps → Dks K H ((k, v) :: kvs) ((k, d) :: ps)
inductive Dvs (K : PySem.W.Frag) (H : Hp) : List V → List PyData → Prop
  | nil : Dvs K H [] []
  | cons {v : V} {vs : List V} {d : PyData} {ds : List PyData} : Dv K H v d → Dvs K H vs ds → Dvs K H (v :: vs) (d :: ds)
end

theorem rd_same {H H' : Hp} {a : Addr} {u : HO} (e : Same H H') (h : Rd H a u) : Rd H' a u := by
  rcases h with h | ⟨o, h⟩
  · exact .inl (e _ _ h)
  · exact .inr ⟨o, e _ _ h⟩
theorem sqT_same {K : PySem.W.Frag} {H H' : Hp} {a : Addr} {xs : List V} (e : Same H H') (h : SqT K H a xs) : SqT K H' a xs := by
  rcases h with h | h
  · exact .inl (rd_same e h)
  · exact .inr h
mutual
theorem Dv.same {K : PySem.W.Frag} {H H' : Hp} (e : Same H H') : ∀ {v : V} {d : PyData}, Dv K H v d → Dv K H' v d
  | _, _, .non => .non
  | _, _, .bl b => .bl b
  | _, _, .int i => .int i
  | _, _, .str x => .str x
  | _, _, .lst h t => .lst (e.seq h) (Dvs.same e t)
  | _, _, .tup h t => .tup (sqT_same e h) (Dvs.same e t)
  | _, _, .dct h t q => .dct (rd_same e h) (Dks.same e t) q
theorem Dks.same {K : PySem.W.Frag} {H H' : Hp} (e : Same H H') : ∀ {v : List (Key × V)} {d : List (Key × PyData)}, Dks K H v d → Dks K H' v d
  | _, _, .nil => .nil
  | _, _, .cons h t => .cons (Dv.same e h) (Dks.same e t)
theorem Dvs.same {K : PySem.W.Frag} {H H' : Hp} (e : Same H H') : ∀ {v : List V} {d : List PyData}, Dvs K H v d → Dvs K H' v d
  | _, _, .nil => .nil
  | _, _, .cons h t => .cons (Dv.same e h) (Dvs.same e t)
end
mutual
theorem Dv.dp {K : PySem.W.Frag} {H : Hp} : ∀ {v : V} {d : PyData}, Dv K H v d → d.canLay0 = true → Dp K H v d
  | _, _, .non, _ => .non
  | _, _, .bl b, _ => .bl b
  | _, _, .int i, _ => .int i
  | _, _, .str x, _ => .str x
  | _, _, .lst h t, c => .lst h (Dvs.dp t (by simpa only [PyData.canLay0] using c))
  | _, _, .tup h t, c => .tup h (Dvs.dp t (by simpa only [PyData.canLay0] using c))
  | _, _, .dct _ _ _, c => by simp only [PyData.canLay0] at c; cases c
theorem Dvs.dp {K : PySem.W.Frag} {H : Hp} : ∀ {v : List V} {d : List PyData}, Dvs K H v d → PyData.canLayAll0 d = true → DpAll K H v d
  | _, _, .nil, _ => .nil
  | _, _, .cons h t, c => by
    simp only [PyData.canLayAll0, Bool.and_eq_true] at c
    exact .cons (Dv.dp h c.1) (Dvs.dp t c.2)
end
/-- what stands at an address, told as data -/
def OwR (K : PySem.W.Frag) (H : Hp) : HO → Ow → Prop
  | .lst vs, .lst ds => Dvs K H vs ds
  | .dK kvs, .dic ps => Dks K H kvs ps
  | _, _ => False
theorem OwR.same {K : PySem.W.Frag} {H H' : Hp} {o : HO} {w : Ow} (e : Same H H') (h : OwR K H o w) : OwR K H' o w := by
  cases o <;> cases w <;> first | exact h.elim | skip
  · exact Dvs.same e h
  · exact Dks.same e h
theorem OwR.dv {K : PySem.W.Frag} {H : Hp} {a : Addr} {o : HO} {w : Ow} (h : OwR K H o w) (r : Rd H a o) : Dv K H (.ref a) w.data := by
  cases o <;> cases w <;> first | exact h.elim | skip
  · exact .lst (.inl r) h
  · exact .dct r h rfl
theorem OwR.mut {K : PySem.W.Frag} {H : Hp} {o : HO} {w : Ow} (h : OwR K H o w) : Mut (some o) := by
  cases o <;> cases w <;> first | exact h.elim | trivial
section
variable {K : PySem.W.Frag} {H H' : Hp}
theorem Dvs.length : ∀ {vs : List V} {ds : List PyData}, Dvs K H vs ds → vs.length = ds.length
  | _, _, .nil => rfl
  | _, _, .cons _ t => by rw [List.length_cons, List.length_cons, Dvs.length t]
theorem Dvs.app : ∀ {vs ws : List V} {ds es : List PyData}, Dvs K H vs ds → Dvs K H ws es → Dvs K H (vs ++ ws) (ds ++ es)
  | _, _, _, _, .nil, s => s
  | _, _, _, _, .cons h t, s => .cons h (Dvs.app t s)
theorem Dvs.one {v : V} {d : PyData} (h : Dv K H v d) : Dvs K H [v] [d] := .cons h .nil
theorem Dvs.get : ∀ {vs : List V} {ds : List PyData} {i : Nat} {d : PyData}, Dvs K H vs ds → ds[i]? = some d → ∃ v, vs[i]? = some v ∧ Dv K H v d
  | _, _, _, _, .nil, e => by simp at e
  | _, _, 0, _, .cons h _, e => by simp at e; subst e; exact ⟨_, rfl, h⟩
  | _, _, i + 1, d, .cons _ t, e => by
    obtain ⟨v, h1, h2⟩ := Dvs.get (i := i) (d := d) t (by simpa using e)
    exact ⟨v, by simpa using h1, h2⟩
theorem Dvs.getV : ∀ {vs : List V} {ds : List PyData} {i : Nat} {v : V}, Dvs K H vs ds → vs[i]? = some v → ∃ d, ds[i]? = some d ∧ Dv K H v d
  | _, _, _, _, .nil, e => by simp at e
  | _, _, 0, _, .cons h _, e => by simp at e; subst e; exact ⟨_, rfl, h⟩
  | _, _, i + 1, v, .cons _ t, e => by
    obtain ⟨d, h1, h2⟩ := Dvs.getV (i := i) (v := v) t (by simpa using e)
    exact ⟨d, by simpa using h1, h2⟩
theorem Dvs.take : ∀ {vs : List V} {ds : List PyData} (n : Nat), Dvs K H vs ds → Dvs K H (vs.take n) (ds.take n)
  | _, _, 0, _ => .nil
  | _, _, _ + 1, .nil => .nil
  | _, _, n + 1, .cons h t => .cons h (Dvs.take n t)
theorem Dvs.drop : ∀ {vs : List V} {ds : List PyData} (n : Nat), Dvs K H vs ds → Dvs K H (vs.drop n) (ds.drop n)
  | _, _, 0, h => h
  | _, _, _ + 1, .nil => .nil
  | _, _, n + 1, .cons _ t => Dvs.drop n t
theorem Dvs.rev : ∀ {vs : List V} {ds : List PyData}, Dvs K H vs ds → Dvs K H vs.reverse ds.reverse
  | _, _, .nil => .nil
  | _, _, .cons h t => by rw [List.reverse_cons, List.reverse_cons]; exact (Dvs.rev t).app (.one h)
theorem Dvs.set {v : V} {d : PyData} (h : Dv K H v d) : ∀ {vs : List V} {ds : List PyData} (i : Nat), Dvs K H vs ds → Dvs K H (vs.set i v) (ds.set i d)
  | _, _, _, .nil => .nil
  | _, _, 0, .cons _ t => .cons h t
  | _, _, i + 1, .cons q t => .cons q (Dvs.set h i t)
theorem Dvs.dropLast : ∀ {vs : List V} {ds : List PyData}, Dvs K H vs ds → Dvs K H vs.dropLast ds.dropLast := fun {vs ds} h => by
  rw [List.dropLast_eq_take, List.dropLast_eq_take, h.length]
  exact h.take _
theorem Dvs.rep {vs : List V} {ds : List PyData} (h : Dvs K H vs ds) : ∀ k : Nat, Dvs K H (List.replicate k vs).flatten (List.replicate k ds).flatten
  | 0 => .nil
  | k + 1 => by rw [List.replicate_succ, List.replicate_succ, List.flatten_cons, List.flatten_cons]; exact h.app (Dvs.rep h k)
theorem Dvs.eraseIdx : ∀ {vs : List V} {ds : List PyData} (i : Nat), Dvs K H vs ds → Dvs K H (vs.eraseIdx i) (ds.eraseIdx i)
  | _, _, _, .nil => .nil
  | _, _, 0, .cons _ t => t
  | _, _, i + 1, .cons h t => .cons h (Dvs.eraseIdx i t)
theorem Dvs.ints : ∀ (ns : List Int), Dvs K H (ns.map V.int) (ns.map PyData.int)
  | [] => .nil
  | n :: ns => .cons (.int n) (Dvs.ints ns)
end

/-! ### what is hidden: the lists that a def alone holds -/
def hide (O : List Addr) (H : Hp) : Hp := fun a => if a ∈ O then none else H a
theorem hide_in {O : List Addr} {H : Hp} {a : Addr} (h : a ∈ O) : hide O H a = none := if_pos h
theorem hide_out {O : List Addr} {H : Hp} {a : Addr} (h : a ∉ O) : hide O H a = H a := if_neg h
theorem hide_le (O : List Addr) (H : Hp) : Same (hide O H) H := fun a o e => by
  by_cases h : a ∈ O
  · rw [hide_in h] at e; cases e
  · rw [hide_out h] at e; exact e
theorem hide_same {O : List Addr} {H H' : Hp} (s : Same H H') : Same (hide O H) (hide O H') := fun a o e => by
  by_cases h : a ∈ O
  · rw [hide_in h] at e; cases e
  · rw [hide_out h] at e ⊢; exact s a o e
theorem hide_sub {O O' : List Addr} {H : Hp} (s : ∀ a ∈ O', a ∈ O) : Same (hide O H) (hide O' H) := fun a o e => by
  by_cases h : a ∈ O
  · rw [hide_in h] at e; cases e
  · rw [hide_out h] at e; rw [hide_out fun z => h (s a z)]; exact e
theorem hide_nil (H : Hp) : hide [] H = H := by funext a; exact if_neg (by simp)

theorem same_upd {H : Hp} {a : Addr} {o : HO} (n : H a = none) : Same H (upd H a o) := fun b u e => by
  rw [upd_ne (ne_of_none e n)]; exact e
/-- a change at a hidden place -/
theorem hide_upd {O : List Addr} {H : Hp} {p : Addr} {o : HO} (h : p ∈ O) : hide O (upd H p o) = hide O H := by
  funext a
  by_cases ha : a ∈ O
  · rw [hide_in ha, hide_in ha]
  · rw [hide_out ha, hide_out ha]
    exact upd_ne fun e => ha (e ▸ h)

/-- what stands and is not hidden stays, and stays not hidden -/
def Keep (O : List Addr) (H : Hp) (O' : List Addr) (H' : Hp) : Prop := ∀ a o, H a = some o → a ∉ O → H' a = some o ∧ a ∉ O'
theorem Keep.refl (O : List Addr) (H : Hp) : Keep O H O H := fun _ _ e n => ⟨e, n⟩
theorem Keep.trans {O O1 O2 : List Addr} {H H1 H2 : Hp} (a : Keep O H O1 H1) (b : Keep O1 H1 O2 H2) : Keep O H O2 H2 := fun c o e n =>
  let ⟨e1, n1⟩ := a c o e n
  b c o e1 n1
theorem Keep.of {O : List Addr} {H H' : Hp} (s : Same H H') : Keep O H O H' := fun a o e n => ⟨s a o e, n⟩
theorem Keep.hide {O O' : List Addr} {H H' : Hp} (k : Keep O H O' H') : Same (hide O H) (hide O' H') := fun a o e => by
  by_cases h : a ∈ O
  · rw [hide_in h] at e; cases e
  · rw [hide_out h] at e
    obtain ⟨e1, n1⟩ := k a o e h
    rw [hide_out n1]; exact e1

/-! ### the frame and its environment -/
/-- fixed in a def's body: the heap and the hidden at the entry, the wish about exceptions -/
structure Dc where
  H_0 : Hp
  O_0 : List Addr
  W : WX
  /-- the own dicts of the exceptions that are held: their one field -/
  F : List (Addr × Str × PyData) := []
def ExF (K : PySem.W.Frag) (O : List Addr) (H : Hp) (t : Addr × Str × PyData) : Prop := t.1 ∉ O ∧ ∃ v, H t.1 = some (.xd [(t.2.1, v)]) ∧ Dv K (hide O H) v t.2.2
theorem ExF.keep {K : PySem.W.Frag} {O O' : List Addr} {H H' : Hp} {t : Addr × Str × PyData} (h : ExF K O H t) (k : Keep O H O' H') : ExF K O' H' t := by
  obtain ⟨n, v, e, d⟩ := h
  obtain ⟨e', n'⟩ := k _ _ e n
  exact ⟨n', v, e', d.same k.hide⟩
def SR (K : PySem.W.Frag) (O : List Addr) (H0 H : Hp) : Sl → Option (Option V) → Prop
  | .un, _ => True
  | .dat d, o => ∃ v, o = some (some v) ∧ Dv K (hide O H) v d
  | .own w, o => ∃ p u, o = some (some (.ref p)) ∧ p ∈ O ∧ H0 p = none ∧ H p = some u ∧ OwR K (hide O H) u w
structure Rel (K : PySem.W.Frag) (c : Dc) (O : List Addr) (H : Hp) (env : Ev) (σ : St) : Prop where
  same : Same c.H_0 H
  sub : ∀ a ∈ c.O_0, a ∈ O
  dom0 : ∀ a ∈ c.O_0, Mut (c.H_0 a)
  dom : ∀ a ∈ O, Mut (H a)
  new : ∀ a ∈ O, a ∈ c.O_0 ∨ c.H_0 a = none
  len : env.length = σ.length
  slots : ∀ (i : Nat) (s : Sl), env[i]? = some s → SR K O c.H_0 H s σ[i]?
  inj : ∀ (i j : Nat) (ds es : Ow) (p : Addr), env[i]? = some (.own ds) → env[j]? = some (.own es) → σ[i]? = some (some (.ref p)) → σ[j]? = some (some (.ref p)) → i = j
  exs : ∀ t ∈ c.F, ExF K O H t

section
variable {K : PySem.W.Frag} {c : Dc} {O : List Addr} {H H' : Hp} {env : Ev} {σ : St}
theorem SR.ext {s : Sl} {o : Option (Option V)} {H0 : Hp} (h : SR K O H0 H s o) (e : Same H H') : SR K O H0 H' s o := by
  cases s with
  | un => trivial
  | dat d =>
    obtain ⟨v, h1, h2⟩ := h
    exact ⟨v, h1, h2.same (hide_same e)⟩
  | own ds =>
    obtain ⟨p, vs, h1, h2, h3, h4, h5⟩ := h
    exact ⟨p, vs, h1, h2, h3, e _ _ h4, h5.same (hide_same e)⟩
theorem mut_same {H H' : Hp} {a : Addr} (e : Same H H') (m : Mut (H a)) : Mut (H' a) := by
  cases q : H a with
  | none => rw [q] at m; exact m.elim
  | some o => rw [e a o q]; rw [q] at m; exact m
theorem Rel.ext (r : Rel K c O H env σ) (e : Same H H') : Rel K c O H' env σ :=
  ⟨r.same.trans e, r.sub, r.dom0, fun a h => mut_same e (r.dom a h), r.new, r.len, fun i s h => (r.slots i s h).ext e, r.inj, fun t ht => (r.exs t ht).keep (Keep.of e)⟩
theorem Rel.dat {i : Nat} {d : PyData} (r : Rel K c O H env σ) (e : env[i]? = some (.dat d)) : ∃ v, σ[i]? = some (some v) ∧ Dv K (hide O H) v d := r.slots i _ e
theorem Rel.fresh (r : Rel K c O H env σ) {p : Addr} (h : H p = none) : p ∉ O := fun z => by
  have m := r.dom p z
  rw [h] at m; exact m
/-- a datum is stored -/
theorem Rel.put {i : Nat} {v : V} {d : PyData} (r : Rel K c O H env σ) (hi : i < env.length) (h : Dv K (hide O H) v d) : Rel K c O H (env.set i (.dat d)) (σ.set i (some v)) := by
  refine ⟨r.same, r.sub, r.dom0, r.dom, r.new, by rw [List.length_set, List.length_set]; exact r.len, fun j s e => ?_, fun a b ds es p ea eb sa sb => ?_, r.exs⟩
  · by_cases hj : i = j
    · subst hj
      rw [List.getElem?_set_self hi] at e; cases e
      exact ⟨v, by rw [List.getElem?_set_self (by rw [← r.len]; exact hi)], h⟩
    · rw [List.getElem?_set_ne hj] at e ⊢
      exact r.slots j s e
  · have ha : i ≠ a := by rintro rfl; rw [List.getElem?_set_self hi] at ea; cases ea
    have hb : i ≠ b := by rintro rfl; rw [List.getElem?_set_self hi] at eb; cases eb
    rw [List.getElem?_set_ne ha] at ea sa
    rw [List.getElem?_set_ne hb] at eb sb
    exact r.inj a b ds es p ea eb sa sb
theorem Rel.wipe1 {i : Nat} (r : Rel K c O H env σ) (o : Option V) : Rel K c O H (env.set i .un) (σ.set i o) := by
  refine ⟨r.same, r.sub, r.dom0, r.dom, r.new, by rw [List.length_set, List.length_set]; exact r.len, fun j s e => ?_, fun a b ds es p ea eb sa sb => ?_, r.exs⟩
  · by_cases hj : i = j
    · subst hj
      by_cases hi : i < env.length
      · rw [List.getElem?_set_self hi] at e; cases e; trivial
      · rw [List.getElem?_eq_none (by rw [List.length_set]; omega)] at e; cases e
    · rw [List.getElem?_set_ne hj] at e ⊢
      exact r.slots j s e
  · have ha : i ≠ a := by
      rintro rfl
      by_cases hi : i < env.length
      · rw [List.getElem?_set_self hi] at ea; cases ea
      · rw [List.getElem?_eq_none (by rw [List.length_set]; omega)] at ea; cases ea
    have hb : i ≠ b := by
      rintro rfl
      by_cases hi : i < env.length
      · rw [List.getElem?_set_self hi] at eb; cases eb
      · rw [List.getElem?_eq_none (by rw [List.length_set]; omega)] at eb; cases eb
    rw [List.getElem?_set_ne ha] at ea sa
    rw [List.getElem?_set_ne hb] at eb sb
    exact r.inj a b ds es p ea eb sa sb
/-- less is hidden: a list is let go -/
theorem SR.more {s : Sl} {o : Option (Option V)} {H0 : Hp} {O' : List Addr} (h : SR K O H0 H s o) (hs : ∀ a ∈ O', a ∈ O) (ho : ∀ p, o = some (some (.ref p)) → p ∈ O → (∃ ds, s = .own ds) → p ∈ O') : SR K O' H0 H s o := by
  cases s with
  | un => trivial
  | dat d =>
    obtain ⟨v, h1, h2⟩ := h
    exact ⟨v, h1, h2.same (hide_sub hs)⟩
  | own ds =>
    obtain ⟨p, vs, h1, h2, h3, h4, h5⟩ := h
    exact ⟨p, vs, h1, ho p h1 h2 ⟨ds, rfl⟩, h3, h4, h5.same (hide_sub hs)⟩
def freeze (i : Nat) (env : Ev) : Ev := match env[i]? with
  | some (.own ds) => env.set i (.dat ds.data)
  | _ => env
theorem Rel.freeze (i : Nat) (r : Rel K c O H env σ) : ∃ O', Rel K c O' H (freeze i env) σ ∧ Keep O H O' H := by
  unfold DL.freeze
  split
  · rename_i ds e
    have hi : i < env.length := (List.getElem?_eq_some_iff.mp e).1
    obtain ⟨p, vs, h1, h2, h3, h4, h5⟩ := r.slots i _ e
    have sub : ∀ a ∈ O.filter (fun a => decide (a ≠ p)), a ∈ O := fun a h => (List.mem_filter.mp h).1
    have out : p ∉ O.filter (fun a => decide (a ≠ p)) := fun h => by simpa using (List.mem_filter.mp h).2
    refine ⟨O.filter (fun a => decide (a ≠ p)), ⟨r.same, fun a h => List.mem_filter.mpr ⟨r.sub a h, ?_⟩, r.dom0, fun a h => r.dom a (sub a h), fun a h => r.new a (sub a h), by rw [List.length_set]; exact r.len, fun j s ej => ?_, fun a b ds' es p' ea eb sa sb => ?_, fun t ht => (r.exs t ht).keep fun a o ea na => ⟨ea, fun z => na (sub a z)⟩⟩, fun a o ea na => ⟨ea, fun z => na (sub a z)⟩⟩
    · refine decide_eq_true fun z => ?_
      subst z
      have m := r.dom0 a h
      rw [h3] at m; exact m
    · by_cases hj : i = j
      · subst hj
        rw [List.getElem?_set_self hi] at ej; cases ej
        exact ⟨.ref p, h1, (h5.same (hide_sub sub)).dv (.inl (by rw [hide_out out]; exact h4))⟩
      · rw [List.getElem?_set_ne hj] at ej
        refine (r.slots j s ej).more sub fun q eq hq ⟨es, he⟩ => List.mem_filter.mpr ⟨hq, decide_eq_true fun z => ?_⟩
        subst z; subst he
        exact hj (r.inj i j ds es q e ej h1 eq)
    · have ha : i ≠ a := by rintro rfl; rw [List.getElem?_set_self hi] at ea; cases ea
      have hb : i ≠ b := by rintro rfl; rw [List.getElem?_set_self hi] at eb; cases eb
      rw [List.getElem?_set_ne ha] at ea
      rw [List.getElem?_set_ne hb] at eb
      exact r.inj a b ds' es p' ea eb sa sb
  · exact ⟨O, r, Keep.refl _ _⟩
theorem Keep.grow {p : Addr} (n : H p = none) (e : Same H H') : Keep O H (p :: O) H' := fun a o q h => ⟨e a o q, by simp [ne_of_none q n, h]⟩
theorem Keep.change {p : Addr} {u : HO} (hp : p ∈ O) : Keep O H O (upd H p u) := fun a o q h => ⟨by rw [upd_ne (show a ≠ p from fun z => h (by rw [z]; exact hp))]; exact q, h⟩
/-- a new thing that this def alone holds -/
theorem Rel.grow {p : Addr} (r : Rel K c O H env σ) (n : H p = none) (e : Same H H') (m : Mut (H' p)) : Rel K c (p :: O) H' env σ := by
  have n0 : c.H_0 p = none := r.same.free n
  have hs : Same (hide O H) (hide (p :: O) H') := fun a o q => by
    by_cases h : a ∈ O
    · rw [hide_in h] at q; cases q
    · rw [hide_out h] at q
      have ha : a ≠ p := ne_of_none q n
      rw [hide_out (by simp [ha, h])]; exact e a o q
  refine ⟨r.same.trans e, fun a h => List.mem_cons_of_mem _ (r.sub a h), r.dom0, fun a h => ?_, fun a h => ?_, r.len, fun i s h => ?_, r.inj, fun t ht => (r.exs t ht).keep (Keep.grow n e)⟩
  · rcases List.mem_cons.mp h with rfl | h
    · exact m
    · exact mut_same e (r.dom a h)
  · rcases List.mem_cons.mp h with rfl | h
    · exact .inr n0
    · exact r.new a h
  · have q := r.slots i s h
    cases s with
    | un => trivial
    | dat d =>
      obtain ⟨v, h1, h2⟩ := q
      exact ⟨v, h1, h2.same hs⟩
    | own w =>
      obtain ⟨p', u, h1, h2, h3, h4, h5⟩ := q
      exact ⟨p', u, h1, List.mem_cons_of_mem _ h2, h3, e _ _ h4, h5.same hs⟩
/-- the slot's old owner is forgotten -/
theorem Rel.putOwn {i : Nat} {p : Addr} {u : HO} {w : Ow} (r : Rel K c O H env σ) (hi : i < env.length) (hp : p ∈ O) (h0 : c.H_0 p = none) (hu : H p = some u) (hw : OwR K (hide O H) u w) (hn : ∀ (j : Nat) (w' : Ow), env[j]? = some (.own w') → σ[j]? = some (some (.ref p)) → j = i) :
    Rel K c O H (env.set i (.own w)) (σ.set i (some (.ref p))) := by
  have hi' : i < σ.length := by rw [← r.len]; exact hi
  refine ⟨r.same, r.sub, r.dom0, r.dom, r.new, by rw [List.length_set, List.length_set]; exact r.len, fun j s e => ?_, fun a b ds es q ea eb sa sb => ?_, r.exs⟩
  · by_cases hj : i = j
    · subst hj
      rw [List.getElem?_set_self hi] at e; cases e
      exact ⟨p, u, by rw [List.getElem?_set_self hi'], hp, h0, hu, hw⟩
    · rw [List.getElem?_set_ne hj] at e ⊢
      exact r.slots j s e
  · by_cases ha : i = a
    · by_cases hb : i = b
      · exact ha.symm.trans hb
      · subst ha
        rw [List.getElem?_set_self hi'] at sa; cases sa
        rw [List.getElem?_set_ne hb] at eb sb
        exact (hn b es eb sb).symm
    · by_cases hb : i = b
      · subst hb
        rw [List.getElem?_set_self hi'] at sb; cases sb
        rw [List.getElem?_set_ne ha] at ea sa
        exact hn a ds ea sa
      · rw [List.getElem?_set_ne ha] at ea sa
        rw [List.getElem?_set_ne hb] at eb sb
        exact r.inj a b ds es q ea eb sa sb
/-- what this def holds is changed in its place -/
theorem Rel.change {i : Nat} {p : Addr} {u : HO} {w w' : Ow} (r : Rel K c O H env σ) (e : env[i]? = some (.own w)) (ep : σ[i]? = some (some (.ref p))) (hp : p ∈ O) (h0 : c.H_0 p = none) (hw : OwR K (hide O H) u w') :
    Rel K c O (upd H p u) (env.set i (.own w')) σ := by
  have hi : i < env.length := (List.getElem?_eq_some_iff.mp e).1
  have hh : hide O (upd H p u) = hide O H := hide_upd hp
  refine ⟨fun a o q => ?_, r.sub, r.dom0, fun a h => ?_, r.new, by rw [List.length_set]; exact r.len, fun j s q => ?_, fun a b ds es q ea eb sa sb => ?_, fun t ht => (r.exs t ht).keep (Keep.change hp)⟩
  · rw [upd_ne (ne_of_none q h0)]; exact r.same a o q
  · by_cases ha : a = p
    · subst ha; rw [upd_same]; exact hw.mut
    · rw [upd_ne ha]; exact r.dom a h
  · by_cases hj : i = j
    · subst hj
      rw [List.getElem?_set_self hi] at q; cases q
      exact ⟨p, u, ep, hp, h0, upd_same, by rw [hh]; exact hw⟩
    · rw [List.getElem?_set_ne hj] at q
      have z := r.slots j s q
      cases s with
      | un => trivial
      | dat d =>
        obtain ⟨v, h1, h2⟩ := z
        exact ⟨v, h1, by rw [hh]; exact h2⟩
      | own w2 =>
        obtain ⟨p', u', h1, h2, h3, h4, h5⟩ := z
        have hne : p' ≠ p := by
          rintro rfl
          exact hj (r.inj i j w w2 _ e q ep h1)
        exact ⟨p', u', h1, h2, h3, by rw [upd_ne hne]; exact h4, by rw [hh]; exact h5⟩
  · have ea' : ∃ d, env[a]? = some (.own d) := by
      by_cases ha : i = a
      · subst ha; exact ⟨w, e⟩
      · rw [List.getElem?_set_ne ha] at ea; exact ⟨ds, ea⟩
    have eb' : ∃ d, env[b]? = some (.own d) := by
      by_cases hb : i = b
      · subst hb; exact ⟨w, e⟩
      · rw [List.getElem?_set_ne hb] at eb; exact ⟨es, eb⟩
    obtain ⟨d1, e1⟩ := ea'
    obtain ⟨d2, e2⟩ := eb'
    exact r.inj a b d1 d2 q e1 e2 sa sb
end
end DL

set_option Elab.async false
set_option linter.all false
set_option maxRecDepth 100000
set_option maxHeartbeats 1000000
namespace DL
open PySem PySem.Spec L2
set_option autoImplicit false

/-- an exception of the own class that the module calls n, with its fields -/
def ExcR (mg : Str → Option Value) (K : PySem.W.Frag) (O : List Addr) (H : Hp) (n : Str) (fs : List (Str × PyData)) (cls : Value) (dd : Option Addr) : Prop :=
  ∃ C : Addr, mg n = some (.ref C) ∧ cls = .ref C ∧ match fs with
    | [] => True
    | [(f, d)] => ∃ (p : Addr) (v : V), dd = some p ∧ H p = some (.xd [(f, v)]) ∧ Dv K (hide O H) v d
    | _ => False
def Res {α : Type} (X : Cx) (c : Dc) (O : List Addr) (σ : L2.St) (H : Hp) (r : R α) (k : α → Prop) : Prop :=
  match r with
  | .ok a => k a
  | .error (.exc n fs) => ∀ (cls : Value) (dd : Option Addr) (H' : Hp), Same H H' → ExcR X.mg X.K O H' n fs cls dd → c.W cls dd σ H'
  | .error .stuck => False
def Bv (K : PySem.W.Frag) (c : Dc) (O : List Addr) (H : Hp) (v : V) (d : PyData) : Prop :=
  Dv K (hide O H) v d ∨ ∃ (p : Addr) (u : HO) (w : Ow), v = .ref p ∧ d = w.data ∧ p ∉ c.O_0 ∧ H p = some u ∧ OwR K (hide O H) u w
inductive Bvs (K : PySem.W.Frag) (c : Dc) (O : List Addr) (H : Hp) : List V → List PyData → Prop
  | nil : Bvs K c O H [] []
  | cons {v : V} {vs : List V} {d : PyData} {ds : List PyData} : Bv K c O H v d → Bvs K c O H vs ds → Bvs K c O H (v :: vs) (d :: ds)
def rdE (X : Cx) (c : Dc) (f : DE) : TE := fun σ H Q => ∃ O env, Rel X.K c O H env σ ∧ Res X c O σ H (f env) fun d => ∀ v H', Same H H' → Dv X.K (hide O H') v d → Q v H'
def rdB (X : Cx) (c : Dc) (f : DE) : TE := fun σ H Q => ∃ O env, Rel X.K c O H env σ ∧ Res X c O σ H (f env) fun d => ∀ v H', Same H H' → Bv X.K c O H' v d → Q v H'
def rdT (X : Cx) (c : Dc) (f : DT) : TT := fun σ H Q => ∃ O env, Rel X.K c O H env σ ∧ Res X c O σ H (f env) fun b => ∀ H', Same H H' → Q b H'
def rdA (X : Cx) (c : Dc) (f : DA) : TA := fun σ H Q => ∃ O env, Rel X.K c O H env σ ∧ Res X c O σ H (f env) fun ds => ∀ vs H', Same H H' → Dvs X.K (hide O H') vs ds → Q vs H'
def rdBs (X : Cx) (c : Dc) (f : DA) : TA := fun σ H Q => ∃ O env, Rel X.K c O H env σ ∧ Res X c O σ H (f env) fun ds => ∀ vs H', Same H H' → Bvs X.K c O H' vs ds → Q vs H'
/-- a new list: nobody holds it -/
def rdF (X : Cx) (c : Dc) (f : DA) : TE := fun σ H Q => ∃ O env, Rel X.K c O H env σ ∧ Res X c O σ H (f env) fun ds => ∀ p vs H', Same H H' → H p = none → H' p = some (.lst vs) → Dvs X.K (hide (p :: O) H') vs ds → Q (.ref p) H'

abbrev EE (X : Cx) (c : Dc) (e : Expr) (f : DE) : Prop := PE X e (rdE X c f)
abbrev EB (X : Cx) (c : Dc) (e : Expr) (f : DE) : Prop := PE X e (rdB X c f)
abbrev EF (X : Cx) (c : Dc) (e : Expr) (f : DA) : Prop := PE X e (rdF X c f)
abbrev ET (X : Cx) (c : Dc) (e : Expr) (f : DT) : Prop := PT X e (rdT X c f)
abbrev EW (X : Cx) (c : Dc) (e : Expr) (f : DT) : Prop := PW X e (rdT X c f)
abbrev EA (X : Cx) (c : Dc) (es : List Expr) (f : DA) : Prop := PA X es (rdA X c f)
abbrev EBs (X : Cx) (c : Dc) (es : List Expr) (f : DA) : Prop := PA X es (rdBs X c f)

theorem PE.imp {X : Cx} {e : Expr} {t t' : TE} (h : PE X e t) (i : ∀ σ H Q, t' σ H Q → t σ H Q) : PE X e t' := ⟨fun pins s σ H Q I q => h.run pins s σ H Q I (i σ H Q q)⟩
theorem PT.imp {X : Cx} {e : Expr} {t t' : TT} (h : PT X e t) (i : ∀ σ H Q, t' σ H Q → t σ H Q) : PT X e t' := ⟨fun pins s σ H Q I q => h.run pins s σ H Q I (i σ H Q q)⟩
theorem PW.imp {X : Cx} {e : Expr} {t t' : TT} (h : PW X e t) (i : ∀ σ H Q, t' σ H Q → t σ H Q) : PW X e t' := ⟨fun w pins s σ H Q I q => h.run w pins s σ H Q I (i σ H Q q)⟩
theorem PA.imp {X : Cx} {es : List Expr} {t t' : TA} (h : PA X es t) (i : ∀ σ H Q, t' σ H Q → t σ H Q) : PA X es t' := ⟨fun p pins s σ H Q I q => h.run p pins s σ H Q I (i σ H Q q)⟩
theorem PS.imp {X : Cx} {e : Stmt} {t t' : TS} (h : PS X e t) (i : ∀ D σ H, t' D σ H → t D σ H) : PS X e t' := ⟨fun pins s σ H D I q => h.run pins s σ H D I (i D σ H q)⟩
theorem PSs.imp {X : Cx} {e : List Stmt} {t t' : TS} (h : PSs X e t) (i : ∀ D σ H, t' D σ H → t D σ H) : PSs X e t' := ⟨fun pins s σ H D I q => h.run pins s σ H D I (i D σ H q)⟩

section
variable {X : Cx} {c : Dc} {O : List Addr} {σ : L2.St} {H H1 : Hp}
theorem Res.bind {α β : Type} {r : R α} {g : α → R β} {k : β → Prop} (h : Res X c O σ H (r >>= g) k) : Res X c O σ H r fun a => Res X c O σ H (g a) k := by
  cases r with
  | ok a => exact h
  | error e => cases e <;> exact h
theorem Res.ext {α : Type} {r : R α} {k k' : α → Prop} (s : Same H H1) (h : Res X c O σ H r k) (i : ∀ a, k a → k' a) : Res X c O σ H1 r k' := by
  cases r with
  | ok a => exact i a h
  | error e =>
    cases e with
    | stuck => exact h
    | exc n fs => exact fun cls dd H' s' e => h cls dd H' (s.trans s') e
theorem Res.imp {α : Type} {r : R α} {k k' : α → Prop} (h : Res X c O σ H r k) (i : ∀ a, k a → k' a) : Res X c O σ H r k' := h.ext (Same.refl H) i
theorem Res.ok {α : Type} {a : α} {k : α → Prop} (h : Res X c O σ H (.ok a) k) : k a := h
theorem Bv.of {K : PySem.W.Frag} {v : V} {d : PyData} (h : Dv K (hide O H) v d) : Bv K c O H v d := .inl h
theorem Bv.ext {K : PySem.W.Frag} {v : V} {d : PyData} (s : Same H H1) (h : Bv K c O H v d) : Bv K c O H1 v d := by
  rcases h with h | ⟨p, vs, ds, h1, h2, h3, h4, h5⟩
  · exact .inl (h.same (hide_same s))
  · exact .inr ⟨p, vs, ds, h1, h2, h3, s _ _ h4, h5.same (hide_same s)⟩
theorem Bv.dv {K : PySem.W.Frag} {v : V} {d : PyData} (h : Bv K c O H v d) : Dv K H v d := by
  rcases h with h | ⟨p, vs, ds, rfl, rfl, h3, h4, h5⟩
  · exact h.same (hide_le O H)
  · exact (h5.same (hide_le O H)).dv (.inl h4)
theorem Bv.dv0 {K : PySem.W.Frag} {v : V} {d : PyData} (h : Bv K c O H v d) (hs : ∀ a ∈ c.O_0, a ∈ O) : Dv K (hide c.O_0 H) v d := by
  rcases h with h | ⟨p, vs, ds, rfl, rfl, h3, h4, h5⟩
  · exact h.same (hide_sub hs)
  · exact (h5.same (hide_sub hs)).dv (.inl (by rw [hide_out h3]; exact h4))
theorem Bv.int {K : PySem.W.Frag} {v : V} {i : Int} (h : Bv K c O H v (.int i)) : v = .int i := by
  rcases h with h | ⟨p, vs, ds, _, h2, _⟩
  · cases h; rfl
  · cases ds <;> cases h2
theorem Bv.bl {K : PySem.W.Frag} {v : V} {i : Bool} (h : Bv K c O H v (.bool i)) : v = .bl i := by
  rcases h with h | ⟨p, vs, ds, _, h2, _⟩
  · cases h; rfl
  · cases ds <;> cases h2
theorem Bv.str {K : PySem.W.Frag} {v : V} {i : Str} (h : Bv K c O H v (.str i)) : v = .str i := by
  rcases h with h | ⟨p, vs, ds, _, h2, _⟩
  · cases h; rfl
  · cases ds <;> cases h2
theorem Bv.tup {K : PySem.W.Frag} {v : V} {es : List PyData} (h : Bv K c O H v (.tuple es)) : ∃ a vs, v = .ref a ∧ SqT K H a vs ∧ SqT K (hide O H) a vs ∧ Dvs K (hide O H) vs es := by
  rcases h with h | ⟨p, vs, ds, _, h2, _⟩
  · cases h with
    | tup h t => exact ⟨_, _, rfl, sqT_same (hide_le O H) h, h, t⟩
  · cases ds <;> cases h2
theorem Bv.lst {K : PySem.W.Frag} {v : V} {ds : List PyData} (h : Bv K c O H v (.list ds)) : ∃ a vs, v = .ref a ∧ SqL K H a vs ∧ Dvs K (hide O H) vs ds := by
  rcases h with h | ⟨p, vs, ds', rfl, h2, h3, h4, h5⟩
  · cases h with
    | lst h t => exact ⟨_, _, rfl, Same.seq (hide_le O H) h, t⟩
  · cases ds' <;> cases h2
    cases vs <;> first | exact h5.elim | skip
    exact ⟨p, _, rfl, .inl (.inl h4), h5⟩
theorem Bv.dic {K : PySem.W.Frag} {v : V} {qs : List (PyData × PyData)} (h : Bv K c O H v (.dict qs)) : ∃ a kvs ps, v = .ref a ∧ Rd H a (.dK kvs) ∧ qs = ps.map keyPair ∧ Dks K (hide O H) kvs ps := by
  rcases h with h | ⟨p, u, w, rfl, h2, h3, h4, h5⟩
  · cases h with
    | dct h t q => exact ⟨_, _, _, rfl, rd_same (hide_le O H) h, q, t⟩
  · cases w <;> cases h2
    cases u <;> first | exact h5.elim | skip
    exact ⟨p, _, _, rfl, .inl h4, rfl, h5⟩

variable {e : Expr} {f : DE} {pos : Pos}
theorem toB (h : EE X c e f) : EB X c e f := PE.imp h fun σ H Q ⟨O, env, r, q⟩ => ⟨O, env, r, q.imp fun d k v H' s h => k v H' s (.inl h)⟩

/-! ### constants, names -/
def dC (d : PyData) : DE := fun _ => .ok d
def dVar (i : Nat) : DE := fun env => match env[i]? with
  | some (.dat d) => .ok d
  | _ => .error .stuck
def dVarB (i : Nat) : DE := fun env => match env[i]? with
  | some (.dat d) => .ok d
  | some (.own w) => .ok w.data
  | _ => .error .stuck
theorem e_int {i : Int} {j : Nat} : EE X c (.Constant (.int i) j pos) (dC (.int i)) := PE.imp pe_int fun σ H Q ⟨O, env, r, q⟩ => q _ H (Same.refl H) (.int i)
theorem e_bl {b : Bool} {j : Nat} : EE X c (.Constant (.bool b) j pos) (dC (.bool b)) := PE.imp pe_bl fun σ H Q ⟨O, env, r, q⟩ => q _ H (Same.refl H) (.bl b)
theorem e_non {j : Nat} : EE X c (.Constant .none j pos) (dC .none) := PE.imp pe_non fun σ H Q ⟨O, env, r, q⟩ => q _ H (Same.refl H) .non
theorem e_str {x : Str} {j : Nat} : EE X c (.Constant (.str x) j pos) (dC (.str x)) := PE.imp pe_str fun σ H Q ⟨O, env, r, q⟩ => q _ H (Same.refl H) (.str x)
theorem e_var (i : Nat) {x : Str} (hN : X.N[i]? = some x := by rfl) (hv : Vis X.env.scope x := by first | exact Or.inl rfl | exact Or.inr (Or.inl rfl) | exact Or.inr (Or.inr rfl)) (hd : (x == ("__debug__" : Str)) = false := by decide)
    (hcd : (x == ("__classdict__" : Str)) = false := by decide) : EE X c (.Name x pos) (dVar i) := PE.imp (pe_var hN hv hd hcd) fun σ H Q ⟨O, env, r, q⟩ => by
  unfold dVar at q
  split at q
  · rename_i d e
    obtain ⟨v, h1, h2⟩ := r.slots i _ e
    exact ⟨v, h1, q.ok v H (Same.refl H) h2⟩
  · exact q.elim
theorem e_varB (i : Nat) {x : Str} (hN : X.N[i]? = some x := by rfl) (hv : Vis X.env.scope x := by first | exact Or.inl rfl | exact Or.inr (Or.inl rfl) | exact Or.inr (Or.inr rfl)) (hd : (x == ("__debug__" : Str)) = false := by decide)
    (hcd : (x == ("__classdict__" : Str)) = false := by decide) : EB X c (.Name x pos) (dVarB i) := PE.imp (pe_var hN hv hd hcd) fun σ H Q ⟨O, env, r, q⟩ => by
  unfold dVarB at q
  split at q
  · rename_i d e
    obtain ⟨v, h1, h2⟩ := r.slots i _ e
    exact ⟨v, h1, q.ok v H (Same.refl H) (.inl h2)⟩
  · rename_i ds e
    obtain ⟨p, vs, h1, h2, h3, h4, h5⟩ := r.slots i _ e
    refine ⟨_, h1, q.ok _ H (Same.refl H) (.inr ⟨p, vs, ds, rfl, rfl, fun z => ?_, h4, h5⟩)⟩
    have m := r.dom0 p z
    rw [h3] at m; exact m
  · exact q.elim
/-- a module's constant -/
theorem e_glob {x : Str} {d : PyData} {v : V} {u : Value} (hg : Gl X x) (hm : X.mg x = some u) (rv : RelV v u) (hd : ∀ H : Hp, Dv X.K H v d) (hdb : (x == ("__debug__" : Str)) = false := by decide) : EE X c (.Name x pos) (dC d) :=
  PE.imp (pe_glob hg hm rv hdb) fun σ H Q ⟨O, env, r, q⟩ => q.ok v H (Same.refl H) (hd _)

/-! ### operators -/
def lift {α : Type} : Option α → R α
  | some a => .ok a
  | none => .error .stuck
def dBin (g : PyData → PyData → Option PyData) (fa fb : DE) : DE := fun env => do
  let x ← fa env
  let y ← fb env
  lift (g x y)
theorem Res.lift {α : Type} {o : Option α} {k : α → Prop} (h : Res X c O σ H (DL.lift o) k) : ∃ a, o = some a ∧ k a := by
  cases o with
  | none => exact h.elim
  | some a => exact ⟨a, rfl, h⟩
/-- what an operator's rule asks, told of data -/
def OpD (X : Cx) (r : R2) (g : PyData → PyData → Option PyData) : Prop := ∀ (c : Dc) (O : List Addr) (H : Hp) (x y : V) (d e z : PyData) (Q : VK), (∀ a ∈ O, Mut (H a)) → Bv X.K c O H x d → Bv X.K c O H y e → g d e = some z →
  (∀ v H', Same H H' → Dv X.K (hide O H') v z → Q v H') → r x y H Q
variable {a b : Expr} {fa fb : DE}
theorem rd_bin {r : R2} {g : PyData → PyData → Option PyData} (hd : OpD X r g) {Q : VK} (h : rdE X c (dBin g fa fb) σ H Q) : tOp r (rdB X c fa) (rdB X c fb) σ H Q := by
  obtain ⟨O, env, rel, q⟩ := h
  refine ⟨O, env, rel, q.bind.imp fun d q1 v H1 s1 b1 => ⟨O, env, rel.ext s1, (Res.bind q1).ext s1 fun e q2 w H2 s2 b2 => ?_⟩⟩
  obtain ⟨z, hz, k⟩ := q2.lift
  exact hd c O H2 v w d e z Q (fun a ha => (rel.ext (s1.trans s2)).dom a ha) (b1.ext s2) b2 hz fun v' H' s' hv => k v' H' ((s1.trans s2).trans s') hv
theorem e_op {op : Operator} {r : R2} {g : PyData → PyData → Option PyData} (ho : OpR X (binaryOp op) r) (hd : OpD X r g) (ha : EB X c a fa) (hb : EB X c b fb) : EE X c (.BinOp a op b pos) (dBin g fa fb) :=
  PE.imp (pe_op ho ha hb) fun σ H Q h => rd_bin hd h
theorem e_cmp {op : CmpOp} {r : R2} {g : PyData → PyData → Option PyData} (ho : OpR X (compareOp op) r) (hd : OpD X r g) (ha : EB X c a fa) (hb : EB X c b fb) (hm : behindInMarks op b = false := by first | exact nomark _ | rfl) : EE X c (.Compare a [op] [b] pos) (dBin g fa fb) :=
  PE.imp (pe_cmpR ho ha hb hm) fun σ H Q h => rd_bin hd h
def dBool (d : PyData) : Option Bool := match d with
  | .bool b => some b
  | _ => none
def dTest (f : DE) : DT := fun env => do
  let x ← f env
  lift (dBool x)
theorem Dv.bool {K : PySem.W.Frag} {H : Hp} {v : V} {d : PyData} {k : Bool} (h : Dv K H v d) (e : dBool d = some k) : v = .bl k := by
  cases h <;> first | (cases e; rfl) | cases e
theorem rd_test {t : TE} {f : DE} {Q : Bool → Hp → Prop} (ht : ∀ Q', rdE X c f σ H Q' → t σ H Q') (h : rdT X c (dTest f) σ H Q) : tTest t σ H Q := by
  obtain ⟨O, env, rel, q⟩ := h
  refine ht _ ⟨O, env, rel, q.bind.imp fun d q1 v H1 s1 b1 => ?_⟩
  obtain ⟨k, hk, q2⟩ := Res.lift q1
  exact ⟨k, b1.bool hk, q2 H1 s1⟩
theorem t_cmp {op : CmpOp} {r : R2} {g : PyData → PyData → Option PyData} (ho : OpR X (compareOp op) r) (hd : OpD X r g) (ha : EB X c a fa) (hb : EB X c b fb) (hm : behindInMarks op b = false := by first | exact nomark _ | rfl) : ET X c (.Compare a [op] [b] pos) (dTest (dBin g fa fb)) :=
  PT.imp (pt_cmpR ho ha hb hm) fun σ H Q h => rd_test (fun Q' h' => rd_bin hd h') h

def gI (f : Int → Int → PyData) : PyData → PyData → Option PyData
  | .int i, .int j => some (f i j)
  | _, _ => none
def gIC (C : Int → Int → Bool) (f : Int → Int → PyData) : PyData → PyData → Option PyData
  | .int i, .int j => if C i j = true then some (f i j) else none
  | _, _ => none
theorem opd_int0 {f : Int → Int → Int} : OpD X (rI0 fun i j => .int (f i j)) (gI fun i j => .int (f i j)) := fun c O H x y d e z Q _ hx hy hg k => by
  cases d <;> cases e <;> first | (cases hg; done) | skip
  cases hg
  exact ⟨_, _, hx.int, hy.int, k _ H (Same.refl H) (.int _)⟩
theorem opd_bool0 {f : Int → Int → Bool} : OpD X (rI0 fun i j => .bl (f i j)) (gI fun i j => .bool (f i j)) := fun c O H x y d e z Q _ hx hy hg k => by
  cases d <;> cases e <;> first | (cases hg; done) | skip
  cases hg
  exact ⟨_, _, hx.int, hy.int, k _ H (Same.refl H) (.bl _)⟩
theorem opd_intC {C : Int → Int → Prop} {B : Int → Int → Bool} {f : Int → Int → Int} (hB : ∀ i j, B i j = true → C i j) : OpD X (rI C fun i j => .int (f i j)) (gIC B fun i j => .int (f i j)) := fun c O H x y d e z Q _ hx hy hg k => by
  cases d <;> cases e <;> first | (cases hg; done) | skip
  rename_i i j
  unfold gIC at hg
  dsimp only at hg
  split at hg
  · rename_i hb
    cases hg
    exact ⟨_, _, hx.int, hy.int, hB _ _ hb, k _ H (Same.refl H) (.int _)⟩
  · cases hg
theorem OpD.or {r r' : R2} {g g' : PyData → PyData → Option PyData} (h : OpD X r g) (h' : OpD X r' g') : OpD X (fun x y H Q => r x y H Q ∨ r' x y H Q) (fun d e => (g d e).or (g' d e)) := fun c O H x y d e z Q m hx hy hg k => by
  have hg : (g d e).or (g' d e) = some z := hg
  cases q : g d e with
  | none =>
    rw [q] at hg
    exact .inr (h' c O H x y d e z Q m hx hy hg k)
  | some w =>
    rw [q] at hg
    exact .inl (h c O H x y d e z Q m hx hy (q.trans hg) k)
end
end DL

set_option Elab.async false
set_option linter.all false
set_option maxRecDepth 100000
set_option maxHeartbeats 1000000
namespace DL
open PySem PySem.Spec L2 PyProof.Rows
set_option autoImplicit false
noncomputable section
abbrev St := L2.St

/-- the most items that we let a list or a tuple have -/
def LIM : Nat := 16000000
theorem lim_lt {n : Nat} (h : n < LIM) : n < sizeLine := Nat.lt_of_lt_of_le h (by rw [sizeLine_eq]; decide)
theorem lim_le {n : Nat} (h : n < LIM) : n ≤ sizeLine := Nat.le_of_lt (lim_lt h)
theorem hide_new {O : List Addr} {H : Hp} {p : Addr} {o : HO} (m : ∀ a ∈ O, Mut (H a)) (n : H p = none) : hide O (upd H p o) p = some o := by
  have : p ∉ O := fun z => by
    have q := m p z
    rw [n] at q; exact q
  rw [hide_out this, upd_same]

section
variable {X : Cx} {c : Dc} {O : List Addr} {σ : St} {H H1 : Hp}
/-- a new list at p, from items that stand -/
theorem Dv.newL {K : PySem.W.Frag} {p : Addr} {vs : List V} {ds : List PyData} (m : ∀ a ∈ O, Mut (H a)) (n : H p = none) (h : Dvs K (hide O H) vs ds) : Dv K (hide O (upd H p (.lst vs))) (.ref p) (.list ds) :=
  .lst (.inl (.inl (hide_new m n))) (h.same (hide_same (same_upd n)))
theorem Dv.newT {K : PySem.W.Frag} {p : Addr} {vs : List V} {ds : List PyData} (m : ∀ a ∈ O, Mut (H a)) (n : H p = none) (h : Dvs K (hide O H) vs ds) : Dv K (hide O (upd H p (.tup vs))) (.ref p) (.tuple ds) :=
  .tup (.inl (.inl (hide_new m n))) (h.same (hide_same (same_upd n)))

/-! ### int operators -/
def mulB0 (i j : Int) : Bool := (decide (-18446744073709551616 < i) && decide (i < 18446744073709551616)) || (decide (-18446744073709551616 < j) && decide (j < 18446744073709551616)) || decide (i.natAbs.log2 + j.natAbs.log2 < 1000000)
noncomputable def mulBo : { f : Int → Int → Bool // f = mulB0 } := Classical.choice ⟨⟨mulB0, rfl⟩⟩
def mulB : Int → Int → Bool := mulBo.1
theorem mulB_eq : mulB = mulB0 := mulBo.2
theorem mulB_l {i j : Int} (h : -18446744073709551616 < i) (h' : i < 18446744073709551616) : mulB i j = true := by rw [mulB_eq]; unfold mulB0; rw [decide_eq_true h, decide_eq_true h']; rfl
theorem mulB_r {i j : Int} (h : -18446744073709551616 < j) (h' : j < 18446744073709551616) : mulB i j = true := by rw [mulB_eq]; unfold mulB0; rw [decide_eq_true h, decide_eq_true h', Bool.and_self, Bool.or_true, Bool.true_or]
theorem op_mulA : OpR X (binaryOp .Mult) (fun x y H Q => rI CMul (fun i j => .int (i * j)) x y H Q ∨ rI CMulW (fun i j => .int (i * j)) x y H Q) := OpR.or op_mul op_mulW
theorem opd_mulA : OpD X (fun x y H Q => rI CMul (fun i j => .int (i * j)) x y H Q ∨ rI CMulW (fun i j => .int (i * j)) x y H Q) (gIC mulB fun i j => .int (i * j)) := fun c O H x y d e z Q _ hx hy hg k => by
  cases d <;> cases e <;> first | (cases hg; done) | skip
  rename_i i j
  unfold gIC at hg
  dsimp only at hg
  split at hg
  · rename_i hb
    cases hg
    rw [mulB_eq] at hb; unfold mulB0 at hb
    rw [Bool.or_eq_true, Bool.or_eq_true] at hb
    rcases hb with (hb | hb) | hb
    · rw [Bool.and_eq_true] at hb
      exact .inl ⟨_, _, hx.int, hy.int, .inl ⟨of_decide_eq_true hb.1, of_decide_eq_true hb.2⟩, k _ H (Same.refl H) (.int _)⟩
    · rw [Bool.and_eq_true] at hb
      exact .inl ⟨_, _, hx.int, hy.int, .inr ⟨of_decide_eq_true hb.1, of_decide_eq_true hb.2⟩, k _ H (Same.refl H) (.int _)⟩
    · exact .inr ⟨_, _, hx.int, hy.int, (of_decide_eq_true hb : i.natAbs.log2 + j.natAbs.log2 < 1000000), k _ H (Same.refl H) (.int _)⟩
  · cases hg
def divB0 (_ j : Int) : Bool := decide (0 < j) && decide (j.natAbs.log2 < 9000)
noncomputable def divBo : { f : Int → Int → Bool // f = divB0 } := Classical.choice ⟨⟨divB0, rfl⟩⟩
def divB : Int → Int → Bool := divBo.1
theorem divB_eq : divB = divB0 := divBo.2
theorem divB_of {i j : Int} (h : 0 < j) (h' : j < 2 ^ 1000) : divB i j = true := by
  rw [divB_eq]; unfold divB0
  have e : j.natAbs < 2 ^ 1000 := by
    have : (j.natAbs : Int) = j := Int.natAbs_of_nonneg (Int.le_of_lt h)
    omega
  rw [decide_eq_true h, decide_eq_true (Nat.lt_of_lt_of_le (PySem.Flt.log2_lt_of (by decide) e) (by decide))]; rfl
def modB (_ j : Int) : Bool := decide (0 < j)
def shrB (_ j : Int) : Bool := decide (0 ≤ j)
def shlB0 (i j : Int) : Bool := decide (0 ≤ j) && decide (j ≤ 1000000) && decide (i.natAbs < 18446744073709551616)
noncomputable def shlBo : { f : Int → Int → Bool // f = shlB0 } := Classical.choice ⟨⟨shlB0, rfl⟩⟩
def shlB : Int → Int → Bool := shlBo.1
theorem shlB_eq : shlB = shlB0 := shlBo.2
theorem opd_fdiv : OpD X (rI CDivW fun i j => .int (i / j)) (gIC divB fun i j => .int (i / j)) := opd_intC fun i j h => by
  rw [divB_eq] at h; unfold divB0 at h
  rw [Bool.and_eq_true] at h
  exact ⟨of_decide_eq_true h.1, of_decide_eq_true h.2⟩
theorem opd_mod : OpD X (rI (fun _ j => 0 < j) fun i j => .int (i % j)) (gIC modB fun i j => .int (i % j)) := opd_intC fun i j h => of_decide_eq_true h
theorem opd_shr : OpD X (rI (fun _ j => 0 ≤ j) fun i j => .int (i / 2 ^ j.toNat)) (gIC shrB fun i j => .int (i / 2 ^ j.toNat)) := opd_intC fun i j h => of_decide_eq_true h
theorem shlB_of {i j : Int} (h : 0 ≤ j) (h' : j ≤ 1000000) (hi : i.natAbs < 18446744073709551616) : shlB i j = true := by rw [shlB_eq]; unfold shlB0; rw [decide_eq_true h, decide_eq_true h', decide_eq_true hi]; rfl
theorem cpow_of {i j : Int} (h : shlB i j = true) : CPow i j := by
  rw [shlB_eq] at h; unfold shlB0 at h
  rw [Bool.and_eq_true, Bool.and_eq_true] at h
  exact ⟨of_decide_eq_true h.1.1, of_decide_eq_true h.1.2, of_decide_eq_true h.2⟩
theorem opd_shl : OpD X (rI CPow fun i j => .int (i * 2 ^ j.toNat)) (gIC shlB fun i j => .int (i * 2 ^ j.toNat)) := opd_intC fun i j h => cpow_of h
theorem opd_pow : OpD X (rI CPow fun i j => .int (i ^ j.toNat)) (gIC shlB fun i j => .int (i ^ j.toNat)) := opd_intC fun i j h => cpow_of h

/-! ### + on ints, texts, tuples, lists -/
def rCatR (K : PySem.W.Frag) : R2 := fun x y H Q => ∃ l b xs zs, x = .ref l ∧ y = .ref b ∧ SqL K H l xs ∧ SqL K H b zs ∧ xs.length + zs.length ≤ sizeLine ∧ ∀ p, H p = none → Q (.ref p) (upd H p (.lst (xs ++ zs)))
theorem op_catR : OpR X (binaryOp .Add) (rCatR X.K) := by
  intro pins s σ H x y v u Q I rx ry h
  obtain ⟨l, b, xs, zs, rfl, rfl, hH, hB, hz, q⟩ := h
  cases rx
  cases ry
  obtain ⟨its, r, ⟨⟨cls, dd, data, sl⟩, n, ho, hc, hdd, hd⟩, _⟩ := I.list hH
  obtain ⟨its2, r2, ⟨⟨cls2, dd2, data2, sl2⟩, n2, ho2, hc2, hdd2, hd2⟩, _⟩ := I.list hB
  simp only at hc hd hc2 hd2
  subst hc hd hc2 hd2
  have ea : its.toArray ++ its2.toArray = (its ++ its2).toArray := by simp
  refine concat_meets ⟨_, ho, rfl⟩ ⟨_, ho2, rfl⟩ noFill_list_add seq_list_add PySem.F.slot_list_add PySem.F.entry_list_add (PySem.F.args_list_add_2 _ _) (PyProof.Rows.list_addW l b its.toArray its2.toArray n n2 dd dd2 sl sl2 (by have := r.length; have := r2.length; rw [List.size_toArray, List.size_toArray]; omega)) ⟨ho, ho2, ?_⟩
  rw [ea]
  exact ⟨.ref _, _, I.lnew (t' := s.toks) (r.append r2) (by rw [List.length_append]; omega), rfl, q _ I.fresh⟩
abbrev rAddA (K : PySem.W.Frag) : R2 := fun x y H Q => rI0 (fun i j => .int (i + j)) x y H Q ∨ ((∃ i j, x = .str i ∧ y = .str j ∧ i.length + j.length ≤ sizeLine ∧ Q (.str (i ++ j)) H) ∨ (rCatA K x y H Q ∨ rCatR K x y H Q))
theorem op_addA : OpR X (binaryOp .Add) (rAddA X.K) := OpR.or op_add (OpR.or op_add_str (OpR.or op_catA op_catR))
def gAdd : PyData → PyData → Option PyData
  | .int i, .int j => some (.int (i + j))
  | .str x, .str y => if x.length + y.length < LIM then some (.str (x ++ y)) else none
  | .tuple xs, .tuple ys => if xs.length + ys.length < LIM then some (.tuple (xs ++ ys)) else none
  | .list xs, .list ys => if xs.length + ys.length < LIM then some (.list (xs ++ ys)) else none
  | _, _ => none
theorem Dvs.nil_iff {K : PySem.W.Frag} {vs : List V} {ds : List PyData} (h : Dvs K H vs ds) : vs = [] ↔ ds = [] := by
  cases h <;> simp
theorem opd_addA : OpD X (rAddA X.K) gAdd := fun c O H x y d e z Q m hx hy hg k => by
  cases d <;> cases e <;> first | (cases hg; done) | skip
  · cases hg
    exact .inl ⟨_, _, hx.int, hy.int, k _ H (Same.refl H) (.int _)⟩
  · unfold gAdd at hg
    dsimp only at hg
    split at hg
    · rename_i hl
      cases hg
      exact .inr (.inl ⟨_, _, hx.str, hy.str, lim_le hl, k _ H (Same.refl H) (.str _)⟩)
    · cases hg
  · unfold gAdd at hg
    dsimp only at hg
    split at hg
    · rename_i hl
      cases hg
      obtain ⟨a, xs, rfl, h1, d1⟩ := hx.lst
      obtain ⟨b, ys, rfl, h2, d2⟩ := hy.lst
      refine .inr (.inr (.inr ⟨a, b, xs, ys, rfl, rfl, h1, h2, by rw [d1.length, d2.length]; exact lim_le hl, fun p np => k _ _ (same_upd np) (.newL m np (d1.app d2))⟩))
    · cases hg
  · unfold gAdd at hg
    dsimp only at hg
    split at hg
    · rename_i hl
      cases hg
      obtain ⟨a, xs, rfl, h1, h1', d1⟩ := hx.tup
      obtain ⟨b, ys, rfl, h2, h2', d2⟩ := hy.tup
      refine .inr (.inr (.inl ⟨a, b, xs, ys, rfl, rfl, h1, h2, by rw [d1.length, d2.length]; exact lim_le hl, fun ex => ?_, fun _ ey => ?_, fun _ _ p np => k _ _ (same_upd np) (.newT m np (d1.app d2))⟩))
      · have ee := d1.nil_iff.mp ex
        subst ee
        exact k _ H (Same.refl H) (.tup h2' d2)
      · have ee := d2.nil_iff.mp ey
        subst ee
        rw [List.append_nil] at k
        exact k _ H (Same.refl H) (.tup h1' d1)
    · cases hg

/-! ### comparisons -/
def gEq (neg : Bool) : PyData → PyData → Option PyData := fun d e => if (SeqAt.shaped d && SeqAt.shaped e) = true then some (.bool (if neg then !PyData.eqv d e else PyData.eqv d e)) else none
theorem opd_eqD : OpD X (rEqD X.K) (gEq false) := fun c O H x y d e z Q m hx hy hg k => by
  unfold gEq at hg
  split at hg
  · rename_i h
    rw [Bool.and_eq_true] at h
    cases hg
    exact ⟨d, e, hx.dv.dp (SeqAt.canLay_of_shaped h.1), hy.dv.dp (SeqAt.canLay_of_shaped h.2), h.1, h.2, k _ H (Same.refl H) (.bl _)⟩
  · cases hg
theorem opd_neD : OpD X (rNeD X.K) (gEq true) := fun c O H x y d e z Q m hx hy hg k => by
  unfold gEq at hg
  split at hg
  · rename_i h
    rw [Bool.and_eq_true] at h
    cases hg
    exact ⟨d, e, hx.dv.dp (SeqAt.canLay_of_shaped h.1), hy.dv.dp (SeqAt.canLay_of_shaped h.2), h.1, h.2, k _ H (Same.refl H) (.bl _)⟩
  · cases hg
def isN : PyData → Bool
  | .none => true
  | _ => false
def gIsN (neg : Bool) : PyData → PyData → Option PyData := fun d e => if isN e = true then some (.bool (if neg then !isN d else isN d)) else none
theorem dv_isN {K : PySem.W.Frag} {v : V} {d : PyData} (h : Dv K H v d) : decide (v = .non) = isN d := by
  cases h <;> rfl
theorem dv_non {K : PySem.W.Frag} {v : V} {d : PyData} (h : Dv K H v d) (e : isN d = true) : v = .non := by
  cases h <;> first | rfl | cases e
theorem opd_isN : OpD X (fun x y H Q => y = .non ∧ Q (.bl (decide (x = .non))) H) (gIsN false) := fun c O H x y d e z Q m hx hy hg k => by
  unfold gIsN at hg
  split at hg
  · rename_i h
    cases hg
    refine ⟨dv_non hy.dv h, ?_⟩
    rw [dv_isN hx.dv]
    exact k _ H (Same.refl H) (.bl _)
  · cases hg
theorem opd_notN : OpD X (fun x y H Q => y = .non ∧ Q (.bl (!decide (x = .non))) H) (gIsN true) := fun c O H x y d e z Q m hx hy hg k => by
  unfold gIsN at hg
  split at hg
  · rename_i h
    cases hg
    refine ⟨dv_non hy.dv h, ?_⟩
    rw [dv_isN hx.dv]
    exact k _ H (Same.refl H) (.bl _)
  · cases hg
/-- x in xs, x not in xs: xs a list (a tuple: below) -/
def gIn (neg : Bool) : PyData → PyData → Option PyData
  | d, .list es => if (SeqAt.shaped d && SeqAt.shaped (.list es)) = true then some (.bool (if neg then !(es.any fun z => PyData.eqv z d) else es.any fun z => PyData.eqv z d)) else none
  | _, _ => none
theorem opd_inD : OpD X (rInD X.K) (gIn false) := fun c O H x y d e z Q m hx hy hg k => by
  unfold gIn at hg
  cases e <;> first | (cases hg; done) | skip
  dsimp only at hg
  split at hg
  · rename_i h
    rw [Bool.and_eq_true] at h
    cases hg
    exact ⟨d, _, hx.dv.dp (SeqAt.canLay_of_shaped h.1), hy.dv.dp (SeqAt.canLay_of_shaped h.2), h.1, h.2, k _ H (Same.refl H) (.bl _)⟩
  · cases hg
theorem opd_notInD : OpD X (rNotInD X.K) (gIn true) := fun c O H x y d e z Q m hx hy hg k => by
  unfold gIn at hg
  cases e <;> first | (cases hg; done) | skip
  dsimp only at hg
  split at hg
  · rename_i h
    rw [Bool.and_eq_true] at h
    cases hg
    exact ⟨d, _, hx.dv.dp (SeqAt.canLay_of_shaped h.1), hy.dv.dp (SeqAt.canLay_of_shaped h.2), h.1, h.2, k _ H (Same.refl H) (.bl _)⟩
  · cases hg
/-- .. flat items in a tuple or a list -/
def flatD : PyData → Bool
  | .none => true
  | .bool _ => true
  | .int _ => true
  | .str _ => true
  | _ => false
def gInF (neg : Bool) : PyData → PyData → Option PyData := fun d e => match e with
  | .tuple es => if (flatD d && es.all flatD) = true then some (.bool (if neg then !(es.any fun z => PyData.eqv z d) else es.any fun z => PyData.eqv z d)) else none
  | _ => none
theorem flat_dv {K : PySem.W.Frag} {v : V} {d : PyData} (h : Dv K H v d) (e : flatD d = true) : flatV v = true := by
  cases h <;> first | rfl | cases e
theorem flat_dvs {K : PySem.W.Frag} : ∀ {vs : List V} {ds : List PyData}, Dvs K H vs ds → ds.all flatD = true → vs.all flatV = true
  | _, _, .nil, _ => rfl
  | _, _, .cons h t, e => by
    rw [List.all_cons, Bool.and_eq_true] at e ⊢
    exact ⟨flat_dv h e.1, flat_dvs t e.2⟩
theorem eqv_flat {K : PySem.W.Frag} {v w : V} {d e : PyData} (h : Dv K H v d) (h' : Dv K H w e) (f : flatD d = true) (f' : flatD e = true) : eqV v w = PyData.eqv d e := by
  cases h <;> first | (cases f; done) | skip
  all_goals (cases h' <;> first | (cases f'; done) | skip)
  all_goals first | rfl | (unfold eqV PyData.eqv; simp) | skip
end
end
end DL

set_option Elab.async false
set_option linter.all false
set_option maxRecDepth 100000
set_option maxHeartbeats 1000000
namespace DL
open PySem PySem.Spec L2 PyProof.Rows
set_option autoImplicit false

section
variable {X : Cx} {c : Dc} {O : List Addr} {σ : DL.St} {H H1 : Hp} {a b e : Expr} {es : List Expr} {pos : Pos} {fa fb f : DE} {ta tb : DT}

/-! ### tests -/
def dAndT (f g : DT) : DT := fun env => do
  let k ← f env
  if k = true then g env else .ok false
def dOrT (f g : DT) : DT := fun env => do
  let k ← f env
  if k = true then .ok true else g env
def dNotT (f : DT) : DT := fun env => do
  let k ← f env
  .ok (!k)
theorem w_and1 (h : ET X c a ta) : EW X c (.BoolOp .And [a] pos) ta := pw_and1 h
theorem w_or1 (h : ET X c a ta) : EW X c (.BoolOp .Or [a] pos) ta := pw_or1 h
theorem w_and (h : ET X c a ta) (h' : EW X c (.BoolOp .And (b :: es) pos) tb) : EW X c (.BoolOp .And (a :: b :: es) pos) (dAndT ta tb) := PW.imp (pw_and h h') fun σ H Q ⟨O, env, rel, q⟩ =>
  ⟨O, env, rel, q.bind.imp fun k q1 H1 s1 => by
    cases k with
    | true => exact L2.iteT ⟨O, env, rel.ext s1, (show Res X c O σ H (tb env) _ from q1).ext s1 fun k' q2 H2 s2 => q2 H2 (s1.trans s2)⟩
    | false => exact L2.iteF (q1.ok H1 s1)⟩
theorem w_or (h : ET X c a ta) (h' : EW X c (.BoolOp .Or (b :: es) pos) tb) : EW X c (.BoolOp .Or (a :: b :: es) pos) (dOrT ta tb) := PW.imp (pw_or h h') fun σ H Q ⟨O, env, rel, q⟩ =>
  ⟨O, env, rel, q.bind.imp fun k q1 H1 s1 => by
    cases k with
    | true => exact L2.iteT (q1.ok H1 s1)
    | false => exact L2.iteF ⟨O, env, rel.ext s1, (show Res X c O σ H (tb env) _ from q1).ext s1 fun k' q2 H2 s2 => q2 H2 (s1.trans s2)⟩⟩
theorem t_w (h : EW X c a ta) : ET X c a ta := PW.pt h
theorem t_not (h : ET X c a ta) : ET X c (.UnaryOp .Not a pos) (dNotT ta) := PT.imp (pt_not h) fun σ H Q ⟨O, env, rel, q⟩ =>
  ⟨O, env, rel, q.bind.imp fun k q1 H1 s1 => q1.ok H1 s1⟩
/-- an expression that yields a bool, as a test -/
theorem t_val (h : EE X c e f) (he : ∀ whole, isTrue e X.env whole = (do let v ← whole; standAt e.pos; holding [v] (truthy v)) := by intro _; rfl) : ET X c e (dTest f) := PT.imp (pt_val h he) fun σ H Q h' => rd_test (fun Q' q => q) h'
/-- .. as values -/
def dAndV (f g : DE) : DE := fun env => do
  let x ← f env
  let k ← lift (dBool x)
  if k = true then g env else .ok (.bool false)
def dOrV (f g : DE) : DE := fun env => do
  let x ← f env
  let k ← lift (dBool x)
  if k = true then .ok (.bool true) else g env
def dNotV (f : DE) : DE := fun env => do
  let x ← f env
  let k ← lift (dBool x)
  .ok (.bool (!k))
theorem e_one {op : BoolOp} (h : EE X c a fa) : EE X c (.BoolOp op [a] pos) fa := pe_one h
theorem e_and (h : EE X c a fa) (h' : EE X c (.BoolOp .And (b :: es) pos) fb) : EE X c (.BoolOp .And (a :: b :: es) pos) (dAndV fa fb) := PE.imp (L2.pe_and h h') fun σ H Q ⟨O, env, rel, q⟩ =>
  ⟨O, env, rel, q.bind.imp fun d q1 v H1 s1 b1 => by
    obtain ⟨k, hk, q2⟩ := Res.lift (Res.bind q1)
    refine ⟨k, b1.bool hk, ?_⟩
    cases k with
    | true => exact L2.iteT ⟨O, env, rel.ext s1, (show Res X c O σ H (fb env) _ from q2).ext s1 fun k' q2 v' H2 s2 hv => q2 v' H2 (s1.trans s2) hv⟩
    | false => exact L2.iteF ((show Res X c O σ H (.ok (PyData.bool false)) _ from q2).ok _ H1 s1 (.bl false))⟩
theorem e_or (h : EE X c a fa) (h' : EE X c (.BoolOp .Or (b :: es) pos) fb) : EE X c (.BoolOp .Or (a :: b :: es) pos) (dOrV fa fb) := PE.imp (L2.pe_or h h') fun σ H Q ⟨O, env, rel, q⟩ =>
  ⟨O, env, rel, q.bind.imp fun d q1 v H1 s1 b1 => by
    obtain ⟨k, hk, q2⟩ := Res.lift (Res.bind q1)
    refine ⟨k, b1.bool hk, ?_⟩
    cases k with
    | true => exact L2.iteT ((show Res X c O σ H (.ok (PyData.bool true)) _ from q2).ok _ H1 s1 (.bl true))
    | false => exact L2.iteF ⟨O, env, rel.ext s1, (show Res X c O σ H (fb env) _ from q2).ext s1 fun k' q2 v' H2 s2 hv => q2 v' H2 (s1.trans s2) hv⟩⟩
theorem e_not (h : EE X c a fa) : EE X c (.UnaryOp .Not a pos) (dNotV fa) := PE.imp (L2.pe_not h) fun σ H Q ⟨O, env, rel, q⟩ =>
  ⟨O, env, rel, q.bind.imp fun d q1 v H1 s1 b1 => by
    obtain ⟨k, hk, q2⟩ := Res.lift (Res.bind q1)
    exact ⟨k, b1.bool hk, Res.ok q2 _ H1 s1 (.bl _)⟩⟩
/-- a if t else b -/
def dIf (t : DT) (f g : DE) : DE := fun env => do
  let k ← t env
  if k = true then f env else g env
theorem e_if {t : Expr} {ft : DT} (h : ET X c t ft) (ha : EE X c a fa) (hb : EE X c b fb) : EE X c (.IfExp t a b pos) (dIf ft fa fb) := PE.imp (pe_ifExp h ha hb) fun σ H Q ⟨O, env, rel, q⟩ =>
  ⟨O, env, rel, q.bind.imp fun k q1 H1 s1 => by
    cases k with
    | true => exact L2.iteT ⟨O, env, rel.ext s1, (show Res X c O σ H (fa env) _ from q1).ext s1 fun k' q2 v' H2 s2 hv => q2 v' H2 (s1.trans s2) hv⟩
    | false => exact L2.iteF ⟨O, env, rel.ext s1, (show Res X c O σ H (fb env) _ from q1).ext s1 fun k' q2 v' H2 s2 hv => q2 v' H2 (s1.trans s2) hv⟩⟩
theorem e_ifB {t : Expr} {ft : DT} (h : ET X c t ft) (ha : EB X c a fa) (hb : EB X c b fb) : EB X c (.IfExp t a b pos) (dIf ft fa fb) := PE.imp (pe_ifExp h ha hb) fun σ H Q ⟨O, env, rel, q⟩ =>
  ⟨O, env, rel, q.bind.imp fun k q1 H1 s1 => by
    cases k with
    | true => exact L2.iteT ⟨O, env, rel.ext s1, (show Res X c O σ H (fa env) _ from q1).ext s1 fun k' q2 v' H2 s2 hv => q2 v' H2 (s1.trans s2) hv⟩
    | false => exact L2.iteF ⟨O, env, rel.ext s1, (show Res X c O σ H (fb env) _ from q1).ext s1 fun k' q2 v' H2 s2 hv => q2 v' H2 (s1.trans s2) hv⟩⟩
/-- the truth of a list, a tuple, an int -/
def dTruth (d : PyData) : Option Bool := match d with
  | .list ds => some (!ds.isEmpty)
  | .tuple ds => some (!ds.isEmpty)
  | .int i => some (i != 0)
  | .none => some false
  | _ => none
theorem isEmpty_dvs {K : PySem.W.Frag} {vs : List V} {ds : List PyData} (h : Dvs K H vs ds) : vs.isEmpty = ds.isEmpty := by cases h <;> rfl

/-! ### a < b < c -/
def dChain (g g' : PyData → PyData → Option PyData) (fa fb fc : DE) : DE := fun env => do
  let x ← fa env
  let y ← fb env
  let z ← lift (g x y)
  let k ← lift (dBool z)
  if k = true then do
    let w ← fc env
    lift (g' y w)
  else .ok (.bool false)
theorem rd_chain {r r' : R2} {g g' : PyData → PyData → Option PyData} {fc : DE} (hd : OpD X r g) (hd' : OpD X r' g') {Q : VK} (h : rdE X c (dChain g g' fa fb fc) σ H Q) : tChain r r' (rdB X c fa) (rdB X c fb) (rdB X c fc) σ H Q := by
  obtain ⟨O, env, rel, q⟩ := h
  refine ⟨O, env, rel, q.bind.imp fun d q1 v H1 s1 b1 => ⟨O, env, rel.ext s1, (Res.bind q1).ext s1 fun e q2 w H2 s2 b2 => ?_⟩⟩
  obtain ⟨z, hz, q3⟩ := Res.lift (Res.bind q2)
  have m2 : ∀ a ∈ O, Mut (H2 a) := (rel.ext (s1.trans s2)).dom
  refine hd c O H2 v w d e z _ m2 (b1.ext s2) b2 hz fun v' H' s' hv => ?_
  obtain ⟨k, hk, q4⟩ := Res.lift (Res.bind q3)
  refine ⟨k, hv.bool hk, ?_⟩
  have s3 := (s1.trans s2).trans s'
  cases k with
  | false => exact L2.iteF ((show Res X c O σ H (.ok (PyData.bool false)) _ from q4).ok _ H' s3 (.bl false))
  | true =>
    refine L2.iteT ⟨O, env, rel.ext s3, (Res.bind (show Res X c O σ H (fc env >>= fun w => DL.lift (g' e w)) _ from q4)).ext s3 fun w4 q5 w' H4 s4 b4 => ?_⟩
    obtain ⟨z5, hz5, q6⟩ := Res.lift q5
    exact hd' c O H4 w w' e w4 z5 _ (rel.ext (s3.trans s4)).dom (b2.ext (s'.trans s4)) b4 hz5 fun v6 H6 s6 hv6 => q6 v6 H6 ((s3.trans s4).trans s6) hv6
theorem e_chain {op op' : CmpOp} {r r' : R2} {g g' : PyData → PyData → Option PyData} {ec : Expr} {fc : DE} (ho : OpR X (compareOp op) r) (ho' : OpR X (compareOp op') r') (hd : OpD X r g) (hd' : OpD X r' g') (ha : EB X c a fa) (hb : EB X c b fb) (hc : EB X c ec fc)
    (hm : lastMarks [op, op'] [b, ec] = false := by with_unfolding_all rfl) : EE X c (.Compare a [op, op'] [b, ec] pos) (dChain g g' fa fb fc) := PE.imp (pe_chain ho ho' ha hb hc hm) fun σ H Q h => rd_chain hd hd' h
theorem t_chain {op op' : CmpOp} {r r' : R2} {g g' : PyData → PyData → Option PyData} {ec : Expr} {fc : DE} (ho : OpR X (compareOp op) r) (ho' : OpR X (compareOp op') r') (hd : OpD X r g) (hd' : OpD X r' g') (ha : EB X c a fa) (hb : EB X c b fb) (hc : EB X c ec fc)
    (hm : lastMarks [op, op'] [b, ec] = false := by with_unfolding_all rfl) : ET X c (.Compare a [op, op'] [b, ec] pos) (dTest (dChain g g' fa fb fc)) := PT.imp (pt_chain ho ho' ha hb hc hm) fun σ H Q h => rd_test (fun Q' q => rd_chain hd hd' q) h

/-! ### unary minus -/
def dNeg (f : DE) : DE := fun env => do
  let x ← f env
  lift (match x with | .int i => some (.int (-i)) | _ => none)
theorem e_neg (h : EB X c a fa) : EE X c (.UnaryOp .USub a pos) (dNeg fa) := PE.imp (pe_un un_neg h) fun σ H Q ⟨O, env, rel, q⟩ =>
  ⟨O, env, rel, q.bind.imp fun d q1 v H1 s1 b1 => by
    obtain ⟨z, hz, q2⟩ := q1.lift
    cases d <;> first | (cases hz; done) | skip
    cases hz
    exact ⟨_, b1.int, q2 _ H1 s1 (.int _)⟩⟩

/-! ### items, slices -/
def gIx : PyData → PyData → Option PyData
  | .list ds, .int i => atI ds i
  | .tuple ds, .int i => atI ds i
  | _, _ => none
theorem Dvs.atI {K : PySem.W.Frag} {vs : List V} {ds : List PyData} {i : Int} {z : PyData} (h : Dvs K H vs ds) (e : L2.atI ds i = some z) : ∃ v, L2.atI vs i = some v ∧ Dv K H v z := by
  unfold L2.atI at e ⊢
  rw [h.length]
  cases q : ixN ds.length i with
  | none => rw [q] at e; cases e
  | some j =>
    rw [q] at e
    exact h.get e
def dIx (fa fb : DE) : DE := fun env => dBin gIx fa fb env
theorem opd_ix : OpD X (fun x y H Q => rIxL X.K x y H Q ∨ rIxT X.K x y H Q) gIx := fun c O H x y d e z Q m hx hy hg k => by
  cases d <;> cases e <;> first | (cases hg; done) | skip
  · obtain ⟨a, xs, rfl, h1, d1⟩ := hx.lst
    obtain ⟨v, h2, h3⟩ := d1.atI hg
    exact .inl ⟨a, xs, _, v, rfl, hy.int, h1, h2, k v H (Same.refl H) h3⟩
  · obtain ⟨a, xs, rfl, h1, _, d1⟩ := hx.tup
    obtain ⟨v, h2, h3⟩ := d1.atI hg
    exact .inr ⟨a, xs, _, v, rfl, hy.int, h1, h2, k v H (Same.refl H) h3⟩
theorem e_ix (ha : EB X c a fa) (hb : EB X c b fb) (hs : PlainIx b := by intro _ _; rfl) : EE X c (.Subscript a b pos) (dIx fa fb) := PE.imp (pe_ix (ix_list.or ix_tup) ha hb hs) fun σ H Q h => rd_bin opd_ix h
abbrev DO := Ev → R (Option Int)
def rdO (X : Cx) (c : Dc) (f : DO) : TO := fun σ H Q => ∃ O env, Rel X.K c O H env σ ∧ Res X c O σ H (f env) fun o => ∀ H', Same H H' → Q o H'
def oNo : DO := fun _ => .ok none
def gInt : PyData → Option Int
  | .int i => some i
  | _ => none
def oPart (f : DE) : DO := fun env => do
  let x ← f env
  let i ← lift (gInt x)
  .ok (some i)
theorem PO.imp {o : Option Expr} {t t' : TO} (h : PO X o t) (i : ∀ σ H Q, t' σ H Q → t σ H Q) : PO X o t' := ⟨fun pins s σ H Q I q => h.run pins s σ H Q I (i σ H Q q)⟩
theorem o_none : PO X none (rdO X c oNo) := PO.imp po_none fun σ H Q ⟨O, env, rel, q⟩ => q.ok H (Same.refl H)
theorem Bv.gint {K : PySem.W.Frag} {v : V} {d : PyData} {i : Int} (h : Bv K c O H v d) (e : gInt d = some i) : v = .int i := by
  cases d <;> first | (cases e; done) | skip
  cases e
  exact h.int
theorem o_some (h : EB X c a fa) : PO X (some a) (rdO X c (oPart fa)) := PO.imp (po_some h) fun σ H Q ⟨O, env, rel, q⟩ => ⟨O, env, rel, q.bind.imp fun d q1 v H1 s1 b1 => by
    obtain ⟨i, hi, q2⟩ := Res.lift (Res.bind q1)
    exact ⟨i, b1.gint hi, Res.ok q2 H1 s1⟩⟩
def cutA {α : Type} (xs : List α) (lo hi : Option Int) : List α := (xs.drop (HT.sIx xs.length 0 lo)).take (HT.sIx xs.length xs.length hi - HT.sIx xs.length 0 lo)
theorem Dvs.cut {K : PySem.W.Frag} {vs : List V} {ds : List PyData} (h : Dvs K H vs ds) (lo hi : Option Int) : Dvs K H (cutV vs lo hi) (cutA ds lo hi) := by
  unfold cutV cutA
  rw [h.length]
  exact (h.drop _).take _
def gSl (d : PyData) (lo hi : Option Int) : Option PyData := match d with
  | .list ds => some (.list (cutA ds lo hi))
  | .tuple ds => some (.tuple (cutA ds lo hi))
  | _ => none
def dSl (f : DE) (l u : DO) : DE := fun env => do
  let x ← f env
  let lo ← l env
  let hi ← u env
  lift (gSl x lo hi)
theorem cut_all {α : Type} {xs : List α} {lo hi : Option Int} (h : HT.sIx xs.length 0 lo = 0 ∧ HT.sIx xs.length xs.length hi = xs.length) : cutA xs lo hi = xs := by
  unfold cutA
  rw [h.1, h.2, List.drop_zero, Nat.sub_zero, List.take_length]
theorem e_sl {lo hi : Option Expr} {l u : DO} {p2 : Pos} (ha : EB X c a fa) (hl : PO X lo (rdO X c l)) (hu : PO X hi (rdO X c u)) : EE X c (.Subscript a (.Slice lo hi none p2) pos) (dSl fa l u) :=
  PE.imp (pe_slice (sl_list.or sl_tupA) ha hl hu) fun σ H Q ⟨O, env, rel, q⟩ => by
    refine ⟨O, env, rel, q.bind.imp fun d q1 v H1 s1 b1 => ⟨O, env, rel.ext s1, (Res.bind q1).ext s1 fun lo q2 H2 s2 => ⟨O, env, rel.ext (s1.trans s2), (Res.bind q2).ext (s1.trans s2) fun hi q3 H3 s3 => ?_⟩⟩⟩
    obtain ⟨z, hz, q4⟩ := q3.lift
    have s := (s1.trans s2).trans s3
    have m : ∀ a ∈ O, Mut (H3 a) := (rel.ext s).dom
    have b3 := b1.ext (s2.trans s3)
    unfold gSl at hz
    cases d <;> first | (cases hz; done) | skip
    · cases hz
      obtain ⟨a, xs, rfl, h1, d1⟩ := b3.lst
      exact .inl ⟨a, xs, rfl, h1, fun p np => q4 _ _ (s.trans (same_upd np)) (.newL m np (d1.cut lo hi))⟩
    · cases hz
      obtain ⟨a, xs, rfl, h1, h1', d1⟩ := b3.tup
      refine .inr ⟨a, xs, rfl, h1, fun w => ?_, fun _ p np => q4 _ _ (s.trans (same_upd np)) (.newT m np (d1.cut lo hi))⟩
      rw [d1.length] at w
      rw [cut_all w] at q4
      exact q4 _ _ s (.tup h1' d1)

/-! ### displays, arguments -/
def dNil : DA := fun _ => .ok []
def dCons (f : DE) (g : DA) : DA := fun env => do
  let x ← f env
  let xs ← g env
  .ok (x :: xs)
theorem a_nil : EA X c [] dNil := PA.imp pa_nil fun σ H Q ⟨O, env, rel, q⟩ => q.ok [] H (Same.refl H) .nil
theorem a_cons {g : DA} (h : EE X c e f) (hr : EA X c es g) (hs : starEach (e :: es) X.env = (false, eval e X.env) :: starEach es X.env := by rfl) : EA X c (e :: es) (dCons f g) := PA.imp (pa_cons h hr hs) fun σ H Q ⟨O, env, rel, q⟩ =>
  ⟨O, env, rel, q.bind.imp fun d q1 v H1 s1 b1 => ⟨O, env, rel.ext s1, (Res.bind q1).ext s1 fun ds q2 vs H2 s2 b2 => Res.ok q2 _ H2 (s1.trans s2) (.cons (b1.same (hide_same s2)) b2)⟩⟩
theorem b_nil : EBs X c [] dNil := PA.imp pa_nil fun σ H Q ⟨O, env, rel, q⟩ => q.ok [] H (Same.refl H) .nil
theorem b_cons {g : DA} (h : EB X c e f) (hr : EBs X c es g) (hs : starEach (e :: es) X.env = (false, eval e X.env) :: starEach es X.env := by rfl) : EBs X c (e :: es) (dCons f g) := PA.imp (pa_cons h hr hs) fun σ H Q ⟨O, env, rel, q⟩ =>
  ⟨O, env, rel, q.bind.imp fun d q1 v H1 s1 b1 => ⟨O, env, rel.ext s1, (Res.bind q1).ext s1 fun ds q2 vs H2 s2 b2 => Res.ok q2 _ H2 (s1.trans s2) (.cons (b1.ext s2) b2)⟩⟩
def dTup (g : DA) : DE := fun env => do
  let ds ← g env
  lift (if ds.length < LIM then some (.tuple ds) else none)
def dLst (g : DA) : DE := fun env => do
  let ds ← g env
  lift (if ds.length < LIM then some (.list ds) else none)
theorem ite_some {α : Type} {p : Prop} [Decidable p] {a z : α} (h : (if p then some a else none) = some z) : p ∧ z = a := by
  split at h
  · rename_i hp; cases h; exact ⟨hp, rfl⟩
  · cases h
theorem e_tup {g : DA} {k : Nat} (h : EA X c es g) : EE X c (.Tuple es k pos) (dTup g) := PE.imp (pe_tup h) fun σ H Q ⟨O, env, rel, q⟩ =>
  ⟨O, env, rel, q.bind.imp fun ds q1 vs H1 s1 b1 => by
    obtain ⟨z, hz, q2⟩ := q1.lift
    obtain ⟨hl, rfl⟩ := ite_some hz
    exact ⟨by rw [b1.length]; exact lim_le hl, fun p np => q2 _ _ (s1.trans (same_upd np)) (.newT (rel.ext s1).dom np b1)⟩⟩
theorem e_lst {g : DA} (h : EA X c es g) : EE X c (.List es pos) (dLst g) := PE.imp (pe_lst h) fun σ H Q ⟨O, env, rel, q⟩ =>
  ⟨O, env, rel, q.bind.imp fun ds q1 vs H1 s1 b1 => by
    obtain ⟨z, hz, q2⟩ := q1.lift
    obtain ⟨hl, rfl⟩ := ite_some hz
    exact ⟨by rw [b1.length]; exact lim_le hl, fun p np => q2 _ _ (s1.trans (same_upd np)) (.newL (rel.ext s1).dom np b1)⟩⟩
/-- a new list, held by nobody -/
def dLstF (g : DA) : DA := fun env => do
  let ds ← g env
  lift (if ds.length < LIM then some ds else none)
/-- items that stand are none of a new address -/
theorem hide_cons {p : Addr} {o : HO} (n : H p = none) : Same (hide O H) (hide (p :: O) (upd H p o)) := fun a u e => by
  by_cases h : a ∈ O
  · rw [hide_in h] at e; cases e
  · rw [hide_out h] at e
    have ha : a ≠ p := ne_of_none e n
    rw [hide_out (by simp [ha, h]), upd_ne ha]; exact e
theorem f_lst {g : DA} (h : EA X c es g) : EF X c (.List es pos) (dLstF g) := PE.imp (pe_lst h) fun σ H Q ⟨O, env, rel, q⟩ =>
  ⟨O, env, rel, q.bind.imp fun ds q1 vs H1 s1 b1 => by
    obtain ⟨z, hz, q2⟩ := q1.lift
    obtain ⟨hl, rfl⟩ := ite_some hz
    exact ⟨by rw [b1.length]; exact lim_le hl, fun p np => q2 p vs _ (s1.trans (same_upd np)) (s1.free np) upd_same (b1.same (hide_cons np))⟩⟩

/-! ### calls -/
/-- a built-in's call by data -/
def CallD (X : Cx) (r : List V → Hp → VK → Prop) (g : List PyData → Option PyData) : Prop := ∀ (c : Dc) (O : List Addr) (H : Hp) (vs : List V) (ds : List PyData) (z : PyData) (Q : VK), (∀ a ∈ O, Mut (H a)) → Bvs X.K c O H vs ds → g ds = some z →
  (∀ v H', Same H H' → Dv X.K (hide O H') v z → Q v H') → r vs H Q
def dCallG (g : List PyData → Option PyData) (args : DA) : DE := fun env => do
  let ds ← args env
  lift (g ds)
theorem rd_callG {r : List V → Hp → VK → Prop} {g : List PyData → Option PyData} {args : DA} (hd : CallD X r g) {Q : VK} (h : rdE X c (dCallG g args) σ H Q) : tCB r (rdBs X c args) σ H Q := by
  obtain ⟨O, env, rel, q⟩ := h
  refine ⟨O, env, rel, q.bind.imp fun ds q1 vs H1 s1 b1 => ?_⟩
  obtain ⟨z, hz, q2⟩ := q1.lift
  exact hd c O H1 vs ds z Q (rel.ext s1).dom b1 hz fun v H' s' hv => q2 v H' (s1.trans s') hv
theorem e_callB {id : String} {x : Str} {p : Pos} {r : List V → Hp → VK → Prop} {g : List PyData → Option PyData} {args : DA} (hc : CallR X (.builtin id) r) (hd : CallD X r g) (hm : X.mg x = none) (hv : bootBuiltins x = some (.builtin id)) (ha : EBs X c (e :: es) args) (hg : Gl X x := by rfl) (hn : x ≠ "__name__" := by decide) (hdb : (x == ("__debug__" : Str)) = false := by decide)
    (he : starEach (e :: es) X.env = (false, eval e X.env) :: starEach es X.env := by rfl) (hpl : (backTo pos (starEach es X.env)).any (·.1) = false := by rfl) : EE X c (.Call (.Name x p) (e :: es) [] pos) (dCallG g args) :=
  PE.imp (pe_callB hc hg hm hv ha hn hdb he hpl) fun σ H Q h => rd_callG hd h
theorem e_callTy {T : String} {x : Str} {p : Pos} {r : List V → Hp → VK → Prop} {g : List PyData → Option PyData} {args : DA} (hc : CallR X (.type T) r) (hd : CallD X r g) (hm : X.mg x = none) (hv : bootBuiltins x = some (.type T)) (ha : EBs X c (e :: es) args) (hg : Gl X x := by rfl) (hn : x ≠ "__name__" := by decide) (hdb : (x == ("__debug__" : Str)) = false := by decide)
    (he : starEach (e :: es) X.env = (false, eval e X.env) :: starEach es X.env := by rfl) (hpl : (backTo pos (starEach es X.env)).any (·.1) = false := by rfl) : EE X c (.Call (.Name x p) (e :: es) [] pos) (dCallG g args) :=
  PE.imp (pe_callTy hc hg hm hv ha hn hdb he hpl) fun σ H Q h => rd_callG hd h
theorem Bvs.one {K : PySem.W.Frag} {vs : List V} {d : PyData} (h : Bvs K c O H vs [d]) : ∃ v, vs = [v] ∧ Bv K c O H v d := by
  cases h with
  | cons h t => cases t; exact ⟨_, rfl, h⟩
theorem Bvs.two {K : PySem.W.Frag} {vs : List V} {d d' : PyData} (h : Bvs K c O H vs [d, d']) : ∃ v v', vs = [v, v'] ∧ Bv K c O H v d ∧ Bv K c O H v' d' := by
  cases h with
  | cons h t => cases t with
    | cons h' t => cases t; exact ⟨_, _, rfl, h, h'⟩
def gLen : List PyData → Option PyData
  | [.list ds] => some (.int ds.length)
  | [.tuple ds] => some (.int ds.length)
  | _ => none
theorem cd_len : CallD X (fun xs H Q => ∃ x n, xs = [x] ∧ LenV X.K x H n ∧ Q (.int n) H) gLen := fun c O H vs ds z Q m h hg k => by
  unfold gLen at hg
  split at hg
  · cases hg
    obtain ⟨v, rfl, b⟩ := h.one
    obtain ⟨a, xs, rfl, h1, d1⟩ := b.lst
    exact ⟨_, _, rfl, .inl ⟨xs, h1, d1.length.symm⟩, k _ H (Same.refl H) (.int _)⟩
  · cases hg
    obtain ⟨v, rfl, b⟩ := h.one
    obtain ⟨a, xs, rfl, h1, _, d1⟩ := b.tup
    exact ⟨_, _, rfl, .inr ⟨xs, h1, d1.length.symm⟩, k _ H (Same.refl H) (.int _)⟩
  · cases hg
def gAbs : List PyData → Option PyData
  | [.int i] => some (.int (if i < 0 then -i else i))
  | _ => none
theorem cd_abs : CallD X (fun xs H Q => ∃ i, xs = [.int i] ∧ Q (.int (if i < 0 then -i else i)) H) gAbs := fun c O H vs ds z Q m h hg k => by
  unfold gAbs at hg
  split at hg
  · cases hg
    obtain ⟨v, rfl, b⟩ := h.one
    exact ⟨_, by rw [b.int], k _ H (Same.refl H) (.int _)⟩
  · cases hg
def gMax2 : List PyData → Option PyData
  | [.int i, .int j] => some (.int (if j > i then j else i))
  | _ => none
def gMin2 : List PyData → Option PyData
  | [.int i, .int j] => some (.int (if j < i then j else i))
  | _ => none
theorem cd_max2 : CallD X (fun xs H Q => ∃ i j, xs = [.int i, .int j] ∧ Q (.int (if j > i then j else i)) H) gMax2 := fun c O H vs ds z Q m h hg k => by
  unfold gMax2 at hg
  split at hg
  · cases hg
    obtain ⟨v, w, rfl, b, b'⟩ := h.two
    exact ⟨_, _, by rw [b.int, b'.int], k _ H (Same.refl H) (.int _)⟩
  · cases hg
theorem cd_min2 : CallD X (fun xs H Q => ∃ i j, xs = [.int i, .int j] ∧ Q (.int (if j < i then j else i)) H) gMin2 := fun c O H vs ds z Q m h hg k => by
  unfold gMin2 at hg
  split at hg
  · cases hg
    obtain ⟨v, w, rfl, b, b'⟩ := h.two
    exact ⟨_, _, by rw [b.int, b'.int], k _ H (Same.refl H) (.int _)⟩
  · cases hg
def gIntOf : List PyData → Option PyData
  | [.int i] => some (.int i)
  | _ => none
theorem cd_int1 : CallD X (fun xs H Q => (∃ i, xs = [.int i] ∧ Q (.int i) H) ∨ ∃ k, xs = [.bl k] ∧ Q (.int (if k then 1 else 0)) H) gIntOf := fun c O H vs ds z Q m h hg k => by
  unfold gIntOf at hg
  split at hg
  · cases hg
    obtain ⟨v, rfl, b⟩ := h.one
    exact .inl ⟨_, by rw [b.int], k _ H (Same.refl H) (.int _)⟩
  · cases hg
def gTuple : List PyData → Option PyData
  | [.list ds] => some (.tuple ds)
  | [.tuple ds] => some (.tuple ds)
  | _ => none
theorem cd_tuple : CallD X (fun xs H Q => ∃ p ys, xs = [.ref p] ∧ ((SqL X.K H p ys ∧ ∀ l, H l = none → Q (.ref l) (upd H l (.tup ys))) ∨ (SqT X.K H p ys ∧ Q (.ref p) H))) gTuple := fun c O H vs ds z Q m h hg k => by
  unfold gTuple at hg
  split at hg
  · cases hg
    obtain ⟨v, rfl, b⟩ := h.one
    obtain ⟨a, xs, rfl, h1, d1⟩ := b.lst
    exact ⟨a, xs, rfl, .inl ⟨h1, fun p np => k _ _ (same_upd np) (.newT m np d1)⟩⟩
  · cases hg
    obtain ⟨v, rfl, b⟩ := h.one
    obtain ⟨a, xs, rfl, h1, h1', d1⟩ := b.tup
    exact ⟨a, xs, rfl, .inr ⟨h1, k _ _ (Same.refl H) (.tup h1' d1)⟩⟩
  · cases hg
def gList : List PyData → Option PyData
  | [.list ds] => some (.list ds)
  | [.tuple ds] => some (.list ds)
  | _ => none
theorem cd_list : CallD X (fun xs H Q => ∃ p ys, xs = [.ref p] ∧ (SqL X.K H p ys ∨ SqT X.K H p ys) ∧ ∀ l, H l = none → Q (.ref l) (upd H l (.lst ys))) gList := fun c O H vs ds z Q m h hg k => by
  unfold gList at hg
  split at hg
  · cases hg
    obtain ⟨v, rfl, b⟩ := h.one
    obtain ⟨a, xs, rfl, h1, d1⟩ := b.lst
    exact ⟨a, xs, rfl, .inl h1, fun p np => k _ _ (same_upd np) (.newL m np d1)⟩
  · cases hg
    obtain ⟨v, rfl, b⟩ := h.one
    obtain ⟨a, xs, rfl, h1, h1', d1⟩ := b.tup
    exact ⟨a, xs, rfl, .inr h1, fun p np => k _ _ (same_upd np) (.newL m np d1)⟩
  · cases hg
/-- lists of ints, of bools -/
def intsOf : List PyData → Option (List Int)
  | [] => some []
  | .int i :: ds => (intsOf ds).map (i :: ·)
  | _ :: _ => none
def boolsOf : List PyData → Option (List Bool)
  | [] => some []
  | .bool i :: ds => (boolsOf ds).map (i :: ·)
  | _ :: _ => none
theorem intsOf_eq : ∀ {ds : List PyData} {ns : List Int}, intsOf ds = some ns → ds = ns.map PyData.int
  | [], ns, h => by cases h; rfl
  | .int i :: ds, ns, h => by
    unfold intsOf at h
    obtain ⟨ms, h1, rfl⟩ := Option.map_eq_some_iff.mp h
    rw [intsOf_eq h1]; rfl
  | .none :: _, _, h => by cases h
  | .bool _ :: _, _, h => by cases h
  | .str _ :: _, _, h => by cases h
  | .list _ :: _, _, h => by cases h
  | .tuple _ :: _, _, h => by cases h
  | .dict _ :: _, _, h => by cases h
theorem boolsOf_eq : ∀ {ds : List PyData} {ns : List Bool}, boolsOf ds = some ns → ds = ns.map PyData.bool
  | [], ns, h => by cases h; rfl
  | .bool i :: ds, ns, h => by
    unfold boolsOf at h
    obtain ⟨ms, h1, rfl⟩ := Option.map_eq_some_iff.mp h
    rw [boolsOf_eq h1]; rfl
  | .none :: _, _, h => by cases h
  | .int _ :: _, _, h => by cases h
  | .str _ :: _, _, h => by cases h
  | .list _ :: _, _, h => by cases h
  | .tuple _ :: _, _, h => by cases h
  | .dict _ :: _, _, h => by cases h
theorem intsOf_map : ∀ ns : List Int, intsOf (ns.map PyData.int) = some ns
  | [] => rfl
  | n :: ns => by show (intsOf (ns.map PyData.int)).map (n :: ·) = _; rw [intsOf_map ns]; rfl
theorem boolsOf_map : ∀ ns : List Bool, boolsOf (ns.map PyData.bool) = some ns
  | [] => rfl
  | n :: ns => by show (boolsOf (ns.map PyData.bool)).map (n :: ·) = _; rw [boolsOf_map ns]; rfl
theorem dvs_ints {K : PySem.W.Frag} : ∀ {vs : List V} {ns : List Int}, Dvs K H vs (ns.map PyData.int) → vs = ns.map V.int
  | _, [], h => by cases h; rfl
  | _, n :: ns, h => by cases h with | cons h t => cases h; rw [dvs_ints t]; rfl
theorem dvs_bools {K : PySem.W.Frag} : ∀ {vs : List V} {ns : List Bool}, Dvs K H vs (ns.map PyData.bool) → vs = ns.map V.bl
  | _, [], h => by cases h; rfl
  | _, n :: ns, h => by cases h with | cons h t => cases h; rw [dvs_bools t]; rfl
def gAll : List PyData → Option PyData
  | [.list ds] => (boolsOf ds).map fun bs => .bool (bs.all id)
  | _ => none
def gAny : List PyData → Option PyData
  | [.list ds] => (boolsOf ds).map fun bs => .bool (bs.any id)
  | _ => none
def gSum : List PyData → Option PyData
  | [.list ds] => (intsOf ds).map fun ns => .int ns.sum
  | _ => none
theorem cd_all : CallD X (rAll X.K) gAll := fun c O H vs ds z Q m h hg k => by
  unfold gAll at hg
  split at hg
  · obtain ⟨bs, hb, rfl⟩ := Option.map_eq_some_iff.mp hg
    obtain ⟨v, rfl, b⟩ := h.one
    obtain ⟨a, xs, rfl, h1, d1⟩ := b.lst
    rw [boolsOf_eq hb] at d1
    rw [dvs_bools d1] at h1
    exact ⟨a, bs, rfl, h1, k _ H (Same.refl H) (.bl _)⟩
  · cases hg
theorem cd_any : CallD X (rAny X.K) gAny := fun c O H vs ds z Q m h hg k => by
  unfold gAny at hg
  split at hg
  · obtain ⟨bs, hb, rfl⟩ := Option.map_eq_some_iff.mp hg
    obtain ⟨v, rfl, b⟩ := h.one
    obtain ⟨a, xs, rfl, h1, d1⟩ := b.lst
    rw [boolsOf_eq hb] at d1
    rw [dvs_bools d1] at h1
    exact ⟨a, bs, rfl, h1, k _ H (Same.refl H) (.bl _)⟩
  · cases hg
theorem cd_sum : CallD X (rSum X.K) gSum := fun c O H vs ds z Q m h hg k => by
  unfold gSum at hg
  split at hg
  · obtain ⟨bs, hb, rfl⟩ := Option.map_eq_some_iff.mp hg
    obtain ⟨v, rfl, b⟩ := h.one
    obtain ⟨a, xs, rfl, h1, d1⟩ := b.lst
    rw [intsOf_eq hb] at d1
    rw [dvs_ints d1] at h1
    exact ⟨a, bs, rfl, h1, k _ H (Same.refl H) (.int _)⟩
  · cases hg

/-! ### isinstance with a built-in class -/
def tyName : PyData → String
  | .none => "NoneType"
  | .bool _ => "bool"
  | .int _ => "int"
  | .str _ => "str"
  | .list _ => "list"
  | .tuple _ => "tuple"
  | .dict _ => "dict"
def isiD (T : String) (d : PyData) : Option Bool := match d with
  | .dict _ => none
  | d => kitB (tyName d) T
def dIsi (T : String) (f : DE) : DE := fun env => do
  let x ← f env
  lift ((isiD T x).map .bool)
theorem sqT_ty {K : PySem.W.Frag} {a : Addr} {xs : List V} (h : SqT K H a xs) : TyX K H (.ref a) (.type "tuple") := by
  rcases h with (h | ⟨o, h⟩) | ⟨o, its, n, h1, h2, _⟩
  · exact .base (.tup h)
  · exact .fTuple h
  · exact .kTuple h1 h2
theorem rd_ty {K : PySem.W.Frag} {a : Addr} {xs : List V} (h : SqL K H a xs) : TyX K H (.ref a) (.type "list") := by
  rcases h with (h | ⟨o, h⟩) | ⟨o, its, n, h1, h2, _⟩
  · exact .base (.lst h)
  · exact .base (.frz h)
  · exact .kList h1 h2
theorem dv_ty {K : PySem.W.Frag} {v : V} {d : PyData} (h : Dv K H v d) : TyX K H v (.type (tyName d)) := by
  cases h with
  | non => exact .base .non
  | bl b => exact .base (.bl b)
  | int i => exact .base (.int i)
  | str x => exact .base (.str x)
  | lst h _ => exact rd_ty h
  | tup h _ => exact sqT_ty h
  | dct h _ _ =>
    rcases h with h | ⟨o, h⟩
    · exact .base (.dK h)
    · exact .fDict h
theorem isi_kit {K : PySem.W.Frag} {T : String} {d : PyData} {b : Bool} (h : isiD T d = some b) : PySem.W.kitOne K (.type (tyName d)) (.type T) = some b := by
  cases d <;> first | (cases h; done) | exact kit_ty h
theorem e_isi (T : String) {tn : Str} {p p2 : Pos} (hm : X.mg "isinstance" = none) (hmT : X.mg tn = none) (hvT : bootBuiltins tn = some (.type T)) (ha : EB X c e f) (hg : Gl X "isinstance" := by rfl) (hgT : Gl X tn := by rfl) (hnT : tn ≠ "__name__" := by decide) (hdT : (tn == ("__debug__" : Str)) = false := by decide)
    (hs : starEach [e, .Name tn p2] X.env = (false, eval e X.env) :: starEach [.Name tn p2] X.env := by rfl) (hpl : (backTo pos (starEach [Expr.Name tn p2] X.env)).any (·.1) = false := by rfl) : EE X c (.Call (.Name "isinstance" p) [e, .Name tn p2] [] pos) (dIsi T f) :=
  PE.imp (pe_callB call_isi hg hm PyProof.Rows.boot_isinstance (pa_cons ha (pa_cons (pe_bltn (v := .ty T) hgT hmT hvT rfl hnT hdT) pa_nil) hs) (by decide) (by decide) hs hpl) fun σ H Q ⟨O, env, rel, q⟩ =>
    ⟨O, env, rel, q.bind.imp fun d q1 v H1 s1 b1 => by
      obtain ⟨z, hz, q2⟩ := q1.lift
      obtain ⟨b, hb, rfl⟩ := Option.map_eq_some_iff.mp hz
      exact ⟨v, .ty T, .type (tyName d), .type T, b, rfl, .ty T, dv_ty b1.dv, isi_kit hb, q2 _ H1 s1 (.bl b)⟩⟩
def dBits (f : DE) : DE := fun env => do
  let x ← f env
  lift (match x with | .int i => some (.int (Builtin.Int.intBits i : Nat)) | _ => none)
theorem e_bits {apos : Pos} (h : EB X c a fa) (hbase : attributeBase a "bit_length" X.env (eval a X.env) = eval a X.env := by rfl) (hline : (apos.endLine == pos.line) = true := by rfl) : EE X c (.Call (.Attribute a "bit_length" apos) [] [] pos) (dBits fa) := PE.imp (pe_bits h hbase hline) fun σ H Q ⟨O, env, rel, q⟩ =>
  ⟨O, env, rel, q.bind.imp fun d q1 v H1 s1 b1 => by
    obtain ⟨z, hz, q2⟩ := q1.lift
    cases d <;> first | (cases hz; done) | skip
    cases hz
    exact ⟨_, b1.int, q2 _ H1 s1 (.int _)⟩⟩
end
end DL

set_option Elab.async false
set_option linter.all false
set_option maxRecDepth 100000
set_option maxHeartbeats 1000000
namespace DL
open PySem PySem.Spec L2 PyProof.Rows
set_option autoImplicit false

/-! ### defs -/
def callN (n : Nat) (m : List PyData → R PyData) (ds : List PyData) : R PyData := match Nat.beq ds.length n with
  | true => m ds
  | false => .error .stuck
theorem callN_len {n : Nat} {m : List PyData → R PyData} {ds : List PyData} (h : callN n m ds ≠ .error .stuck) : ds.length = n := by
  unfold callN at h
  split at h
  · rename_i e; exact Nat.eq_of_beq_eq_true e
  · exact absurd rfl h
/-- the promise: it computes m -/
def spM (K : PySem.W.Frag) (mg : Str → Option Value) (n : Nat) (m : List PyData → R PyData) : Sp := fun vs H Q E => ∃ (O : List Addr) (ds : List PyData), (∀ a ∈ O, Mut (H a)) ∧ Dvs K (hide O H) vs ds ∧
  match callN n m ds with
  | .ok d => ∀ v H', Same H H' → Dv K (hide O H') v d → Q v H'
  | .error (.exc nm fs) => ∀ (cls : Value) (dd : Option Addr) (H' : Hp), Same H H' → ExcR mg K O H' nm fs cls dd → E cls dd H'
  | .error .stuck => False
theorem spM.len {K : PySem.W.Frag} {mg : Str → Option Value} {n : Nat} {m : List PyData → R PyData} {vs : List V} {H : Hp} {Q : VK} {E : XK} (h : spM K mg n m vs H Q E) : vs.length = n := by
  obtain ⟨O, ds, _, h1, h2⟩ := h
  have hn : callN n m ds ≠ .error .stuck := fun z => by
    rw [z] at h2
    exact h2
  rw [h1.length]
  exact callN_len hn
/-- a def that may be called -/
def Cal (P : Program) (w : World) (K : PySem.W.Frag) (mg : Str → Option Value) (base : Heap) (A : Around) (x : Str) (n : Nat) (m : List PyData → R PyData) : Prop :=
  ∃ (k : Nat) (f : Addr) (fd : FuncData) (ps : List Str), FnOk P w K mg base (L2.CX P w) k f fd ps (spM K mg n m) ∧ Room k A ∧ mg x = some (.ref f) ∧ PySem.W.keepIn K (.ref f) = true ∧ Binds K fd ps []

mutual
def noL : PyData → Bool
  | .list _ => false
  | .dict _ => false
  | .tuple ds => noLs ds
  | _ => true
def noLs : List PyData → Bool
  | [] => true
  | d :: ds => noL d && noLs ds
end
mutual
theorem Dv.noL {K : PySem.W.Frag} {H : Hp} {O O' : List Addr} (m : ∀ a ∈ O, Mut (H a)) : ∀ {v : V} {d : PyData}, Dv K (hide O' H) v d → DL.noL d = true → Dv K (hide O H) v d
  | _, _, .non, _ => .non
  | _, _, .bl b, _ => .bl b
  | _, _, .int i, _ => .int i
  | _, _, .str x, _ => .str x
  | _, _, .lst _ _, e => by simp only [DL.noL] at e; cases e
  | _, _, .dct _ _ _, e => by simp only [DL.noL] at e; cases e
  | _, _, .tup h t, e => by
    refine .tup ?_ (Dvs.noL m t (by simpa only [DL.noL] using e))
    rcases h with (h | ⟨o, h⟩) | h
    · have q := hide_le _ _ _ _ h
      exact .inl (.inl (by rw [hide_out fun z => by have y := m _ z; rw [q] at y; exact y]; exact q))
    · have q := hide_le _ _ _ _ h
      exact .inl (.inr ⟨o, by rw [hide_out fun z => by have y := m _ z; rw [q] at y; exact y]; exact q⟩)
    · exact .inr h
theorem Dvs.noL {K : PySem.W.Frag} {H : Hp} {O O' : List Addr} (m : ∀ a ∈ O, Mut (H a)) : ∀ {v : List V} {d : List PyData}, Dvs K (hide O' H) v d → DL.noLs d = true → Dvs K (hide O H) v d
  | _, _, .nil, _ => .nil
  | _, _, .cons h t, e => by
    simp only [DL.noLs, Bool.and_eq_true] at e
    exact .cons (Dv.noL m h e.1) (Dvs.noL m t e.2)
end

section
variable {X : Cx} {c : Dc} {O : List Addr} {σ : DL.St} {H H1 : Hp} {a b e : Expr} {es : List Expr} {pos : Pos} {fa fb f : DE} {ta tb : DT}
def dCall (n : Nat) (m : List PyData → R PyData) (args : DA) : DE := fun env => do
  let ds ← args env
  callN n m ds
theorem e_call {x : Str} {p : Pos} {n : Nat} {m : List PyData → R PyData} {args : DA} (C : Cal X.prog X.w X.K X.mg X.base X.A x n m) (tk : Takes X c.W) (ha : EA X c (e :: es) args) (hg : Gl X x := by rfl) (hdb : (x == ("__debug__" : Str)) = false := by decide)
    (he : starEach (e :: es) X.env = (false, eval e X.env) :: starEach es X.env := by rfl) (hpl : (backTo pos (starEach es X.env)).any (·.1) = false := by rfl) : EE X c (.Call (.Name x p) (e :: es) [] pos) (dCall n m args) := by
  obtain ⟨k, f, fd, ps, F, hr, hm, hk, hb⟩ := C
  refine PE.imp (pe_callS (E := WE c.W) F hr hg hm hk hb (fun σ => passAt tk σ) ha hdb he hpl) fun σ H Q ⟨O, env, rel, q⟩ =>
    ⟨O, env, rel, q.bind.imp fun ds q1 vs H1 s1 b1 => ⟨O, ds, (rel.ext s1).dom, b1, ?_⟩⟩
  show match callN n m ds with
    | .ok d => _
    | .error (.exc nm fs) => _
    | .error .stuck => False
  cases r : callN n m ds with
  | ok d =>
    rw [r] at q1
    exact fun v H' s' hv => q1.ok v H' (s1.trans s') hv
  | error e =>
    rw [r] at q1
    cases e with
    | stuck => exact q1
    | exc nm fs => exact fun cls dd H' s' hx => q1 cls dd H' (s1.trans s') hx
/-- .. handed what this def holds -/
def guardX : R PyData → R PyData
  | .ok d => if noL d = true then .ok d else .error .stuck
  | .error (.exc n fs) => if fs.all (fun p => noL p.2) = true then .error (.exc n fs) else .error .stuck
  | .error .stuck => .error .stuck
def dCallB (n : Nat) (m : List PyData → R PyData) (args : DA) : DE := fun env => do
  let ds ← args env
  guardX (callN n m ds)
theorem Bvs.dvs0 {K : PySem.W.Frag} : ∀ {vs : List V} {ds : List PyData}, Bvs K c O H vs ds → (∀ a ∈ c.O_0, a ∈ O) → Dvs K (hide c.O_0 H) vs ds
  | _, _, .nil, _ => .nil
  | _, _, .cons h t, s => .cons (h.dv0 s) (t.dvs0 s)
theorem ExcR.noL {mg : Str → Option Value} {K : PySem.W.Frag} {O O' : List Addr} {H : Hp} {n : Str} {fs : List (Str × PyData)} {cls : Value} {dd : Option Addr} (m : ∀ a ∈ O, Mut (H a)) (h : ExcR mg K O' H n fs cls dd) (e : fs.all (fun p => DL.noL p.2) = true) : ExcR mg K O H n fs cls dd := by
  obtain ⟨C, h1, h2, h3⟩ := h
  refine ⟨C, h1, h2, ?_⟩
  cases fs with
  | nil => trivial
  | cons p r =>
    cases r with
    | nil =>
      obtain ⟨q, v, a1, a2, a3⟩ := h3
      exact ⟨q, v, a1, a2, a3.noL m (by simpa using e)⟩
    | cons _ _ => exact h3
theorem e_callBs {x : Str} {p : Pos} {n : Nat} {m : List PyData → R PyData} {args : DA} (C : Cal X.prog X.w X.K X.mg X.base X.A x n m) (tk : Takes X c.W) (ha : EBs X c (e :: es) args) (hg : Gl X x := by rfl) (hdb : (x == ("__debug__" : Str)) = false := by decide)
    (he : starEach (e :: es) X.env = (false, eval e X.env) :: starEach es X.env := by rfl) (hpl : (backTo pos (starEach es X.env)).any (·.1) = false := by rfl) : EE X c (.Call (.Name x p) (e :: es) [] pos) (dCallB n m args) := by
  obtain ⟨k, f, fd, ps, F, hr, hm, hk, hb⟩ := C
  refine PE.imp (pe_callS (E := WE c.W) F hr hg hm hk hb (fun σ => passAt tk σ) ha hdb he hpl) fun σ H Q ⟨O, env, rel, q⟩ =>
    ⟨O, env, rel, q.bind.imp fun ds q1 vs H1 s1 b1 => ⟨c.O_0, ds, fun a ha => mut_same (rel.same.trans s1) (rel.dom0 a ha), b1.dvs0 rel.sub, ?_⟩⟩
  show match callN n m ds with
    | .ok d => _
    | .error (.exc nm fs) => _
    | .error .stuck => False
  cases r : callN n m ds with
  | ok d =>
    rw [r] at q1
    intro v H' s' hv
    by_cases hl : noL d = true
    · have q2 : Res X c O σ H (.ok d) (fun d => ∀ (v : V) (H' : Hp), Same H H' → Dv X.K (hide O H') v d → Q v H') := by simpa only [guardX, if_pos hl] using q1
      exact q2.ok v H' (s1.trans s') (hv.noL (rel.ext (s1.trans s')).dom hl)
    · have q2 : Res X c O σ H (.error .stuck) (fun d => ∀ (v : V) (H' : Hp), Same H H' → Dv X.K (hide O H') v d → Q v H') := by simpa only [guardX, if_neg hl] using q1
      exact q2.elim
  | error e =>
    rw [r] at q1
    cases e with
    | stuck => exact q1
    | exc nm fs =>
      intro cls dd H' s' hx
      by_cases hl : fs.all (fun p => noL p.2) = true
      · have q2 : Res X c O σ H (.error (.exc nm fs)) (fun d => ∀ (v : V) (H' : Hp), Same H H' → Dv X.K (hide O H') v d → Q v H') := by simpa only [guardX, if_pos hl] using q1
        exact q2 cls dd H' (s1.trans s') (hx.noL (rel.ext (s1.trans s')).dom hl)
      · have q2 : Res X c O σ H (.error .stuck) (fun d => ∀ (v : V) (H' : Hp), Same H H' → Dv X.K (hide O H') v d → Q v H') := by simpa only [guardX, if_neg hl] using q1
        exact q2.elim
end

/-! ### statements -/
def Out (X : Cx) (c : Dc) (D : Ends) (O : List Addr) (H : Hp) : Fl → Prop
  | .nx e => ∀ O' σ' H', Keep O H O' H' → Rel X.K c O' H' e σ' → D.nx σ' H'
  | .bk e => ∀ O' σ' H', Keep O H O' H' → Rel X.K c O' H' e σ' → D.bk σ' H'
  | .ct e => ∀ O' σ' H', Keep O H O' H' → Rel X.K c O' H' e σ' → D.ct σ' H'
  | .rt d => ∀ v H', Same c.H_0 H' → Dv X.K (hide c.O_0 H') v d → D.rt v H'
  | .ex e n fs => ∀ O' σ' H' cls dd, Keep O H O' H' → Rel X.K c O' H' e σ' → ExcR X.mg X.K O' H' n fs cls dd → c.W cls dd σ' H'
  | .stuck => False
def rdS (X : Cx) (c : Dc) (g : DS) : TS := fun D σ H => ∃ O env, Rel X.K c O H env σ ∧ Out X c D O H (g env)
abbrev SS (X : Cx) (c : Dc) (s : Stmt) (g : DS) : Prop := PS X s (rdS X c g)
abbrev SSs (X : Cx) (c : Dc) (s : List Stmt) (g : DS) : Prop := PSs X s (rdS X c g)
def dDo {α : Type} (r : R α) (k : α → Fl) (env : Ev) : Fl := match r with
  | .ok a => k a
  | .error (.exc n fs) => .ex env n fs
  | .error .stuck => .stuck
section
variable {X : Cx} {c : Dc} {D : Ends} {O O1 : List Addr} {σ : DL.St} {H H1 : Hp} {a b e : Expr} {es : List Expr} {pos : Pos} {fa fb f : DE} {ta tb : DT} {env : Ev}
theorem Out.mono {fl : Fl} (k : Keep O H O1 H1) (h : Out X c D O H fl) : Out X c D O1 H1 fl := by
  cases fl with
  | nx e => exact fun O' σ' H' k' r => h O' σ' H' (k.trans k') r
  | bk e => exact fun O' σ' H' k' r => h O' σ' H' (k.trans k') r
  | ct e => exact fun O' σ' H' k' r => h O' σ' H' (k.trans k') r
  | rt d => exact h
  | ex e n fs => exact fun O' σ' H' cls dd k' r => h O' σ' H' cls dd (k.trans k') r
  | stuck => exact h
theorem Out.do {α : Type} {r : R α} {k : α → Fl} (rel : Rel X.K c O H env σ) (h : Out X c D O H (dDo r k env)) : Res X c O σ H r fun a => Out X c D O H (k a) := by
  cases r with
  | ok a => exact h
  | error e =>
    cases e with
    | stuck => exact h
    | exc n fs => exact fun cls dd H' s e => h O σ H' cls dd (Keep.of s) (rel.ext s) e
/-- the ends of a loop's or a block's inside -/
theorem Out.ends {fl : Fl} {D' : Ends} (h : Out X c D O H fl) (hr : D'.rt = D.rt) (h1 : ∀ e, fl = .nx e → Out X c D' O H (.nx e)) (h2 : ∀ e, fl = .bk e → Out X c D' O H (.bk e)) (h3 : ∀ e, fl = .ct e → Out X c D' O H (.ct e)) : Out X c D' O H fl := by
  cases fl with
  | nx e => exact h1 e rfl
  | bk e => exact h2 e rfl
  | ct e => exact h3 e rfl
  | rt d =>
    intro v H' s hv
    rw [hr]
    exact h v H' s hv
  | ex e n fs => exact h
  | stuck => exact h
def dSkip : DS := fun env => .nx env
def dSeq (s t : DS) : DS := fun env => match s env with
  | .nx e => t e
  | r => r
theorem ss_nil : SSs X c [] dSkip := PSs.imp pss_nil fun D σ H ⟨O, env, rel, q⟩ => q O σ H (Keep.refl _ _) rel
theorem ss_one {st : Stmt} {g : DS} (h : SS X c st g) : SSs X c [st] g := pss_one h
theorem ss_cons {st : Stmt} {sts : List Stmt} {g t : DS} (h : SS X c st g) (hr : SSs X c sts t) : SSs X c (st :: sts) (dSeq g t) := PSs.imp (pss_cons h hr) fun D σ H ⟨O, env, rel, q⟩ => by
  refine ⟨O, env, rel, ?_⟩
  unfold dSeq at q
  cases r : g env with
  | nx e =>
    rw [r] at q
    exact fun O' σ' H' k rel' => ⟨O', e, rel', Out.mono k q⟩
  | bk e => rw [r] at q; exact q
  | ct e => rw [r] at q; exact q
  | rt d => rw [r] at q; exact q
  | ex e n fs => rw [r] at q; exact q
  | stuck => rw [r] at q; exact q
theorem s_pass : SS X c (.Pass pos) dSkip := PS.imp ps_pass fun D σ H ⟨O, env, rel, q⟩ => q O σ H (Keep.refl _ _) rel
def dBk : DS := fun env => .bk env
def dCt : DS := fun env => .ct env
theorem s_break : SS X c (.Break pos) dBk := PS.imp ps_break fun D σ H ⟨O, env, rel, q⟩ => q O σ H (Keep.refl _ _) rel
theorem s_continue : SS X c (.Continue pos) dCt := PS.imp ps_continue fun D σ H ⟨O, env, rel, q⟩ => q O σ H (Keep.refl _ _) rel
def dExpr (f : DE) : DS := fun env => dDo (f env) (fun _ => .nx env) env
theorem s_expr (h : EE X c e f) (hs : swapsWith e none pos.line X.env = pure false := by rfl) : SS X c (.Expr e pos) (dExpr f) := PS.imp (ps_expr h hs) fun D σ H ⟨O, env, rel, q⟩ =>
  ⟨O, env, rel, (Out.do rel q).imp fun d q1 v H' s b => q1 O σ H' (Keep.of s) (rel.ext s)⟩
def dRet (f : DE) : DS := fun env => dDo (f env) .rt env
theorem s_ret (h : EB X c e f) : SS X c (.Return (some e) pos) (dRet f) := PS.imp (ps_ret h) fun D σ H ⟨O, env, rel, q⟩ =>
  ⟨O, env, rel, (Out.do rel q).imp fun d q1 v H' s b => q1 v H' (rel.same.trans s) (b.dv0 rel.sub)⟩
def dRetN : DS := fun _ => .rt .none
theorem s_retN : SS X c (.Return none pos) dRetN := PS.imp ps_retN fun D σ H ⟨O, env, rel, q⟩ => q .non H rel.same .non
def dIfS (t : DT) (g1 g2 : DS) : DS := fun env => dDo (t env) (fun k => if k = true then g1 env else g2 env) env
theorem s_if {t : Expr} {ft : DT} {x y : List Stmt} {g1 g2 : DS} (h : ET X c t ft) (h1 : SSs X c x g1) (h2 : SSs X c y g2) : SS X c (.If t x y pos) (dIfS ft g1 g2) := PS.imp (ps_if h h1 h2) fun D σ H ⟨O, env, rel, q⟩ =>
  ⟨O, env, rel, (Out.do rel q).imp fun k q1 H' s => by
    cases k with
    | true => exact L2.iteT ⟨O, env, rel.ext s, Out.mono (Keep.of s) (show Out X c D O H (g1 env) from q1)⟩
    | false => exact L2.iteF ⟨O, env, rel.ext s, Out.mono (Keep.of s) (show Out X c D O H (g2 env) from q1)⟩⟩
/-- x = e -/
theorem Rel.put' {K : PySem.W.Frag} {i : Nat} {v : V} {d : PyData} (r : Rel K c O H env σ) (h : Dv K (hide O H) v d) : Rel K c O H (env.set i (.dat d)) (σ.set i (some v)) := by
  by_cases hi : i < env.length
  · exact r.put hi h
  · rw [List.set_eq_of_length_le (by omega), List.set_eq_of_length_le (by rw [← r.len]; omega)]
    exact r
def dSet (i : Nat) (f : DE) : DS := fun env => dDo (f env) (fun d => .nx (env.set i (.dat d))) env
theorem s_set (i : Nat) {x : Str} {pos' : Pos} (hN : X.N.Nodup) (he : EE X c e f) (hi : X.N[i]? = some x := by rfl) (hx : Loc X.env.scope x := by first | exact Or.inl rfl | exact Or.inr rfl) (hs : swapsWith e (some (.Name x pos')) pos.line X.env = pure false := by rfl) (hf : X.fn x = true ∨ X.env.scope.names.lookup x = some .local := by first | exact .inl rfl | exact .inr rfl) :
    SS X c (.Assign [.Name x pos'] e pos) (dSet i f) := PS.imp (ps_set hN hi hx he hs hf) fun D σ H ⟨O, env, rel, q⟩ =>
  ⟨O, env, rel, (Out.do rel q).imp fun d q1 v H' s b => q1 O _ H' (Keep.of s) ((rel.ext s).put' b)⟩
/-- a new thing is bound -/
theorem Rel.putNew {K : PySem.W.Frag} {i : Nat} {p : Addr} {u : HO} {w : Ow} (r : Rel K c O H env σ) (s : Same H H1) (n : H p = none) (hu : H1 p = some u) (hw : OwR K (hide (p :: O) H1) u w) : Rel K c (p :: O) H1 (env.set i (.own w)) (σ.set i (some (.ref p))) := by
  have r1 := r.grow n s (by rw [hu]; exact hw.mut)
  by_cases hi : i < env.length
  · refine r1.putOwn hi List.mem_cons_self (r.same.free n) hu hw fun j w' ej sj => ?_
    obtain ⟨p', u', h1, h2, h3, h4, h5⟩ := r.slots j _ ej
    rw [sj] at h1
    cases h1
    rw [n] at h4; cases h4
  · rw [List.set_eq_of_length_le (by omega), List.set_eq_of_length_le (by rw [← r.len]; omega)]
    exact r1
def dSetF (i : Nat) (f : DA) : DS := fun env => dDo (f env) (fun ds => .nx (env.set i (.own (.lst ds)))) env
theorem s_setF (i : Nat) {x : Str} {pos' : Pos} {f : DA} (hN : X.N.Nodup) (he : EF X c e f) (hi : X.N[i]? = some x := by rfl) (hx : Loc X.env.scope x := by first | exact Or.inl rfl | exact Or.inr rfl) (hs : swapsWith e (some (.Name x pos')) pos.line X.env = pure false := by rfl) (hf : X.fn x = true ∨ X.env.scope.names.lookup x = some .local := by first | exact .inl rfl | exact .inr rfl) :
    SS X c (.Assign [.Name x pos'] e pos) (dSetF i f) := PS.imp (ps_set hN hi hx he hs hf) fun D σ H ⟨O, env, rel, q⟩ =>
  ⟨O, env, rel, (Out.do rel q).imp fun ds q1 p vs H' s n hu hw => q1 (p :: O) _ H' (Keep.grow n s) (rel.putNew s n hu hw)⟩
/-- what is held is let go: it is data from here on -/
theorem s_freeze (i : Nat) {st : Stmt} {g : DS} (h : SS X c st g) : SS X c st (fun env => g (freeze i env)) := PS.imp h fun D σ H ⟨O, env, rel, q⟩ => by
  obtain ⟨O', r', k⟩ := rel.freeze i
  exact ⟨O', _, r', Out.mono k q⟩
/-- x op= e -/
def dAug (i : Nat) (g : PyData → PyData → Option PyData) (f : DE) : DS := fun env => dDo (dVar i env) (fun x => dDo (f env) (fun y => match g x y with
  | some z => .nx (env.set i (.dat z))
  | none => .stuck) env) env
theorem s_aug (i : Nat) {x : Str} {op : Operator} {r : R2} {g : PyData → PyData → Option PyData} {pos' : Pos} (ho : OpR X (inplaceOp op) r) (hd : OpD X r g) (hN : X.N.Nodup) (he : EB X c e f) (hi : X.N[i]? = some x := by rfl) (hx : Loc X.env.scope x := by first | exact Or.inl rfl | exact Or.inr rfl) (hf : X.fn x = true ∨ X.env.scope.names.lookup x = some .local := by first | exact .inl rfl | exact .inr rfl) :
    SS X c (.AugAssign (.Name x pos') op e pos) (dAug i g f) := PS.imp (ps_aug hN hi hx he (ti := r) ho hf) fun D σ H ⟨O, env, rel, q⟩ => by
  have q0 := Out.do rel q
  unfold dVar at q0
  split at q0
  · rename_i d ed
    obtain ⟨v, h1, h2⟩ := rel.dat ed
    refine ⟨v, h1, O, env, rel, (Out.do (c := c) rel (show Out X c D O H (dDo (f env) (fun y => match g d y with
      | some z => .nx (env.set i (.dat z))
      | none => .stuck) env) from q0)).imp fun d' q1 w H' s b => ?_⟩
    split at q1
    · rename_i z hz
      exact hd c O H' v w d d' z _ (rel.ext s).dom (.inl (h2.same (hide_same s))) b hz fun v' H2 s' hv => q1 O _ H2 (Keep.of (s.trans s')) ((rel.ext (s.trans s')).put' hv)
    · exact q1.elim
  · exact q0.elim

/-! ### while -/
def whileD (t : DT) (b : DS) : Nat → DS
  | 0 => fun _ => .stuck
  | n + 1 => fun env => dDo (t env) (fun k => if k = true then (match b env with
    | .nx e => whileD t b n e
    | .ct e => whileD t b n e
    | .bk e => .nx e
    | r => r) else .nx env) env
def dWhile (μ : Ev → Nat) (t : DT) (b : DS) : DS := fun env => whileD t b (μ env) env
theorem s_while (μ : Ev → Nat) {t : Expr} {ft : DT} {x : List Stmt} {g : DS} (hp : PassesOwn (model X.prog X.w) X.A X.env X.xe) (h : ET X c t ft) (hb : SSs X c x g) : SS X c (.While t x [] pos) (dWhile μ ft g) := PS.imp (ps_while hp h hb) fun D σ H ⟨O, env, rel, q⟩ => by
  refine ⟨fun m σ H => ∃ O env, Rel X.K c O H env σ ∧ Out X c D O H (whileD ft g m env), ⟨μ env, O, env, rel, q⟩, ?_⟩
  rintro m σ1 H1 ⟨O1, env1, rel1, q1⟩
  cases m with
  | zero => exact q1.elim
  | succ n =>
    refine ⟨O1, env1, rel1, (Out.do rel1 q1).imp fun k q2 H2 s2 => ?_⟩
    have rel2 := rel1.ext s2
    cases k with
    | false => exact L2.iteF ((show Out X c D O1 H1 (.nx env1) from q2) O1 σ1 H2 (Keep.of s2) rel2)
    | true =>
      have q3 : Out X c D O1 H2 (match g env1 with
        | .nx e => whileD ft g n e
        | .ct e => whileD ft g n e
        | .bk e => .nx e
        | r => r) := Out.mono (Keep.of s2) q2
      refine L2.iteT ⟨fun σ' H' => ∃ O' e', Rel X.K c O' H' e' σ' ∧ Out X c D O' H' (whileD ft g n e'), fun σ' H' z => ⟨n, Nat.lt_succ_self n, z⟩, O1, env1, rel2, ?_⟩
      cases r : g env1 with
      | nx e => rw [r] at q3; exact fun O' σ' H' k' rel' => ⟨O', e, rel', Out.mono k' q3⟩
      | ct e => rw [r] at q3; exact fun O' σ' H' k' rel' => ⟨O', e, rel', Out.mono k' q3⟩
      | bk e => rw [r] at q3; exact q3
      | rt d => rw [r] at q3; exact q3
      | ex e n fs => rw [r] at q3; exact q3
      | stuck => rw [r] at q3; exact q3

/-! ### targets -/
abbrev DG := PyData → Ev → Option Ev
/-- only the slots of the list is are stored to -/
def Off (is : List Nat) (σ σ' : DL.St) : Prop := σ'.length = σ.length ∧ ∀ j, j ∉ is → σ'[j]? = σ[j]?
theorem Off.trans {is js : List Nat} {σ σ' σ'' : DL.St} (h : Off is σ σ') (h' : Off js σ' σ'') : Off (is ++ js) σ σ'' :=
  ⟨h'.1.trans h.1, fun j n => (h'.2 j fun z => n (List.mem_append_right _ z)).trans (h.2 j fun z => n (List.mem_append_left _ z))⟩
def rdG (X : Cx) (c : Dc) (is : List Nat) (g : DG) : TG := fun v σ H Q => ∃ O env d, Rel X.K c O H env σ ∧ Dv X.K (hide O H) v d ∧ ∃ e, g d env = some e ∧ ∀ σ', Off is σ σ' → Rel X.K c O H e σ' → Q σ' H
def rdGs (X : Cx) (c : Dc) (is : List Nat) (g : List PyData → Ev → Option Ev) : TGs := fun vs σ H Q => ∃ O env ds, Rel X.K c O H env σ ∧ Dvs X.K (hide O H) vs ds ∧ ∃ e, g ds env = some e ∧ ∀ σ', Off is σ σ' → Rel X.K c O H e σ' → Q σ' H
theorem PG.imp {X : Cx} {e : Expr} {t t' : TG} (h : PG X e t) (i : ∀ v σ H Q, t' v σ H Q → t v σ H Q) : PG X e t' := ⟨fun pins s σ H v u Q I r q => h.run pins s σ H v u Q I r (i v σ H Q q)⟩
theorem PGs.imp {X : Cx} {e : List Expr} {t t' : TGs} (h : PGs X e t) (i : ∀ v σ H Q, t' v σ H Q → t v σ H Q) : PGs X e t' := ⟨fun pins s σ H v u Q I r q => h.run pins s σ H v u Q I r (i v σ H Q q)⟩
def gN (i : Nat) : DG := fun d env => some (env.set i (.dat d))
theorem g_name (i : Nat) {x : Str} (hN : X.N.Nodup) (hi : X.N[i]? = some x := by rfl) (hx : Loc X.env.scope x := by first | exact Or.inl rfl | exact Or.inr rfl) (hf : X.fn x = true ∨ X.env.scope.names.lookup x = some .local := by first | exact .inl rfl | exact .inr rfl) : PG X (.Name x pos) (rdG X c [i] (gN i)) := PG.imp (pg_name hN hi hx hf) fun v σ H Q ⟨O, env, d, rel, h, e, he, q⟩ => by
  cases he
  exact q _ ⟨List.length_set, fun j n => List.getElem?_set_ne fun z => n (by simp [z])⟩ (rel.put' h)
def gNil : List PyData → Ev → Option Ev := fun ds env => match ds with
  | [] => some env
  | _ => none
def gCons (g : DG) (gs : List PyData → Ev → Option Ev) : List PyData → Ev → Option Ev := fun ds env => match ds with
  | d :: ds => (g d env).bind fun e => gs ds e
  | [] => none
theorem gs_nil : PGs X [] (rdGs X c [] DL.gNil) := PGs.imp pgs_nil fun v σ H Q ⟨O, env, ds, rel, h, e, he, q⟩ => by
  cases h with
  | nil => cases he; exact ⟨rfl, q _ ⟨rfl, fun _ _ => rfl⟩ rel⟩
  | cons _ _ => cases he
theorem gs_cons {g : DG} {is js : List Nat} {gs : List PyData → Ev → Option Ev} (h : PG X e (rdG X c is g)) (hr : PGs X es (rdGs X c js gs)) (hs : (assignEach (e :: es) X.env).map (·.2) = assign e X.env :: (assignEach es X.env).map (·.2) := by rfl) : PGs X (e :: es) (rdGs X c (is ++ js) (DL.gCons g gs)) :=
  PGs.imp (pgs_cons h hr hs) fun vs σ H Q ⟨O, env, ds, rel, h, e, he, q⟩ => by
    cases h with
    | nil => cases he
    | @cons v vs' d ds' h1 h2 =>
      obtain ⟨e1, he1, he2⟩ := Option.bind_eq_some_iff.mp (show (g d env).bind (fun e => gs ds' e) = some e from he)
      exact ⟨v, vs', rfl, O, env, d, rel, h1, e1, he1, fun σ' o1 rel' => ⟨O, e1, ds', rel', h2, e, he2, fun σ'' o2 => q σ'' (o1.trans o2)⟩⟩
def gTup (n : Nat) (gs : List PyData → Ev → Option Ev) : DG := fun d env => match d with
  | .tuple ds => match Nat.beq ds.length n with
    | true => gs ds env
    | false => none
  | _ => none
theorem g_tup (n : Nat) {k : Nat} {is : List Nat} {gs : List PyData → Ev → Option Ev} (hc : X.calm = true) (h : PGs X es (rdGs X c is gs))
    (hn : (assignEach es X.env).length = n := by rfl) (hst : (assignEach es X.env).findIdx? (·.1) = none := by rfl) : PG X (.Tuple es k pos) (rdG X c is (DL.gTup n gs)) := PG.imp (pg_tup hc h hn hst) fun v σ H Q ⟨O, env, d, rel, h, e, he, q⟩ => by
  unfold DL.gTup at he
  split at he
  · rename_i ds
    split at he
    · rename_i hl
      cases h with
      | tup h1 h2 => exact ⟨_, _, rfl, sqT_same (hide_le _ _) h1, by rw [h2.length]; exact Nat.eq_of_beq_eq_true hl, O, env, ds, rel, h2, e, he, q⟩
    · cases he
  · cases he
/-- a target = e -/
def dAsgG (g : DG) (f : DE) : DS := fun env => dDo (f env) (fun d => match g d env with
  | some e => .nx e
  | none => .stuck) env
theorem s_asgG {tg : Expr} {g : DG} {is : List Nat} (he : EE X c e f) (hg : PG X tg (rdG X c is g)) (hs : swapsWithSole [tg] e pos.line X.env = pure false := by rfl) (hw : swappedStores [tg] e X.env = pure none := by rfl) (h1 : (assignEach [tg] X.env).map (·.2) = [assign tg X.env] := by rfl) : SS X c (.Assign [tg] e pos) (dAsgG g f) := PS.imp (ps_asg he hg hs hw h1) fun D σ H ⟨O, env, rel, q⟩ =>
  ⟨O, env, rel, (Out.do rel q).imp fun d q1 v H' s b => by
    split at q1
    · rename_i e1 he1
      exact ⟨O, env, d, rel.ext s, b, e1, he1, fun σ' _ rel' => q1 O σ' H' (Keep.of s) rel'⟩
    · exact q1.elim⟩
end
end DL

set_option Elab.async false
set_option linter.all false
set_option maxRecDepth 100000
set_option maxHeartbeats 1000000
namespace DL
open PySem PySem.Spec L2 PyProof.Rows
set_option autoImplicit false
noncomputable section

section
variable {X : Cx} {c : Dc} {D : Ends} {O O1 : List Addr} {σ : DL.St} {H H1 : Hp} {a b e : Expr} {es : List Expr} {pos : Pos} {fa fb f : DE} {ta tb : DT} {env : Ev}

/-! ### for -/
/-- the iterator J gives the data ds, whatever is done to what is hidden -/
def Gives (K : PySem.W.Frag) (O : List Addr) (H : Hp) (J : It) (ds : List PyData) : Prop := ∀ (O1 : List Addr) (H1 : Hp), Keep O H O1 H1 → (∀ a ∈ O1, Mut (H1 a)) → J.stop ds.length H1 ∧ ∀ (i : Nat) (d : PyData), ds[i]? = some d → J.go i H1 ∧ ∀ x H', J.yld i H1 x H' → Same H1 H' ∧ Dv K (hide O1 H') x d
def rdI (X : Cx) (c : Dc) (f : DA) : TI := fun σ H R => ∃ O env, Rel X.K c O H env σ ∧ Res X c O σ H (f env) fun ds => ∀ J H', Same H H' → Gives X.K O H' J ds → R J H'
theorem PI.imp {X : Cx} {tg e : Expr} {t t' : TI} (h : PI X tg e t) (i : ∀ σ H Q, t' σ H Q → t σ H Q) : PI X tg e t' := ⟨fun pins s σ H Q I q => h.run pins s σ H Q I (i σ H Q q)⟩
def forD (g : DG) (b : DS) : List PyData → DS
  | [] => fun env => .nx env
  | d :: ds => fun env => match g d env with
    | none => .stuck
    | some e1 => match b e1 with
      | .nx e => forD g b ds e
      | .ct e => forD g b ds e
      | .bk e => .nx e
      | r => r
def dFor (f : DA) (g : DG) (b : DS) : DS := fun env => dDo (f env) (fun ds => forD g b ds env) env
theorem s_for {tg iter : Expr} {x : List Stmt} {fi : DA} {g : DG} {is : List Nat} {gb : DS} (hp : PassesOwn (model X.prog X.w) X.A X.env X.xe) (hc : X.calm = true) (hi : PI X tg iter (rdI X c fi)) (hg : PG X tg (rdG X c is g)) (hb : SSs X c x gb)
    (hs : ∀ x, foldedSetIterable iter X.env x = pure x := by intro _; rfl) : SS X c (.For tg iter x [] pos) (dFor fi g gb) := PS.imp (ps_for hp hc hi hg hb hs) fun D σ H ⟨O, env, rel, q⟩ => by
  refine ⟨O, env, rel, (Out.do rel q).imp fun ds q1 J H0 s0 gv => ?_⟩
  have rel0 := rel.ext s0
  have q1' : Out X c D O H0 (forD g gb ds env) := Out.mono (Keep.of s0) q1
  refine ⟨fun i m σ1 H1 => m = ds.length - i ∧ i ≤ ds.length ∧ ∃ O1 env1, Rel X.K c O1 H1 env1 σ1 ∧ Keep O H0 O1 H1 ∧ Out X c D O1 H1 (forD g gb (ds.drop i) env1), ⟨ds.length, by simp, Nat.zero_le _, O, env, rel0, Keep.refl _ _, q1'⟩, ?_⟩
  rintro i m σ1 H1 ⟨rfl, hi, O1, env1, rel1, k1, q2⟩
  obtain ⟨st, go⟩ := gv O1 H1 k1 rel1.dom
  by_cases hlt : i < ds.length
  · right
    have e := List.drop_eq_getElem_cons hlt
    rw [e] at q2
    obtain ⟨g1, g2⟩ := go i ds[i] (List.getElem?_eq_getElem hlt)
    refine ⟨g1, ?_⟩
    unfold forD at q2
    split at q2
    · exact q2.elim
    · rename_i e1 he1
      refine ⟨fun σ' H' => ∃ O' e', Rel X.K c O' H' e' σ' ∧ Keep O H0 O' H' ∧ Out X c D O' H' (forD g gb (ds.drop (i + 1)) e'), fun σ' H' z => ⟨ds.length - (i + 1), by omega, rfl, hlt, z⟩, fun x H' hy => ?_⟩
      obtain ⟨s', hv⟩ := g2 x H' hy
      have q3 := Out.mono (Keep.of s') q2
      refine ⟨O1, env1, _, rel1.ext s', hv, e1, he1, fun σ2 _ rel2 => ⟨O1, e1, rel2, ?_⟩⟩
      cases r : gb e1 with
      | nx e =>
        simp only [r] at q3
        exact fun O' σ' H' k' rel' => ⟨O', e, rel', k1.trans ((Keep.of s').trans k'), Out.mono k' q3⟩
      | ct e =>
        simp only [r] at q3
        exact fun O' σ' H' k' rel' => ⟨O', e, rel', k1.trans ((Keep.of s').trans k'), Out.mono k' q3⟩
      | bk e => simp only [r] at q3; exact q3
      | rt d => simp only [r] at q3; exact q3
      | ex e n fs => simp only [r] at q3; exact q3
      | stuck => simp only [r] at q3; exact q3
  · left
    have e : i = ds.length := by omega
    subst e
    refine ⟨st, ?_⟩
    rw [List.drop_length] at q2
    exact q2 O1 σ1 H1 (Keep.refl _ _) rel1
/-- what a for walks -/
def seqOf : PyData → Option (List PyData)
  | .list ds => some ds
  | .tuple ds => some ds
  | _ => none
def dItems (f : DE) : DA := fun env => do
  let x ← f env
  lift (seqOf x)
theorem gives_list {K : PySem.W.Frag} {p : Addr} {vs : List V} {ds : List PyData} (h : SqL K (hide O H) p vs) (hd : Dvs K (hide O H) vs ds) : Gives K O H (Itl K p) ds := fun O1 H1 k m => by
  have h1 : SqL K H1 p vs := Same.seq (hide_le _ _) (Same.seq k.hide h)
  have hd1 := hd.same k.hide
  refine ⟨⟨vs, h1, by rw [hd.length]; exact Nat.le_refl _⟩, fun i d hi => ?_⟩
  obtain ⟨v, hv, dv⟩ := hd1.get hi
  refine ⟨⟨vs, v, h1, hv⟩, fun x H' hy => ?_⟩
  obtain ⟨rfl, hx⟩ := hy
  have := hx vs h1
  rw [hv] at this
  cases this
  exact ⟨Same.refl _, dv⟩
theorem gives_tup {K : PySem.W.Frag} {p : Addr} {vs : List V} {ds : List PyData} (h : SqT K (hide O H) p vs) (hd : Dvs K (hide O H) vs ds) : Gives K O H (Itt K p) ds := fun O1 H1 k m => by
  have h1 : SqT K H1 p vs := sqT_same (hide_le _ _) (sqT_same k.hide h)
  have hd1 := hd.same k.hide
  refine ⟨⟨vs, h1, by rw [hd.length]; exact Nat.le_refl _⟩, fun i d hi => ?_⟩
  obtain ⟨v, hv, dv⟩ := hd1.get hi
  refine ⟨⟨vs, v, h1, hv⟩, fun x H' hy => ?_⟩
  obtain ⟨rfl, hx⟩ := hy
  have := hx vs h1
  rw [hv] at this
  cases this
  exact ⟨Same.refl _, dv⟩
theorem i_seq {tg : Expr} (h : EE X c e f) : PI X tg e (rdI X c (dItems f)) := ⟨fun pins s σ H R I q => by
  obtain ⟨O, env, rel, q⟩ := q
  have q1 := Res.bind q
  cases r : f env with
  | error er =>
    rw [r] at q1
    refine (pi_list h).run pins s σ H R I ⟨O, env, rel, ?_⟩
    rw [r]
    cases er <;> exact q1
  | ok d =>
    rw [r] at q1
    obtain ⟨ds, hds, q2⟩ := Res.lift (c := c) (o := seqOf d) q1
    cases d <;> first | (cases hds; done) | skip
    · cases hds
      refine (pi_list h).run pins s σ H R I ⟨O, env, rel, ?_⟩
      rw [r]
      intro v H' s' hv
      cases hv with
      | lst h1 h2 => exact ⟨_, rfl, ⟨_, Same.seq (hide_le _ _) h1⟩, q2 _ H' s' (gives_list h1 h2)⟩
    · cases hds
      refine (pi_tup h).run pins s σ H R I ⟨O, env, rel, ?_⟩
      rw [r]
      intro v H' s' hv
      cases hv with
      | tup h1 h2 => exact ⟨_, rfl, ⟨_, sqT_same (hide_le _ _) h1⟩, q2 _ H' s' (gives_tup h1 h2)⟩⟩
def rangeD (lo c : Int) (n : Nat) : List PyData := (List.range n).map fun i => .int (lo + (i : Nat) * c)
theorem rangeD_get {lo c : Int} {n i : Nat} {d : PyData} (h : (rangeD lo c n)[i]? = some d) : i < n ∧ d = .int (lo + (i : Nat) * c) := by
  unfold rangeD at h
  rw [List.getElem?_map] at h
  obtain ⟨j, hj, rfl⟩ := Option.map_eq_some_iff.mp h
  obtain ⟨h1, h2⟩ := List.getElem?_eq_some_iff.mp hj
  rw [List.length_range] at h1
  rw [List.getElem_range] at h2
  subst h2
  exact ⟨h1, rfl⟩
theorem rangeD_length {lo c : Int} {n : Nat} : (rangeD lo c n).length = n := by unfold rangeD; rw [List.length_map, List.length_range]
theorem gives_rangeC {K : PySem.W.Frag} {lo c : Int} {n : Nat} : Gives K O H (Itc lo c n) (rangeD lo c n) := fun O1 H1 k m => by
  refine ⟨by show n ≤ _; rw [rangeD_length]; exact Nat.le_refl _, fun i d hi => ?_⟩
  obtain ⟨h1, rfl⟩ := rangeD_get hi
  refine ⟨h1, fun x H' hy => ?_⟩
  obtain ⟨rfl, rfl⟩ := hy
  exact ⟨Same.refl _, .int _⟩
theorem gives_range {K : PySem.W.Frag} {lo : Int} {n : Nat} : Gives K O H (Itr lo n) (rangeD lo 1 n) := fun O1 H1 k m => by
  refine ⟨by show n ≤ _; rw [rangeD_length]; exact Nat.le_refl _, fun i d hi => ?_⟩
  obtain ⟨h1, rfl⟩ := rangeD_get hi
  refine ⟨h1, fun x H' hy => ?_⟩
  obtain ⟨rfl, rfl⟩ := hy
  rw [Int.mul_one]
  exact ⟨Same.refl _, .int _⟩
def rgB0 (i : Int) : Bool := decide (-4611686018427387904 ≤ i) && decide (i < 4611686018427387904)
noncomputable def rgBo : { f : Int → Bool // f = rgB0 } := Classical.choice ⟨⟨rgB0, rfl⟩⟩
def rgB : Int → Bool := rgBo.1
theorem rgB_eq : rgB = rgB0 := rgBo.2
theorem rgB_of {i : Int} (h : rgB i = true) : -(2 ^ 62) ≤ i ∧ i < 2 ^ 62 := by
  rw [rgB_eq] at h; unfold rgB0 at h
  rw [Bool.and_eq_true] at h
  exact ⟨of_decide_eq_true h.1, of_decide_eq_true h.2⟩
theorem rgB_mk {i : Int} (h1 : -4611686018427387904 ≤ i) (h2 : i < 4611686018427387904) : rgB i = true := by rw [rgB_eq]; unfold rgB0; rw [decide_eq_true h1, decide_eq_true h2]; rfl
def gRange1 (d : PyData) : Option (List PyData) := match d with
  | .int j => if rgB j = true then some (rangeD 0 1 j.toNat) else none
  | _ => none
def gRange2 (d e : PyData) : Option (List PyData) := match d, e with
  | .int i, .int j => if (rgB i && rgB j) = true then some (rangeD i 1 (j - i).toNat) else none
  | _, _ => none
def rg3B0 (i j k : Int) : Bool := decide (k ≠ 0) && decide (k.natAbs < 1073741824) && Builtin.Range.small i j k && decide (0 ≤ Builtin.Range.rangeSize i j k)
noncomputable def rg3Bo : { f : Int → Int → Int → Bool // f = rg3B0 } := Classical.choice ⟨⟨rg3B0, rfl⟩⟩
def rg3B : Int → Int → Int → Bool := rg3Bo.1
theorem rg3B_eq : rg3B = rg3B0 := rg3Bo.2
def gRange3 (d e k : PyData) : Option (List PyData) := match d, e, k with
  | .int i, .int j, .int k => if rg3B i j k = true then some (rangeD i k (Builtin.Range.rangeSize i j k).toNat) else none
  | _, _, _ => none
def dRange1 (f : DE) : DA := fun env => do
  let x ← f env
  lift (gRange1 x)
def dRange2 (f g : DE) : DA := fun env => do
  let x ← f env
  let y ← g env
  lift (gRange2 x y)
def dRange3 (f g h : DE) : DA := fun env => do
  let x ← f env
  let y ← g env
  let z ← h env
  lift (gRange3 x y z)
theorem i_range1 {tg it : Expr} (h : PI X tg it (iRng1 (tCons (rdB X c fa) tNil))) : PI X tg it (rdI X c (dRange1 fa)) := PI.imp h fun σ H R ⟨O, env, rel, q⟩ =>
  ⟨O, env, rel, q.bind.imp fun d q1 v H' s' hv => by
    obtain ⟨z, hz, q2⟩ := Res.lift q1
    unfold gRange1 at hz
    split at hz
    · obtain ⟨hb, rfl⟩ := ite_some hz
      cases hv.int
      exact ⟨_, rfl, (rgB_of hb).1, (rgB_of hb).2, q2 _ H' s' gives_range⟩
    · cases hz⟩
theorem i_range2 {tg it : Expr} (h : PI X tg it (iRng2 (tCons (rdB X c fa) (tCons (rdB X c fb) tNil)))) : PI X tg it (rdI X c (dRange2 fa fb)) := PI.imp h fun σ H R ⟨O, env, rel, q⟩ =>
  ⟨O, env, rel, q.bind.imp fun d q1 v H1 s1 hv => ⟨O, env, rel.ext s1, (Res.bind q1).ext s1 fun d' q2 v' H2 s2 hv' => by
    obtain ⟨z, hz, q3⟩ := Res.lift q2
    unfold gRange2 at hz
    split at hz
    · obtain ⟨hb, rfl⟩ := ite_some hz
      rw [Bool.and_eq_true] at hb
      cases hv.int
      cases hv'.int
      exact ⟨_, _, rfl, ⟨(rgB_of hb.1).1, (rgB_of hb.1).2, (rgB_of hb.2).1, (rgB_of hb.2).2⟩, q3 _ H2 (s1.trans s2) gives_range⟩
    · cases hz⟩⟩
theorem i_range3 {tg it : Expr} {fc : DE} (h : PI X tg it (iRng3 (tCons (rdB X c fa) (tCons (rdB X c fb) (tCons (rdB X c fc) tNil))))) : PI X tg it (rdI X c (dRange3 fa fb fc)) := PI.imp h fun σ H R ⟨O, env, rel, q⟩ =>
  ⟨O, env, rel, q.bind.imp fun d q1 v H1 s1 hv => ⟨O, env, rel.ext s1, (Res.bind q1).ext s1 fun d' q2 v' H2 s2 hv' => ⟨O, env, rel.ext (s1.trans s2), (Res.bind q2).ext (s1.trans s2) fun d'' q3 v'' H3 s3 hv'' => by
    obtain ⟨z, hz, q4⟩ := Res.lift q3
    unfold gRange3 at hz
    split at hz
    · obtain ⟨hb, rfl⟩ := ite_some hz
      rw [rg3B_eq] at hb
      unfold rg3B0 at hb
      rw [Bool.and_eq_true, Bool.and_eq_true, Bool.and_eq_true] at hb
      cases hv.int
      cases hv'.int
      cases hv''.int
      exact ⟨_, _, _, _, rfl, ⟨of_decide_eq_true hb.1.1.1, of_decide_eq_true hb.1.1.2, hb.1.2, (Int.toNat_of_nonneg (of_decide_eq_true hb.2)).symm⟩, q4 _ H3 ((s1.trans s2).trans s3) gives_rangeC⟩
    · cases hz⟩⟩⟩

/-! ### what this def holds is changed -/
theorem own_at {i : Nat} {w : Ow} (rel : Rel X.K c O H env σ) (h : env[i]? = some (.own w)) : ∃ p u, σ[i]? = some (some (.ref p)) ∧ p ∈ O ∧ c.H_0 p = none ∧ H p = some u ∧ OwR X.K (hide O H) u w := rel.slots i _ h
theorem own_lst {K : PySem.W.Frag} {u : HO} {ds : List PyData} (h : OwR K H u (.lst ds)) : ∃ vs, u = .lst vs ∧ Dvs K H vs ds := by
  cases u <;> first | exact h.elim | exact ⟨_, rfl, h⟩
theorem own_dic {K : PySem.W.Frag} {u : HO} {ps : List (Key × PyData)} (h : OwR K H u (.dic ps)) : ∃ kvs, u = .dK kvs ∧ Dks K H kvs ps := by
  cases u <;> first | exact h.elim | exact ⟨_, rfl, h⟩
def dApp (i : Nat) (f : DE) : DS := fun env => match env[i]? with
  | some (.own (.lst ds)) => dDo (f env) (fun d => if ds.length < LIM then .nx (env.set i (.own (.lst (ds ++ [d])))) else .stuck) env
  | _ => .stuck
theorem s_append {i : Nat} {st : Stmt} (h : PS X st (tDrop (tBM X.K "list" rAppend (tVar i) (tCons (rdE X c f) tNil)))) : SS X c st (dApp i f) := PS.imp h fun D σ H ⟨O, env, rel, q⟩ => by
    unfold dApp at q
    split at q
    · rename_i ds eds
      obtain ⟨p, u, h1, h2, h3, h4, h5⟩ := own_at rel eds
      obtain ⟨vs, rfl, h6⟩ := own_lst h5
      refine ⟨_, h1, .inl ⟨rfl, vs, SqL.of h4⟩, O, env, rel, (Out.do rel q).imp fun d q1 v H' s' hv => ?_⟩
      split at q1
      · rename_i hlim
        have h4' := s' _ _ h4
        refine ⟨p, vs, v, rfl, rfl, h4', by rw [h6.length]; exact lim_lt hlim, q1 O σ _ ((Keep.of s').trans (Keep.change h2)) ?_⟩
        exact (rel.ext s').change eds h1 h2 h3 (show OwR X.K _ (.lst _) (.lst _) from (h6.same (hide_same s')).app (.one hv))
      · exact q1.elim
    · exact q.elim
end
end
end DL

set_option Elab.async false
set_option linter.all false
set_option maxRecDepth 100000
set_option maxHeartbeats 1000000
namespace DL
open PySem PySem.Spec L2 PyProof.Rows
set_option autoImplicit false

section
variable {X : Cx} {c : Dc} {D : Ends} {O O1 : List Addr} {σ : DL.St} {H H1 : Hp} {a b e : Expr} {es : List Expr} {pos : Pos} {fa fb fc f : DE} {ta tb : DT} {env : Ev} {st : Stmt}

/-! ### xs[i] = e, d[k] = e of what this def holds -/
def dSetIx (i : Nat) (fi f : DE) : DS := fun env => dDo (f env) (fun d => match env[i]? with
  | some (.own (.lst ds)) => dDo (fi env) (fun k => match gInt k with
    | some k => match ixN ds.length k with
      | some j => .nx (env.set i (.own (.lst (ds.set j d))))
      | none => .stuck
    | none => .stuck) env
  | _ => .stuck) env
theorem s_setIx {i : Nat} (h : PS X st (tAsg (rdE X c f) (gSub (tVar i) (rdE X c fa) rSetL))) : SS X c st (dSetIx i fa f) := PS.imp h fun D σ H ⟨O, env, rel, q⟩ =>
  ⟨O, env, rel, (Out.do rel q).imp fun d q1 v H1 s1 hv => by
    split at q1
    · rename_i ds eds
      obtain ⟨p, u, h1, h2, h3, h4, h5⟩ := own_at rel eds
      obtain ⟨vs, rfl, h6⟩ := own_lst h5
      refine ⟨_, h1, O, env, rel.ext s1, (Out.do (rel.ext s1) (Out.mono (Keep.of s1) q1)).imp fun k q2 y H2 s2 hk => ?_⟩
      split at q2
      · rename_i k' hk'
        split at q2
        · rename_i j hj
          have s12 := s1.trans s2
          have h4' := s12 _ _ h4
          have hy : y = .int k' := (Bv.of (c := c) hk).gint hk'
          subst hy
          refine ⟨p, vs, k', j, rfl, rfl, h4', by rw [h6.length]; exact hj, q2 O σ _ ((Keep.of s2).trans (Keep.change h2)) ?_⟩
          exact (rel.ext s12).change eds h1 h2 h3 (show OwR X.K _ (.lst _) (.lst _) from Dvs.set (hv.same (hide_same s2)) j (h6.same (hide_same s12)))
        · exact q2.elim
      · exact q2.elim
    · exact q1.elim⟩
def keyOf : PyData → Option Key
  | .int i => some (.inl i)
  | .str x => some (.inr x)
  | _ => none
theorem keyOf_dv {K : PySem.W.Frag} {v : V} {d : PyData} {k : Key} (h : Dv K H v d) (e : keyOf d = some k) : v = kV k := by
  cases h <;> first | (cases e; done) | (cases e; rfl)
/-- d[k] = v on pairs -/
def putP (ps : List (Key × PyData)) (k : Key) (d : PyData) : List (Key × PyData) :=
  if (ps.any fun kv => decide (kv.1 = k)) = true then ps.map (fun kv => if kv.1 = k then (kv.1, d) else kv) else ps ++ [(k, d)]
def getP (ps : List (Key × PyData)) (k : Key) : Option PyData := (ps.find? fun kv => decide (kv.1 = k)).map (·.2)
section
variable {K : PySem.W.Frag}
theorem Dks.length : ∀ {kvs : List (Key × V)} {ps : List (Key × PyData)}, Dks K H kvs ps → kvs.length = ps.length
  | _, _, .nil => rfl
  | _, _, .cons _ t => by rw [List.length_cons, List.length_cons, Dks.length t]
theorem Dks.any {k : Key} : ∀ {kvs : List (Key × V)} {ps : List (Key × PyData)}, Dks K H kvs ps → (kvs.any fun kv => decide (kv.1 = k)) = (ps.any fun kv => decide (kv.1 = k))
  | _, _, .nil => rfl
  | _, _, .cons _ t => by rw [List.any_cons, List.any_cons, Dks.any t]
theorem Dks.map {k : Key} {v : V} {d : PyData} (h : Dv K H v d) : ∀ {kvs : List (Key × V)} {ps : List (Key × PyData)}, Dks K H kvs ps → Dks K H (kvs.map fun kv => if kv.1 = k then (kv.1, v) else kv) (ps.map fun kv => if kv.1 = k then (kv.1, d) else kv)
  | _, _, .nil => .nil
  | _, _, .cons (k := k') q t => by
    rw [List.map_cons, List.map_cons]
    by_cases e : k' = k
    · rw [if_pos e, if_pos e]; exact .cons h (Dks.map h t)
    · rw [if_neg e, if_neg e]; exact .cons q (Dks.map h t)
theorem Dks.app : ∀ {kvs ls : List (Key × V)} {ps qs : List (Key × PyData)}, Dks K H kvs ps → Dks K H ls qs → Dks K H (kvs ++ ls) (ps ++ qs)
  | _, _, _, _, .nil, s => s
  | _, _, _, _, .cons h t, s => .cons h (Dks.app t s)
theorem Dks.put {k : Key} {v : V} {d : PyData} {kvs : List (Key × V)} {ps : List (Key × PyData)} (h : Dv K H v d) (t : Dks K H kvs ps) : Dks K H (putK kvs k v) (putP ps k d) := by
  unfold putK putP
  rw [t.any (k := k)]
  split
  · exact t.map h
  · exact t.app (.cons h .nil)
theorem Dks.get {k : Key} {d : PyData} : ∀ {kvs : List (Key × V)} {ps : List (Key × PyData)}, Dks K H kvs ps → getP ps k = some d → ∃ v, valV kvs k = some v ∧ Dv K H v d
  | _, _, .nil, e => by cases e
  | _, _, .cons (k := k') (v := v') q t, e => by
    unfold getP at e
    rw [List.find?_cons] at e
    by_cases z : k' = k
    · rw [decide_eq_true z] at e
      cases e
      exact ⟨v', valV_pos z, q⟩
    · rw [decide_eq_false z] at e
      obtain ⟨v, h1, h2⟩ := Dks.get t e
      exact ⟨v, (valV_neg z).trans h1, h2⟩
theorem Dks.none {k : Key} : ∀ {kvs : List (Key × V)} {ps : List (Key × PyData)}, Dks K H kvs ps → getP ps k = .none → valV kvs k = .none
  | _, _, .nil, _ => rfl
  | _, _, .cons (k := k') (v := v') q t, e => by
    unfold getP at e
    rw [List.find?_cons] at e
    by_cases z : k' = k
    · rw [decide_eq_true z] at e; cases e
    · rw [decide_eq_false z] at e
      exact (valV_neg z).trans (Dks.none t e)
end
/-- d[k] = e, d held by this def -/
def dPut (i : Nat) (fi f : DE) : DS := fun env => dDo (f env) (fun d => match env[i]? with
  | some (.own (.dic ps)) => dDo (fi env) (fun k => match keyOf k with
    | some k => if ps.length < LIM then .nx (env.set i (.own (.dic (putP ps k d)))) else .stuck
    | none => .stuck) env
  | _ => .stuck) env
theorem s_dput {i : Nat} (h : PS X st (sDPut (tVar i) (rdE X c fa) (rdE X c f))) : SS X c st (dPut i fa f) := PS.imp h fun D σ H ⟨O, env, rel, q⟩ =>
  ⟨O, env, rel, (Out.do rel q).imp fun d q1 v H1 s1 hv => by
    split at q1
    · rename_i ps eds
      obtain ⟨p, u, h1, h2, h3, h4, h5⟩ := own_at rel eds
      obtain ⟨kvs, rfl, h6⟩ := own_dic h5
      refine ⟨_, h1, O, env, rel.ext s1, (Out.do (rel.ext s1) (Out.mono (Keep.of s1) q1)).imp fun k q2 y H2 s2 hk => ?_⟩
      split at q2
      · rename_i k' hk'
        split at q2
        · rename_i hlim
          have s12 := s1.trans s2
          have h4' := s12 _ _ h4
          have hy : y = kV k' := keyOf_dv hk hk'
          subst hy
          refine ⟨p, _, rfl, .k h4' (by rw [h6.length]; exact lim_lt hlim), q2 O σ _ ((Keep.of s2).trans (Keep.change h2)) ?_⟩
          exact (rel.ext s12).change eds h1 h2 h3 (show OwR X.K _ (.dK _) (.dic _) from Dks.put (hv.same (hide_same s2)) (h6.same (hide_same s12)))
        · exact q2.elim
      · exact q2.elim
    · exact q1.elim⟩
/-- d[k] -/
def unkeyD : PyData → Option (Key × PyData → Key × PyData)
  | _ => none
def getD : List (PyData × PyData) → Key → Option PyData
  | [], _ => none
  | (a, d) :: qs, k => match keyOf a with
    | some k' => if k' = k then some d else getD qs k
    | none => none
theorem keyOf_keyD (k : Key) : keyOf (keyD k) = some k := by cases k <;> rfl
theorem getD_pairs (k : Key) : ∀ ps : List (Key × PyData), getD (ps.map keyPair) k = getP ps k
  | [] => rfl
  | (a, d) :: ps => by
    show (match keyOf (keyD a) with | some k' => if k' = k then some d else getD (ps.map keyPair) k | none => none) = _
    rw [keyOf_keyD]
    dsimp only
    unfold getP
    rw [List.find?_cons]
    by_cases z : a = k
    · rw [if_pos z, decide_eq_true z]; rfl
    · rw [if_neg z, decide_eq_false z]; exact getD_pairs k ps
def gDGet : PyData → PyData → Option PyData
  | .dict qs, k => (keyOf k).bind (getD qs)
  | _, _ => none
theorem e_dget (h : PE X e (tDGet (rdB X c fa) (rdB X c fb))) : EE X c e (dBin gDGet fa fb) := PE.imp h fun σ H Q ⟨O, env, rel, q⟩ =>
  ⟨O, env, rel, q.bind.imp fun d q1 v H1 s1 hv => ⟨O, env, rel.ext s1, (Res.bind q1).ext s1 fun k q2 w H2 s2 hw => by
    obtain ⟨z, hz, q3⟩ := Res.lift q2
    cases d <;> first | (cases hz; done) | skip
    obtain ⟨k', hk, hg⟩ := Option.bind_eq_some_iff.mp (show (keyOf k).bind (getD _) = some z from hz)
    obtain ⟨p, kvs, ps, rfl, h1, rfl, h2⟩ := (hv.ext s2).dic
    rw [getD_pairs] at hg
    obtain ⟨v', h3, h4⟩ := h2.get hg
    have hy : w = kV k' := keyOf_dv hw.dv hk
    subst hy
    exact ⟨p, v', rfl, .inl ⟨kvs, k', h1, rfl, h3.symm⟩, q3 v' H2 (s1.trans s2) h4⟩⟩⟩
/-- d.get(k) -/
def gDGet1 : PyData → PyData → Option PyData
  | .dict qs, k => (keyOf k).map fun k => (getD qs k).getD .none
  | _, _ => none
def gDGet2 : PyData → PyData → PyData → Option PyData
  | .dict qs, k, x => (keyOf k).map fun k => (getD qs k).getD x
  | _, _, _ => none
/-- k in d -/
def gDIn (neg : Bool) : PyData → PyData → Option PyData
  | k, .dict qs => (keyOf k).map fun k => .bool (if neg then !(getD qs k).isSome else (getD qs k).isSome)
  | _, _ => none
theorem dks_look {K : PySem.W.Frag} {kvs : List (Key × V)} {ps : List (Key × PyData)} (h : Dks K H kvs ps) (k : Key) : (∃ d v, getP ps k = some d ∧ valV kvs k = some v ∧ Dv K H v d) ∨ (getP ps k = none ∧ valV kvs k = none) := by
  cases r : getP ps k with
  | some d =>
    obtain ⟨v, h1, h2⟩ := h.get r
    exact .inl ⟨d, v, rfl, h1, h2⟩
  | none => exact .inr ⟨rfl, h.none r⟩
theorem opd_din : OpD X (fun y x H Q => ∃ a o, x = .ref a ∧ DGet H a y o ∧ Q (.bl o.isSome) H) (gDIn false) := fun c O H x y d e z Q m hx hy hg k => by
  cases e <;> first | (cases hg; done) | skip
  obtain ⟨k', hk, rfl⟩ := Option.map_eq_some_iff.mp (show (keyOf d).map _ = some z from hg)
  obtain ⟨p, kvs, ps, rfl, h1, rfl, h2⟩ := hy.dic
  have hy : x = kV k' := keyOf_dv hx.dv hk
  subst hy
  refine ⟨p, _, rfl, .inl ⟨kvs, k', h1, rfl, rfl⟩, ?_⟩
  have e : (valV kvs k').isSome = (getD (ps.map keyPair) k').isSome := by
    rw [getD_pairs]
    rcases dks_look h2 k' with ⟨d', v', e1, e2, _⟩ | ⟨e1, e2⟩
    · rw [e1, e2]; rfl
    · rw [e1, e2]; rfl
  rw [e]
  exact k _ H (Same.refl H) (.bl _)

/-! ### what may be put into a slot: a datum or a new thing -/
abbrev DX := Ev → R Sl
structure XR (X : Cx) (c : Dc) (O : List Addr) (H : Hp) (O' : List Addr) (H' : Hp) (s : Sl) (v : V) : Prop where
  keep : Keep O H O' H'
  stay : ∀ env σ, Rel X.K c O H env σ → Rel X.K c O' H' env σ
  put : ∀ env σ i, Rel X.K c O H env σ → Rel X.K c O' H' (env.set i s) (σ.set i (some v))
def rdX (X : Cx) (c : Dc) (f : DX) : TE := fun σ H Q => ∃ O env, Rel X.K c O H env σ ∧ Res X c O σ H (f env) fun s => ∀ v O' H', XR X c O H O' H' s v → Q v H'
abbrev EX (X : Cx) (c : Dc) (e : Expr) (f : DX) : Prop := PE X e (rdX X c f)
def xE (f : DE) : DX := fun env => do
  let d ← f env
  .ok (.dat d)
def xF (f : DA) : DX := fun env => do
  let ds ← f env
  .ok (.own (.lst ds))
theorem x_e (h : EE X c e f) : EX X c e (xE f) := PE.imp h fun σ H Q ⟨O, env, rel, q⟩ => ⟨O, env, rel, q.bind.imp fun d q1 v H' s hv =>
  (show ∀ v O' H', XR X c O H O' H' (.dat d) v → Q v H' from q1) v O H' ⟨Keep.of s, fun env σ r => r.ext s, fun env σ i r => (r.ext s).put' hv⟩⟩
theorem x_f {f : DA} (h : EF X c e f) : EX X c e (xF f) := PE.imp h fun σ H Q ⟨O, env, rel, q⟩ => ⟨O, env, rel, q.bind.imp fun ds q1 p vs H' s n hu hw =>
  (show ∀ v O' H', XR X c O H O' H' (.own (.lst ds)) v → Q v H' from q1) (.ref p) (p :: O) H' ⟨Keep.grow n s, fun env σ r => r.grow n s (by rw [hu]; trivial), fun env σ i r => r.putNew s n hu (show OwR X.K _ (.lst _) (.lst _) from hw)⟩⟩
/-- {} -/
def xD : DX := fun _ => .ok (.own (.dic []))
theorem x_dnew (h : PE X e (fun _ H Q => ∀ d, H d = none → Q (.ref d) (upd H d (.dK [])))) : EX X c e xD := PE.imp h fun σ H Q ⟨O, env, rel, q⟩ d n =>
  (show ∀ v O' H', XR X c O H O' H' (.own (.dic [])) v → Q v H' from q) (.ref d) (d :: O) _ ⟨Keep.grow n (same_upd n), fun env σ r => r.grow n (same_upd n) (by rw [upd_same]; trivial), fun env σ i r => r.putNew (same_upd n) n upd_same (show OwR X.K _ (.dK []) (.dic []) from .nil)⟩
def dSetX (i : Nat) (f : DX) : DS := fun env => dDo (f env) (fun s => .nx (env.set i s)) env
theorem s_setX {i : Nat} {f : DX} (h : PS X st (tAsg (rdX X c f) (L2.gName i))) : SS X c st (dSetX i f) := PS.imp h fun D σ H ⟨O, env, rel, q⟩ =>
  ⟨O, env, rel, (Out.do rel q).imp fun s q1 v O' H' x => q1 O' _ H' x.keep (x.put _ _ i rel)⟩
/-- a, b = e, e' by the swap -/
def dPar2 (i j : Nat) (f g : DX) : DS := fun env => dDo (f env) (fun s => dDo (g env) (fun t => .nx ((env.set i s).set j t)) env) env
theorem s_par2 {i j : Nat} {f g : DX} (h : PS X st (tPar i j (tCons (rdX X c f) (tCons (rdX X c g) tNil)))) : SS X c st (dPar2 i j f g) := PS.imp h fun D σ H ⟨O, env, rel, q⟩ =>
  ⟨O, env, rel, (Out.do rel q).imp fun s q1 v O' H' x => ⟨O', env, x.stay _ _ rel, (Out.do (x.stay _ _ rel) (Out.mono x.keep q1)).imp fun t q2 w O2 H2 y =>
    ⟨v, w, rfl, q2 O2 _ H2 y.keep (y.put _ _ j (x.put _ _ i rel))⟩⟩⟩
def dPar3 (i j k : Nat) (f g h : DX) : DS := fun env => dDo (f env) (fun s => dDo (g env) (fun t => dDo (h env) (fun u => .nx (((env.set i s).set j t).set k u)) env) env) env
theorem s_par3 {i j k : Nat} {f g h' : DX} (h : PS X st (tPar3 i j k (tCons (rdX X c f) (tCons (rdX X c g) (tCons (rdX X c h') tNil))))) : SS X c st (dPar3 i j k f g h') := PS.imp h fun D σ H ⟨O, env, rel, q⟩ =>
  ⟨O, env, rel, (Out.do rel q).imp fun s q1 v O' H' x => ⟨O', env, x.stay _ _ rel, (Out.do (x.stay _ _ rel) (Out.mono x.keep q1)).imp fun t q2 w O2 H2 y =>
    ⟨O2, env, y.stay _ _ (x.stay _ _ rel), (Out.do (y.stay _ _ (x.stay _ _ rel)) (Out.mono y.keep q2)).imp fun u q3 z O3 H3 y3 =>
      ⟨v, w, z, rfl, q3 O3 _ H3 y3.keep (y3.put _ _ k (y.put _ _ j (x.put _ _ i rel)))⟩⟩⟩⟩

/-! ### comprehensions -/
def Dc.noW (c : Dc) : Dc := { c with W := fun _ _ _ _ => False }
theorem Rel.noW {K : PySem.W.Frag} (r : Rel K c O H env σ) : Rel K c.noW O H env σ := ⟨r.same, r.sub, r.dom0, r.dom, r.new, r.len, r.slots, r.inj, r.exs⟩
def noX {α : Type} : R α → R α
  | .ok a => .ok a
  | .error _ => .error .stuck
theorem Res.noX {α : Type} {r : R α} {k : α → Prop} (h : Res X c O σ H (DL.noX r) k) (c' : Dc) : Res X c' O1 σ H r k := by
  cases r with
  | ok a => exact h
  | error e => exact h.elim
def wipeD (env : Ev) : List Nat → Ev
  | [] => env
  | v :: vs => (wipeD env vs).set v .un
theorem Rel.wipe {K : PySem.W.Frag} (r : Rel K c O H env σ) : ∀ vs : List Nat, Rel K c O H (wipeD env vs) (wipe σ vs)
  | [] => r
  | v :: vs => (Rel.wipe r vs).wipe1 none
theorem wipe_in {σ : DL.St} {i : Nat} : ∀ {vs : List Nat}, i ∈ vs → i < σ.length → (L2.wipe σ vs)[i]? = some none
  | v :: vs, h, hl => by
    unfold L2.wipe
    by_cases e : v = i
    · subst e
      rw [List.getElem?_set_self (by rw [wipe_length]; exact hl)]
    · rw [List.getElem?_set_ne e]
      rcases List.mem_cons.mp h with z | z
      · exact absurd z.symm e
      · exact wipe_in z hl
theorem wipe_off {σ σ' : DL.St} {is vs : List Nat} (h : Off is (L2.wipe σ vs) σ') (s : ∀ i ∈ is, i ∈ vs) : L2.wipe σ' vs = L2.wipe σ vs := by
  refine List.ext_getElem? fun i => ?_
  have hl : σ'.length = σ.length := h.1.trans (wipe_length σ vs)
  by_cases hi : i ∈ vs
  · by_cases hlt : i < σ.length
    · rw [wipe_in hi (by rw [hl]; exact hlt), wipe_in hi hlt]
    · rw [List.getElem?_eq_none (by rw [wipe_length, hl]; omega), List.getElem?_eq_none (by rw [wipe_length]; omega)]
  · rw [wipe_out hi, h.2 i fun z => hi (s i z)]
def compD (g : DG) (t : DT) (f : DE) (env : Ev) : List PyData → R (List PyData)
  | [] => .ok []
  | d :: ds => match g d env with
    | none => .error .stuck
    | some e => do
      let k ← noX (t e)
      if k = true then do
        let x ← noX (f e)
        let xs ← compD g t f env ds
        .ok (x :: xs)
      else compD g t f env ds
def dComp (vs : List Nat) (fi : DA) (g : DG) (t : DT) (f : DE) : DA := fun env => do
  let ds ← fi env
  if ds.length < LIM then compD g t f (wipeD env vs) ds else .error .stuck
def tYesD : DT := fun _ => .ok true
theorem rd_comp {vs is : List Nat} {fi : DA} {g : DG} {t : DT} {f : DE} (hv : ∀ i ∈ is, i ∈ vs) : ∀ σ H Q, rdF X c (dComp vs fi g t f) σ H Q → tLc (rdI X c fi) (rdG X c.noW is g) (rdT X c.noW t) (rdE X c.noW f) vs σ H Q := fun σ H Q ⟨O, env, rel, q⟩ => by
  refine ⟨O, env, rel, q.bind.imp fun ds q1 J H0 s0 gv A nA => ?_⟩
  split at q1
  · rename_i hlim
    have rel0 := (rel.ext s0).wipe vs
    have sA : Same H0 (upd H0 A (.lst [])) := same_upd nA
    have relA := (rel0.grow (p := A) nA sA (by rw [upd_same]; trivial)).noW
    have kA : Keep O H0 (A :: O) (upd H0 A (.lst [])) := Keep.grow nA sA
    refine ⟨fun i m H1 => m = ds.length - i ∧ i ≤ ds.length ∧ Rel X.K c.noW (A :: O) H1 (wipeD env vs) (L2.wipe σ vs) ∧ Keep O H0 (A :: O) H1 ∧ Same H0 H1 ∧ ∃ (acc : List V) (as : List PyData), H1 A = some (.lst acc) ∧ Dvs X.K (hide (A :: O) H1) acc as ∧ acc.length ≤ i ∧
      Res X c O σ H (compD g t f (wipeD env vs) (ds.drop i)) (fun rs => ∀ p ws H', Same H H' → H p = none → H' p = some (.lst ws) → Dvs X.K (hide (p :: O) H') ws (as ++ rs) → Q (.ref p) H'),
      ⟨ds.length, by simp, Nat.zero_le _, relA, kA, sA, [], [], upd_same, .nil, Nat.zero_le _, by simpa using q1⟩, ?_⟩
    rintro i m H1 ⟨rfl, hi, rel1, k1, s1, acc, as, hacc, dacc, lacc, q2⟩
    obtain ⟨stp, go⟩ := gv (A :: O) H1 k1 rel1.dom
    by_cases hlt : i < ds.length
    · right
      have ed := List.drop_eq_getElem_cons hlt
      rw [ed] at q2
      obtain ⟨g1, g2⟩ := go i ds[i] (List.getElem?_eq_getElem hlt)
      refine ⟨g1, ?_⟩
      unfold compD at q2
      split at q2
      · exact q2.elim
      · rename_i e1 he1
        refine ⟨fun H' => Rel X.K c.noW (A :: O) H' (wipeD env vs) (L2.wipe σ vs) ∧ Keep O H0 (A :: O) H' ∧ Same H0 H' ∧ ∃ (acc : List V) (as : List PyData), H' A = some (.lst acc) ∧ Dvs X.K (hide (A :: O) H') acc as ∧ acc.length ≤ i + 1 ∧
          Res X c O σ H (compD g t f (wipeD env vs) (ds.drop (i + 1))) (fun rs => ∀ p ws H', Same H H' → H p = none → H' p = some (.lst ws) → Dvs X.K (hide (p :: O) H') ws (as ++ rs) → Q (.ref p) H'),
          fun H' z => ⟨ds.length - (i + 1), by omega, rfl, hlt, z⟩, fun x H' hy => ?_⟩
        obtain ⟨s', hv'⟩ := g2 x H' hy
        refine ⟨A :: O, wipeD env vs, _, rel1.ext s', hv', e1, he1, fun σ2 o2 rel2 => ⟨wipe_off o2 hv, A :: O, e1, rel2, ?_⟩⟩
        refine Res.noX (c := c) (O := O) (O1 := A :: O) (σ := σ2) (H := H') ?_ c.noW
        have q3 := Res.bind q2
        cases rk : t e1 with
        | error er => rw [rk] at q3; cases er <;> exact q3.elim
        | ok k =>
          rw [rk] at q3
          intro H2 s2
          cases k with
          | false =>
            refine L2.iteF ⟨rel1.ext (s'.trans s2), k1.trans (Keep.of (s'.trans s2)), s1.trans (s'.trans s2), acc, as, s2 _ _ (s' _ _ hacc), dacc.same (hide_same (s'.trans s2)), Nat.le_succ_of_le lacc, q3⟩
          | true =>
            refine L2.iteT ⟨A :: O, e1, rel2.ext s2, ?_⟩
            have q4 : Res X c O σ H (DL.noX (f e1) >>= fun x => compD g t f (wipeD env vs) (ds.drop (i + 1)) >>= fun xs => .ok (x :: xs)) _ := q3
            have q5 := Res.bind q4
            cases rf : f e1 with
            | error er => rw [rf] at q5; cases er <;> exact q5.elim
            | ok d =>
              rw [rf] at q5
              have q6 := Res.bind q5
              intro y H3 s3 hy3
              have s23 := (s'.trans s2).trans s3
              have hacc3 := s23 _ _ hacc
              have rel3 := rel1.ext s23
              refine ⟨acc, hacc3, lim_lt (by omega), ?_⟩
              have hin : A ∈ A :: O := List.mem_cons_self
              have hh : hide (A :: O) (upd H3 A (.lst (acc ++ [y]))) = hide (A :: O) H3 := hide_upd hin
              have kp : Keep (A :: O) H3 (A :: O) (upd H3 A (.lst (acc ++ [y]))) := Keep.change hin
              have sm : Same H0 (upd H3 A (.lst (acc ++ [y]))) := fun b o hb => by
                rw [upd_ne (ne_of_none hb nA)]; exact s23 _ _ (s1 b o hb)
              refine ⟨⟨(rel.same.trans s0).trans sm, rel3.sub, rel3.dom0, fun b hb => ?_, rel3.new, rel3.len, fun j sl ej => ?_, rel3.inj, fun tt ht => (rel3.exs tt ht).keep kp⟩, (k1.trans (Keep.of s23)).trans kp, sm, acc ++ [y], as ++ [d], upd_same, by rw [hh]; exact (dacc.same (hide_same s23)).app (.one hy3), by rw [List.length_append]; exact Nat.succ_le_succ lacc, ?_⟩
              · by_cases hbA : b = A
                · subst hbA; rw [upd_same]; trivial
                · rw [upd_ne hbA]; exact rel3.dom b hb
              · have z := rel3.slots j sl ej
                cases sl with
                | un => trivial
                | dat d' =>
                  obtain ⟨v', a1, a2⟩ := z
                  exact ⟨v', a1, by rw [hh]; exact a2⟩
                | own w' =>
                  obtain ⟨p', u', a1, a2, a3, a4, a5⟩ := z
                  have hne : p' ≠ A := by
                    rintro rfl
                    obtain ⟨p2, u2, b1, b2, b3, b4, b5⟩ := rel0.slots j _ ej
                    rw [a1] at b1; cases b1
                    rw [nA] at b4; cases b4
                  exact ⟨p', u', a1, a2, a3, by rw [upd_ne hne]; exact a4, by rw [hh]; exact a5⟩
              · refine q6.imp fun rs q7 p ws H' sH n hp hd => ?_
                have q8 : ∀ p ws H', Same H H' → H p = none → H' p = some (.lst ws) → Dvs X.K (hide (p :: O) H') ws (as ++ (d :: rs)) → Q (.ref p) H' := q7
                exact q8 p ws H' sH n hp (by rw [List.append_assoc] at hd; exact hd)
    · left
      have e : i = ds.length := by omega
      subst e
      refine ⟨stp, ?_⟩
      rw [List.drop_length] at q2
      have q3 : ∀ p ws H', Same H H' → H p = none → H' p = some (.lst ws) → Dvs X.K (hide (p :: O) H') ws (as ++ []) → Q (.ref p) H' := q2
      exact q3 A acc H1 (s0.trans s1) (s0.free nA) hacc (by rw [List.append_nil]; exact dacc)
  · exact q1.elim
theorem f_comp {vs is : List Nat} {fi : DA} {g : DG} {t : DT} (hv : ∀ i ∈ is, i ∈ vs) (h : PE X e (tLc (rdI X c fi) (rdG X c.noW is g) (rdT X c.noW t) (rdE X c.noW f) vs)) : EF X c e (dComp vs fi g t f) := PE.imp h (rd_comp hv)
theorem rd_setF {i : Nat} {f : DA} {te : TE} (h : PS X st (tAsg te (L2.gName i))) (hi : ∀ σ H Q, rdF X c f σ H Q → te σ H Q) : SS X c st (dSetF i f) := PS.imp h fun D σ H ⟨O, env, rel, q⟩ =>
  hi _ _ _ ⟨O, env, rel, (Out.do rel q).imp fun ds q1 p vs H' s n hu hw => q1 (p :: O) _ H' (Keep.grow n s) (rel.putNew s n hu (show OwR X.K _ (.lst _) (.lst _) from hw))⟩
theorem rd_setE {i : Nat} {te : TE} (h : PS X st (tAsg te (L2.gName i))) (hi : ∀ σ H Q, rdE X c f σ H Q → te σ H Q) : SS X c st (dSet i f) := PS.imp h fun D σ H ⟨O, env, rel, q⟩ =>
  hi _ _ _ ⟨O, env, rel, (Out.do rel q).imp fun d q1 v H' s b => q1 O _ H' (Keep.of s) ((rel.ext s).put' b)⟩
/-- x = [..]: a list that is held -/
theorem s_setC {i : Nat} {vs is : List Nat} {fi : DA} {g : DG} {t : DT} {f : DE} (hv : ∀ i ∈ is, i ∈ vs) (h : PS X st (tAsg (tLc (rdI X c fi) (rdG X c.noW is g) (rdT X c.noW t) (rdE X c.noW f) vs) (L2.gName i))) : SS X c st (dSetF i (dComp vs fi g t f)) := rd_setF h (rd_comp hv)
/-- a new list, as a datum -/
def dOfF (f : DA) : DE := fun env => do
  let ds ← f env
  .ok (.list ds)
theorem e_ofF {f : DA} (h : EF X c e f) : EE X c e (dOfF f) := PE.imp h fun σ H Q ⟨O, env, rel, q⟩ => ⟨O, env, rel, q.bind.imp fun ds q1 p vs H' s n hu hw =>
  (show ∀ v H', Same H H' → Dv X.K (hide O H') v (.list ds) → Q v H' from q1) (.ref p) H' s (.lst (.inl (.inl (by rw [hide_out (rel.fresh n)]; exact hu))) (hw.same (hide_sub fun a ha => List.mem_cons_of_mem _ ha)))⟩
theorem rd_ofF {f : DA} : ∀ σ H Q, rdE X c (dOfF f) σ H Q → rdF X c f σ H Q := fun σ H Q ⟨O, env, rel, q⟩ => ⟨O, env, rel, q.bind.imp fun ds q1 p vs H' s n hu hw =>
  (show ∀ v H', Same H H' → Dv X.K (hide O H') v (.list ds) → Q v H' from q1) (.ref p) H' s (.lst (.inl (.inl (by rw [hide_out (rel.fresh n)]; exact hu))) (hw.same (hide_sub fun a ha => List.mem_cons_of_mem _ ha)))⟩
/-- x = [..]: a list that nobody changes -/
theorem s_setCE {i : Nat} {vs is : List Nat} {fi : DA} {g : DG} {t : DT} {f : DE} (hv : ∀ i ∈ is, i ∈ vs) (h : PS X st (tAsg (tLc (rdI X c fi) (rdG X c.noW is g) (rdT X c.noW t) (rdE X c.noW f) vs) (L2.gName i))) : SS X c st (dSet i (dOfF (dComp vs fi g t f))) := rd_setE h fun σ H Q q => rd_comp hv σ H Q (rd_ofF σ H Q q)
end
end DL

set_option Elab.async false
set_option linter.all false
set_option maxRecDepth 100000
set_option maxHeartbeats 2000000
namespace DL
open PySem PySem.Spec L2 PyProof.Rows
set_option autoImplicit false

/-! ### a def keeps its promise -/
def startD (k : Nat) (ds : List PyData) : Ev := ds.map Sl.dat ++ List.replicate (k - ds.length) Sl.un
def outR : Fl → R PyData
  | .nx _ => .ok .none
  | .rt d => .ok d
  | .ex _ n fs => .error (.exc n fs)
  | _ => .error .stuck
def runD (k : Nat) (g : DS) (ds : List PyData) : R PyData := outR (g (startD k ds))
def cD (H : Hp) (O : List Addr) (E : XK) : Dc := { H_0 := H, O_0 := O, W := fun cls d _ H' => E cls d H' }
theorem rel_start {K : PySem.W.Frag} {H : Hp} {O : List Addr} {E : XK} {N : List Str} {vs : List V} {ds : List PyData} (m : ∀ a ∈ O, Mut (H a)) (h : Dvs K (hide O H) vs ds) : Rel K (cD H O E) O H (startD N.length ds) (L2.start N vs) := by
  have hl := h.length
  refine ⟨Same.refl H, fun a ha => ha, m, m, fun a ha => .inl ha, ?_, fun i s e => ?_, fun i j ds' es p ei => ?_, fun t ht => by cases ht⟩
  · unfold startD L2.start
    simp only [List.length_append, List.length_map, List.length_replicate, hl]
  · unfold startD at e
    unfold L2.start
    by_cases hi : i < ds.length
    · rw [List.getElem?_append_left (by rw [List.length_map]; exact hi), List.getElem?_map] at e
      rw [List.getElem?_append_left (by rw [List.length_map, hl]; exact hi), List.getElem?_map]
      obtain ⟨d, hd, rfl⟩ := Option.map_eq_some_iff.mp e
      obtain ⟨v, hv, dv⟩ := h.get hd
      exact ⟨v, by rw [hv]; rfl, dv⟩
    · rw [List.getElem?_append_right (by rw [List.length_map]; omega)] at e
      have := List.mem_of_getElem? e
      rw [List.mem_replicate] at this
      obtain ⟨_, rfl⟩ := this
      trivial
  · exfalso
    unfold startD at ei
    by_cases hi : i < ds.length
    · rw [List.getElem?_append_left (by rw [List.length_map]; exact hi), List.getElem?_map] at ei
      obtain ⟨d, _, z⟩ := Option.map_eq_some_iff.mp ei
      cases z
    · rw [List.getElem?_append_right (by rw [List.length_map]; omega)] at ei
      have := List.mem_of_getElem? ei
      rw [List.mem_replicate] at this
      cases this.2
section
variable {P : Program} {w : World} {K : PySem.W.Frag} {mg : Str → Option Value} {base : Heap}
abbrev cxD (P : Program) (w : World) (K : PySem.W.Frag) (mg : Str → Option Value) (base : Heap) (N : List Str) (qual : Str) (sc : Scope) (f : Addr) (cdv : Value) (A : Around) (outer : List Env) (s : Shared) (H : Hp) (E : XK) : Cx := cxOf (L2.CX P w) P w K mg base N qual sc f cdv A outer s H E
/-- from what the body computes -/
theorem body_ok {X : Cx} {H : Hp} {O : List Addr} {E : XK} {N : List Str} {vs : List V} {ds : List PyData} {n : Nat} {m : List PyData → R PyData} {g : DS} {Q : VK} (hX : X.K = K) (hmg : X.mg = mg) (m1 : ∀ a ∈ O, Mut (H a)) (h : Dvs K (hide O H) vs ds)
    (hm : ∀ ds, ds.length = n → m ds ≠ .error .stuck → runD N.length g ds = m ds)
    (q : match callN n m ds with
      | .ok d => ∀ v H', Same H H' → Dv K (hide O H') v d → Q v H'
      | .error (.exc nm fs) => ∀ (cls : Value) (dd : Option Addr) (H' : Hp), Same H H' → ExcR mg K O H' nm fs cls dd → E cls dd H'
      | .error .stuck => False) : rdS X (cD H O E) g { nx := fun _ H' => Q .non H', rt := Q } (L2.start N vs) H := by
  subst hX hmg
  refine ⟨O, startD N.length ds, rel_start m1 h, ?_⟩
  have hne : callN n m ds ≠ .error .stuck := fun z => by rw [z] at q; exact q
  have hl := callN_len hne
  have e1 : callN n m ds = m ds := by
    unfold callN
    rw [show Nat.beq ds.length n = true from by rw [hl]; exact Nat.beq_refl n]
  rw [e1] at q hne
  have hr := hm ds hl hne
  unfold runD at hr
  rw [← hr] at q
  cases r : g (startD N.length ds) with
  | nx e =>
    rw [r] at q
    exact fun O' σ' H' k rel => (show ∀ v H', Same H H' → Dv X.K (hide O H') v .none → Q v H' from q) .non H' rel.same .non
  | rt d =>
    rw [r] at q
    exact fun v H' s hv => (show ∀ v H', Same H H' → Dv X.K (hide O H') v d → Q v H' from q) v H' s hv
  | bk e => rw [r] at q; exact q.elim
  | ct e => rw [r] at q; exact q.elim
  | stuck => rw [r] at q; exact q.elim
  | ex ee nm fs =>
    rw [r] at q
    clear r
    intro O' σ' H' cls dd k rel hx
    have q' : ∀ (cls : Value) (dd : Option Addr) (H' : Hp), Same H H' → ExcR X.mg X.K O H' nm fs cls dd → E cls dd H' := q
    refine q' cls dd H' rel.same ?_
    obtain ⟨C, a1, a2, a3⟩ := hx
    refine ⟨C, a1, a2, ?_⟩
    cases fs with
    | nil => trivial
    | cons p r =>
      cases r with
      | cons _ _ => exact a3
      | nil =>
        obtain ⟨p', v, b1, b2, b3⟩ := a3
        exact ⟨p', v, b1, b2, b3.same (hide_sub rel.sub)⟩
theorem def_ok {x qual : Str} {st : Stmt} {f : Addr} {fd : FuncData} {N ps : List Str} {k n : Nat} {m : List PyData → R PyData} {g : DS} (F : Fun K x qual st f fd) (S : FnScope N ps (defScope st)) (hps : ps.length = n)
    (hm : ∀ ds, ds.length = n → m ds ≠ .error .stuck → runD N.length g ds = m ds)
    (body : ∀ (cdv : Value) (A : Around) (outer : List Env) (s : Shared) (H : Hp) (O : List Addr) (E : XK), Room k (A.deeper (envOfC qual (defScope st) s.heap.objs.size f cdv)) →
      Takes (cxD P w K mg base N qual (defScope st) f cdv A outer s H E) (cD H O E).W → PassesOwn (model P w) (A.deeper (envOfC qual (defScope st) s.heap.objs.size f cdv)) (cxD P w K mg base N qual (defScope st) f cdv A outer s H E).env (cxD P w K mg base N qual (defScope st) f cdv A outer s H E).xe →
      SSs (cxD P w K mg base N qual (defScope st) f cdv A outer s H E) (cD H O E) (defBody st) g) : FnOk P w K mg base (L2.CX P w) (k + 1) f fd ps (spM K mg n m) := by
  refine F.okX S (fun vs H Q E h => by rw [hps]; exact h.len) (fun cdv A outer s H vs Q E hr h => ?_)
  obtain ⟨O, ds, m1, dvs, q⟩ := h
  exact ⟨_, body cdv A outer s H O E hr (takes_of rfl rfl rfl rfl) (passes_of rfl), body_ok rfl rfl m1 dvs hm q⟩
end
section
variable {X : Cx} {c : Dc} {D : Ends} {O O1 : List Addr} {σ : DL.St} {H H1 : Hp} {a b e : Expr} {es : List Expr} {pos : Pos} {fa fb fc f : DE} {ta tb : DT} {env : Ev} {st : Stmt}

/-! ### raise -/
/-- X(), an own class without an __init__ of its own -/
theorem pmk_own0 {C : Addr} {bmB : List Value} {B newId initId : String} {x : Str} {p : Pos} (F : ExcBaseFacts B newId initId bmB) (q : PySem.W.excIn X.K C bmB newId = true) (gC : X.mg x = some (.ref C)) (kC : PySem.W.keepIn X.K (.ref C) = true) (r : Raises X (.ref C)) (hg : Gl X x := by rfl)
    (hdb : (x == ("__debug__" : Str)) = false := by decide) : PMk X (.Call (.Name x p) [] [] pos) (fun _ H Q => Q (.ref C) none H) := by
  intro pins s σ H Q I h
  refine wpAny_Call_Name_kw (ld_glob I hg gC ?_ hdb)
  have ha : PA X [] tNil := pa_nil
  refine PySem.W.callWith_K0 I.kIn kC ?_
  show wpAny _ _ (call (.ref C) []) _ _ _
  obtain ⟨bm, N, nm, qn, bs, hdct, sn, sub, ab, col, dd, k0, k1, k2, k3, k5, mN, hC, hN, hni, T⟩ := exc_obj I.kIn q
  refine wpAny_call_exc_subT F T hC hN hni (fun h' e hm => ?_) (by show 0 ≤ sizeLine; exact Nat.zero_le _)
  exact mk_of I hm r h (I.hok.gone hm.new)
def dRaise (n : Str) : DS := fun env => .ex env n []
theorem s_raise0 {n : Str} {C : Addr} (gC : X.mg n = some (.ref C)) (h : PS X st (fun _ σ H => c.W (.ref C) none σ H)) : SS X c st (dRaise n) := PS.imp h fun D σ H ⟨O, env, rel, q⟩ =>
  q O σ H (.ref C) none (Keep.refl _ _) rel ⟨C, gC, rfl, trivial⟩
/-- raise X(e), X with one field -/
def dRaise1 (n fld : Str) (f : DE) : DS := fun env => dDo (f env) (fun d => .ex env n [(fld, d)]) env
theorem s_raise1 {n fld : Str} {C : Addr} (gC : X.mg n = some (.ref C)) (h : PS X st (fun _ σ H => tCons (rdE X c f) tNil σ H fun vs H1 => ∃ v, vs = [v] ∧ ∀ d, H1 d = none → c.W (.ref C) (some d) σ (upd H1 d (.xd [(fld, v)])))) : SS X c st (dRaise1 n fld f) := PS.imp h fun D σ H ⟨O, env, rel, q⟩ =>
  ⟨O, env, rel, (Out.do rel q).imp fun d q1 v H' s hv => ⟨v, rfl, fun p np => by
    have s2 := s.trans (same_upd (o := .xd [(fld, v)]) np)
    exact q1 O σ _ (.ref C) (some p) (Keep.of s2) (rel.ext s2) ⟨C, gC, rfl, p, v, rfl, upd_same, hv.same (hide_same (same_upd np))⟩⟩⟩

/-! ### try .. except X: suite -/
/-- one clause -/
def dTry (b : DS) (sub : Str → Option Bool) (h : List (Str × PyData) → DS) : DS := fun env => match b env with
  | .ex e n fs => match sub n with
    | some true => h fs e
    | some false => .ex e n fs
    | none => .stuck
  | r => r
/-- the held exception's field, in a suite -/
def suiteF (d : Option Addr) (fs : List (Str × PyData)) : List (Addr × Str × PyData) := match d, fs with
  | some p, [(f, x)] => [(p, f, x)]
  | _, _ => []
theorem rdS_W {W W' : WX} {F : List (Addr × Str × PyData)} {H0 : Hp} {O0 : List Addr} {g : DS} (i : ∀ cls dd σ H, W cls dd σ H → W' cls dd σ H) {D : Ends} (h : rdS X ⟨H0, O0, W, F⟩ g D σ H) : rdS X ⟨H0, O0, W', F⟩ g D σ H := by
  obtain ⟨O, env, rel, q⟩ := h
  have conv : ∀ {O H env σ}, Rel X.K ⟨H0, O0, W', F⟩ O H env σ → Rel X.K ⟨H0, O0, W, F⟩ O H env σ := fun r => ⟨r.same, r.sub, r.dom0, r.dom, r.new, r.len, r.slots, r.inj, r.exs⟩
  refine ⟨O, env, ⟨rel.same, rel.sub, rel.dom0, rel.dom, rel.new, rel.len, rel.slots, rel.inj, rel.exs⟩, ?_⟩
  cases r : g env with
  | nx e => rw [r] at q; exact fun O' σ' H' k rel' => q O' σ' H' k (conv rel')
  | bk e => rw [r] at q; exact fun O' σ' H' k rel' => q O' σ' H' k (conv rel')
  | ct e => rw [r] at q; exact fun O' σ' H' k rel' => q O' σ' H' k (conv rel')
  | rt d => rw [r] at q; exact q
  | stuck => rw [r] at q; exact q
  | ex e n fs => rw [r] at q; exact fun O' σ' H' cls dd k rel' hx => i _ _ _ _ (q O' σ' H' cls dd k (conv rel') hx)
/-- the body's reading under the clause's wish -/
theorem rd_try {K : PySem.W.Frag} {b : DS} {sub : Str → Option Bool} {h : List (Str × PyData) → DS} {W' : WX} {D : Ends} (q : rdS X c (dTry b sub h) D σ H)
    (hW : ∀ (O : List Addr) (H : Hp) (σ : DL.St) (env : Ev) (n : Str) (fs : List (Str × PyData)) (cls : Value) (dd : Option Addr), Rel X.K c O H env σ → ExcR X.mg X.K O H n fs cls dd → Out X c D O H (match sub n with
      | some true => h fs env
      | some false => .ex env n fs
      | none => .stuck) → W' cls dd σ H) : rdS X { c with W := W' } b D σ H := by
  obtain ⟨O, env, rel, q⟩ := q
  have conv : ∀ {O H env σ}, Rel X.K { c with W := W' } O H env σ → Rel X.K c O H env σ := fun r => ⟨r.same, r.sub, r.dom0, r.dom, r.new, r.len, r.slots, r.inj, r.exs⟩
  refine ⟨O, env, ⟨rel.same, rel.sub, rel.dom0, rel.dom, rel.new, rel.len, rel.slots, rel.inj, rel.exs⟩, ?_⟩
  unfold dTry at q
  cases r : b env with
  | nx e => rw [r] at q; exact fun O' σ' H' k rel' => q O' σ' H' k (conv rel')
  | bk e => rw [r] at q; exact fun O' σ' H' k rel' => q O' σ' H' k (conv rel')
  | ct e => rw [r] at q; exact fun O' σ' H' k rel' => q O' σ' H' k (conv rel')
  | rt d => rw [r] at q; exact q
  | stuck => rw [r] at q; exact q
  | ex e n fs => rw [r] at q; exact fun O' σ' H' cls dd k rel' hx => hW O' H' σ' e n fs cls dd (conv rel') hx (Out.mono k q)
/-- try: body, except C: suite -/
theorem s_try1 {b : DS} {sub : Str → Option Bool} {hs : List (Str × PyData) → DS} {cv : Value} {tb : WX → TS} {ts : Addr → Value → Option Addr → TS}
    (h : PS X st (fun D σ H => tb (wOnly X.K cv ts c.W D) D σ H))
    (hb : ∀ W D σ H, rdS X { c with W := W } b D σ H → tb W D σ H)
    (hx : ∀ (n : Str) (k : Bool) (C : Addr), sub n = some k → X.mg n = some (.ref C) → PySem.W.exmOne X.K (.ref C) cv = some k)
    (hsu : ∀ (a : Addr) (cls : Value) (d : Option Addr) (fs : List (Str × PyData)) (D : Ends) (σ : DL.St) (H : Hp), rdS X { c with F := suiteF d fs ++ c.F } (hs fs) D σ H → ts a cls d D σ H) : SS X c st (dTry b sub hs) := PS.imp h fun D σ H q => by
  refine hb _ D σ H (rd_try (K := X.K) (W' := wOnly X.K cv ts c.W D) q fun O H σ env n fs cls dd rel hx' q1 => ?_)
  obtain ⟨C, gC, rfl, hf⟩ := id hx'
  cases sn : sub n with
  | none => rw [sn] at q1; exact q1.elim
  | some k =>
    rw [sn] at q1
    refine ⟨k, hx n k C sn gC, fun hk a na => ?_, fun hk => ?_⟩
    · subst hk
      refine hsu a (.ref C) dd fs D σ H ?_
      have relF : Rel X.K { c with F := suiteF dd fs ++ c.F } O H env σ := ⟨rel.same, rel.sub, rel.dom0, rel.dom, rel.new, rel.len, rel.slots, rel.inj, fun t ht => by
        rcases List.mem_append.mp ht with z | z
        · cases dd with
          | none => cases z
          | some p =>
            cases fs with
            | nil => cases z
            | cons p1 r1 =>
              cases r1 with
              | cons _ _ => cases z
              | nil =>
                obtain ⟨f1, x1⟩ := p1
                have z' : t = (p, f1, x1) := by simpa [suiteF] using z
                subst z'
                obtain ⟨p', v, b1, b2, b3⟩ := hf
                cases b1
                refine ⟨fun zz => ?_, v, b2, b3⟩
                have mm := rel.dom _ zz
                have b2' : H p = some (.xd [(f1, v)]) := b2
                rw [b2'] at mm
                exact mm
        · exact rel.exs t z⟩
      have conv : ∀ {O H env σ}, Rel X.K { c with F := suiteF dd fs ++ c.F } O H env σ → Rel X.K c O H env σ := fun r => ⟨r.same, r.sub, r.dom0, r.dom, r.new, r.len, r.slots, r.inj, fun t ht => r.exs t (List.mem_append_right _ ht)⟩
      refine ⟨O, env, relF, ?_⟩
      have q2 : Out X c D O H (hs fs env) := q1
      cases r : hs fs env with
      | nx e => rw [r] at q2; exact fun O' σ' H' k rel' => q2 O' σ' H' k (conv rel')
      | bk e => rw [r] at q2; exact fun O' σ' H' k rel' => q2 O' σ' H' k (conv rel')
      | ct e => rw [r] at q2; exact fun O' σ' H' k rel' => q2 O' σ' H' k (conv rel')
      | rt d => rw [r] at q2; exact q2
      | stuck => rw [r] at q2; exact q2
      | ex e n fs => rw [r] at q2; exact fun O' σ' H' cls dd k rel' hx => q2 O' σ' H' cls dd k (conv rel') hx
    · subst hk
      exact q1 O σ H (.ref C) dd (Keep.refl _ _) rel hx'
/-- a suite, whatever the exception's fields -/
theorem ss_suite {X' : Cx} {sts : List Stmt} {d : Option Addr} {hs : List (Str × PyData) → DS} (h : ∀ fs, PSs X' sts (rdS X { c with F := suiteF d fs ++ c.F } (hs fs))) : PSs X' sts (fun D σ H => ∃ fs, rdS X { c with F := suiteF d fs ++ c.F } (hs fs) D σ H) :=
  ⟨fun pins s σ H D I ⟨fs, q⟩ => (h fs).run pins s σ H D I q⟩
theorem s_try {b : DS} {sub : Str → Option Bool} {hs : List (Str × PyData) → DS} {cv : Value}
    (h : PS X st (fun D σ H => rdS X { c with W := wOnly X.K cv (fun a cls d D σ H => ∃ fs, rdS X { c with F := suiteF d fs ++ c.F } (hs fs) D σ H) c.W D } b D σ H))
    (hx : ∀ (n : Str) (k : Bool) (C : Addr), sub n = some k → X.mg n = some (.ref C) → PySem.W.exmOne X.K (.ref C) cv = some k) : SS X c st (dTry b sub hs) :=
  s_try1 (tb := fun W => rdS X { c with W := W } b) (ts := fun a cls d D σ H => ∃ fs, rdS X { c with F := suiteF d fs ++ c.F } (hs fs) D σ H) h (fun W D σ H q => q) hx (fun a cls d fs D σ H q => ⟨fs, q⟩)
end
/-- a def that may be called, told once -/
def Def (P : Program) (w : World) (K : PySem.W.Frag) (mg : Str → Option Value) (base : Heap) (x : Str) (n : Nat) (m : List PyData → R PyData) (k : Nat) : Prop :=
  ∃ (f : Addr) (fd : FuncData) (ps : List Str), FnOk P w K mg base (L2.CX P w) k f fd ps (spM K mg n m) ∧ mg x = some (.ref f) ∧ PySem.W.keepIn K (.ref f) = true ∧ Binds K fd ps []
theorem Def.cal {P : Program} {w : World} {K : PySem.W.Frag} {mg : Str → Option Value} {base : Heap} {x : Str} {n : Nat} {m : List PyData → R PyData} {k k' : Nat} {A : Around} (d : Def P w K mg base x n m k) (hr : Room k' A) (h : k ≤ k') : Cal P w K mg base A x n m := by
  obtain ⟨f, fd, ps, F, hm, hk, hb⟩ := d
  exact ⟨k, f, fd, ps, F, hr.mono h, hm, hk, hb⟩
/-- the promise of a law's def -/
def spL (K : PySem.W.Frag) : Sp := fun vs H Q _ => ∃ (a : Addr) (ns : List Int), vs = [.ref a] ∧ SqL K H a (ns.map V.int) ∧ ns.length ≤ 63 ∧ ∀ H', Q (.bl true) H'
theorem spL_of {K : PySem.W.Frag} {mg : Str → Option Value} {m : List PyData → R PyData} (hm : ∀ ns : List Int, ns.length ≤ 63 → m [.list (ns.map .int)] = .ok (.bool true)) {vs : List V} {H : Hp} {Q : VK} {E : XK} (h : spL K vs H Q E) : spM K mg 1 m vs H Q E := by
  obtain ⟨a, ns, rfl, hS, hl, q⟩ := h
  refine ⟨[], [.list (ns.map .int)], (fun _ z => by cases z), by rw [hide_nil]; exact .one (.lst hS (Dvs.ints ns)), ?_⟩
  have e : callN 1 m [.list (ns.map .int)] = .ok (.bool true) := hm ns hl
  rw [e]
  intro v H' _ hv
  cases hv
  exact q H'
end DL

set_option Elab.async false
set_option linter.all false
set_option maxRecDepth 100000
set_option maxHeartbeats 2000000
/-! tuples cut backwards -/
namespace HT
open PySem PySem.Spec PyProof.Rows
section
variable {prog : Program} {w : World} {A : Around} {E : Value → Shared → Prop} {s : Shared}
theorem dl_sliceNeg {sl : Addr} {vl vu vs : Value} {lo hi : Option Int} {n : Nat} {Q : Int × Int × Nat → Shared → Prop} (hs : s.heap.IsSliceOf sl vl vu vs) (pl : IsPart vl lo) (pu : IsPart vu hi) (ps : IsPart vs (some (-1)))
    (h : Q ((Builtin.Slice.sliceAdjust lo hi (-1) (n : Int)).1, -1, Builtin.Slice.slicePlaces (Builtin.Slice.sliceAdjust lo hi (-1) (n : Int)).1 (Builtin.Slice.sliceAdjust lo hi (-1) (n : Int)).2 (-1)) s) :
    wpAny (model prog w) A (Builtin.Slice.sliceApplied (.ref sl) (pure (n : Int))) Q E s := by
  obtain ⟨os, hos, hcs, hds⟩ := id hs
  unfold Builtin.Slice.sliceApplied Builtin.Slice.sliceFields
  refine wpAny_bind (wpAny_bind (wpAny_field hos hds (x := vl) rfl (wpAny_bind (wpAny_field hos hds (x := vu) rfl (wpAny_bind (wpAny_field hos hds (x := vs) rfl (wpAny_pure ?_)))))))
  refine wpAny_bind (slicePart_ ps ?_)
  show wpAny _ _ (if ((-1 : Int) == 0) = true then _ else _) _ _ s
  rw [if_neg (by decide)]
  refine wpAny_bind (slicePart_ pl (wpAny_bind (slicePart_ pu (wpAny_bind (wpAny_pure ?_)))))
  exact wpAny_pure h
theorem dl_tupleNeg {t sl : Addr} {items : Array Value} {vl vu vs : Value} {lo hi : Option Int} {Q : Value → Shared → Prop} (ht : IsTup s.heap t items) (hs : s.heap.IsSliceOf sl vl vu vs) (pl : IsPart vl lo) (pu : IsPart vu hi) (ps : IsPart vs (some (-1)))
    (L : List Value) (hL : ((List.range (Builtin.Slice.slicePlaces (Builtin.Slice.sliceAdjust lo hi (-1) (items.size : Int)).1 (Builtin.Slice.sliceAdjust lo hi (-1) (items.size : Int)).2 (-1))).filterMap fun (m : Nat) => items[((Builtin.Slice.sliceAdjust lo hi (-1) (items.size : Int)).1 + (m : Int) * (-1)).toNat]?) = L)
    (h : Q (.ref s.heap.objs.size) { s with heap := s.heap.push { cls := .type "tuple", data := .seq L.toArray } }) (hsz : L.length ≤ sizeLine) : wpAny (model prog w) A (getItem (.ref t) (.ref sl)) Q E s := by
  have htake : sizeOk (.seq L.toArray) := by
    show L.toArray.size ≤ sizeLine
    rw [List.size_toArray]; exact hsz
  obtain ⟨os, hos, hcs, hds⟩ := id hs
  have hTs : s.TypeIs (.ref sl) "slice" := ⟨os, hos, hcs⟩
  unfold getItem
  try with_reducible refine wpAny_holding ?_
  first | refine wpAny_bind (wpAny_pure ?_) | skip
  refine wpAny_bind (wpAny_sequenceKey ht.typeIs (by decide) ?_)
  refine wpAny_bind (wpAny_callSpecial?_slot (name := Str.ofString "__getitem__") ht.typeIs PyProof.Rows.slot_tuple_getitem
    (wpAny_call_entry PyProof.Rows.slot_tuple_getitem ht.typeIs entry_tuple_getitem ?_ (args_tuple_getitem _ _)))
  show wpAny _ _ (Builtin.Tuple.tupleItemsOf (.ref t) >>= _) _ _ s
  refine wpAny_bind (tupleItemsOf_ ht ?_)
  refine wpAny_bind (wpAny_typeOf hTs ?_)
  rw [if_pos (by decide)]
  refine wpAny_bind (dl_sliceNeg hs pl pu ps ?_)
  have hno : ∀ (x : Int) (k : Nat), ¬ ((x == 0 && (-1 : Int) == 1 && k == items.size) = true) := by
    intro x k q
    rw [Bool.and_eq_true, Bool.and_eq_true] at q
    exact absurd q.1.2 (by decide)
  show wpAny _ _ (if ((Builtin.Slice.sliceAdjust lo hi (-1) (items.size : Int)).1 == 0 && (-1 : Int) == 1 && Builtin.Slice.slicePlaces (Builtin.Slice.sliceAdjust lo hi (-1) (items.size : Int)).1 (Builtin.Slice.sliceAdjust lo hi (-1) (items.size : Int)).2 (-1) == items.size) = true then _ else _) _ _ s
  rw [if_neg (hno _ _), hL]
  first
    | exact wpAny_bind (m := Builtin.Tuple.tupleExact _) (wpAny_newObj_type (wpAny_pure ⟨_, rfl, wpAny_pure h⟩) htake)
    | exact wpAny_bind (m := Builtin.Tuple.tupleExact _) (wpAny_newObj_type (wpAny_bind (wpAny_pure (wpAny_pure ⟨_, rfl, wpAny_pure h⟩))) htake)
    | exact wpAny_bind (wpAny_bind (m := Builtin.Tuple.tupleExact _) (wpAny_newObj_type (wpAny_pure (wpAny_pure ⟨_, rfl, wpAny_pure h⟩)) htake))
    | exact wpAny_bind (wpAny_bind (m := Builtin.Tuple.tupleExact _) (wpAny_newObj_type (wpAny_pure ⟨_, rfl, wpAny_pure h⟩) htake))
end
end HT
namespace DL
open PySem PySem.Spec L2 PyProof.Rows
set_option autoImplicit false
/-- the items of t[lo:hi:-1] -/
def pickN {α : Type} (ds : List α) (lo hi : Option Int) : List α := (List.range (Builtin.Slice.slicePlaces (Builtin.Slice.sliceAdjust lo hi (-1) (ds.length : Int)).1 (Builtin.Slice.sliceAdjust lo hi (-1) (ds.length : Int)).2 (-1))).filterMap fun (m : Nat) => ds[((Builtin.Slice.sliceAdjust lo hi (-1) (ds.length : Int)).1 + (m : Int) * (-1)).toNat]?
section
variable {X : Cx} {c : Dc} {D : Ends} {O O1 : List Addr} {σ : DL.St} {H H1 : Hp} {a b e : Expr} {es : List Expr} {pos : Pos} {fa fb fc f : DE} {env : Ev}
theorem filterMap_paired {α β : Type} {F : α → β → Prop} {xs : List α} {ys : List β} (h : Paired F xs ys) (f : Nat → Nat) : ∀ l : List Nat, Paired F (l.filterMap fun m => xs[f m]?) (l.filterMap fun m => ys[f m]?)
  | [] => .nil
  | m :: l => by
    rw [List.filterMap_cons, List.filterMap_cons]
    have ih := filterMap_paired h f l
    have key : ∀ {xs : List α} {ys : List β}, Paired F xs ys → ∀ i : Nat, (xs[i]? = none ∧ ys[i]? = none) ∨ ∃ x y, xs[i]? = some x ∧ ys[i]? = some y ∧ F x y := by
      intro xs ys h
      induction h with
      | nil => intro i; exact .inl ⟨by simp, by simp⟩
      | cons r t ih =>
        intro i
        cases i with
        | zero => exact .inr ⟨_, _, rfl, rfl, r⟩
        | succ j => simpa using ih j
    rcases key h (f m) with ⟨e1, e2⟩ | ⟨x, y, e1, e2, r⟩
    · rw [e1, e2]; exact ih
    · rw [e1, e2]; exact .cons r ih
theorem dvs_paired {K : PySem.W.Frag} : ∀ {vs : List V} {ds : List PyData}, Dvs K H vs ds → Paired (Dv K H) vs ds
  | _, _, .nil => .nil
  | _, _, .cons h t => .cons h (dvs_paired t)
theorem paired_dvs {K : PySem.W.Frag} : ∀ {vs : List V} {ds : List PyData}, Paired (Dv K H) vs ds → Dvs K H vs ds
  | _, _, .nil => .nil
  | _, _, .cons h t => .cons h (paired_dvs t)
def dSlN (f : DE) (l u : DO) : DE := fun env => do
  let x ← f env
  let lo ← l env
  let hi ← u env
  lift (match x with
    | .tuple ds => if (pickN ds lo hi).length < LIM then some (.tuple (pickN ds lo hi)) else none
    | _ => none)
theorem e_slN {lo hi : Option Expr} {l u : DO} {k : Nat} {p1 p2 p3 : Pos} (ha : EB X c a fa) (hl : PO X lo (rdO X c l)) (hu : PO X hi (rdO X c u)) : EE X c (.Subscript a (.Slice lo hi (some (.UnaryOp .USub (.Constant (.int 1) k p1) p2)) p3) pos) (dSlN fa l u) := ⟨fun pins s σ H Q I h => by
  obtain ⟨O, env, rel, q⟩ := h
  refine Subscript_ (thn (ha.run pins s σ H (fun x H1 => rdO X c l σ H1 fun lo H2 => rdO X c u σ H2 fun hi H3 => ∃ a xs, x = V.ref a ∧ SqT X.K H3 a xs ∧ (pickN xs lo hi).length ≤ sizeLine ∧ ∀ p, H3 p = none → Q (.ref p) (upd H3 p (.tup (pickN xs lo hi)))) I ?_) fun v s1 ⟨x, H1, I1, r1, q1⟩ => ?_)
  · refine ⟨O, env, rel, q.bind.imp fun d q1 v H1 s1 b1 => ⟨O, env, rel.ext s1, (Res.bind q1).ext s1 fun lo q2 H2 s2 => ⟨O, env, rel.ext (s1.trans s2), (Res.bind q2).ext (s1.trans s2) fun hi q3 H3 s3 => ?_⟩⟩⟩
    obtain ⟨z, hz, q4⟩ := q3.lift
    have s := (s1.trans s2).trans s3
    have m : ∀ a ∈ O, Mut (H3 a) := (rel.ext s).dom
    have b3 := b1.ext (s2.trans s3)
    cases d <;> first | (cases hz; done) | skip
    rename_i ds
    obtain ⟨hlim, rfl⟩ := ite_some hz
    obtain ⟨a, xs, rfl, h1, h1', d1⟩ := b3.tup
    have hp : Dvs X.K (hide O H3) (pickN xs lo hi) (pickN ds lo hi) := by
      unfold pickN
      rw [d1.length]
      exact paired_dvs (filterMap_paired (dvs_paired d1) _ _)
    exact ⟨a, xs, rfl, h1, by rw [hp.length]; exact lim_le hlim, fun p np => q4 _ _ (s.trans (same_upd np)) (.newT m np hp)⟩
  · have hst : PO X (some (.UnaryOp .USub (.Constant (.int 1) k p1) p2)) (tPart (tUn (rU fun i => .int (-i)) (tC (.int 1)))) := po_some (pe_un un_neg pe_int)
    refine wpAny_Slice (thn (hl.run pins s1 σ H1 _ I1 q1) fun vl s2 ⟨lo', H2, I2, pl, q2⟩ => thn (hu.run pins s2 σ H2 _ I2 q2) fun vu s3 ⟨hi', H3, I3, pu, q3⟩ => ?_)
    refine thn (hst.run pins s3 σ H3 (fun o H4 => o = some (-1) ∧ H4 = H3) I3 ⟨1, rfl, -1, rfl, rfl, rfl⟩) fun vs s4 ⟨o, H4, I4, ps, eo, e4⟩ => ?_
    subst eo e4
    obtain ⟨a', xs, rfl, hx, hsz, q4⟩ := q3
    cases r1
    have I5 : L2.Inv X pins σ H4 { s4 with heap := s4.heap.push { cls := .type "slice", data := .fields #[vl, vu, vs] } } := I4.kept (t' := s4.toks) fun b ob q => Heap.get?_push_of_some _ q
    obtain ⟨its, r, ht, hz⟩ := I5.tuple hx
    have hlen := r.length
    show wpAny (model X.prog X.w) X.A (subscriptTail a (.Slice lo hi (some (.UnaryOp .USub (.Constant (.int 1) k p1) p2)) p3) (.ref a') (.ref s4.heap.objs.size)) (EP X pins σ Q) X.xe { s4 with heap := s4.heap.push { cls := .type "slice", data := .fields #[vl, vu, vs] } }
    refine tail_any (ops := [.ref a', .ref s4.heap.objs.size]) ht.typeIs (PyProof.Rows.slot_tuple_getitem.lookup) ?_ (by with_unfolding_all rfl)
    have hp : Vals (pickN xs lo' hi') (pickN its lo' hi') := by
      unfold pickN
      rw [hlen]
      exact filterMap_paired r _ _
    refine HT.dl_tupleNeg ht (Heap.IsSliceOf.new _ vl vu vs) pl pu ps (pickN its lo' hi') (by unfold pickN; simp only [List.size_toArray, List.getElem?_toArray]) ?_ (by rw [← hp.length]; exact hsz)
    refine ⟨.ref _, _, I5.laid (t' := s4.toks) (o := .tup (pickN xs lo' hi')) (fun b ob q => Heap.get?_push_of_some _ q) (Nat.le_refl _) ?_, rfl, q4 _ (I5.hok.fresh (Nat.le_refl _))⟩
    exact ⟨hsz, _, hp, IsTup.new _ _⟩⟩
def dRevL (f : DE) : DE := fun env => do
  let x ← f env
  lift (match x with
    | .list ds => some (.list ds.reverse)
    | _ => none)
theorem e_revL (h : PE X e (tRevL X.K (rdB X c f))) : EE X c e (dRevL f) := PE.imp h fun σ H Q ⟨O, env, rel, q⟩ => ⟨O, env, rel, q.bind.imp fun d q1 v H' s b => by
  obtain ⟨z, hz, q2⟩ := Res.lift q1
  cases d <;> first | (cases hz; done) | skip
  cases hz
  obtain ⟨a, xs, rfl, h1, d1⟩ := b.lst
  exact ⟨a, xs, rfl, h1, fun p np => q2 _ _ (s.trans (same_upd np)) (.newL (rel.ext s).dom np d1.rev)⟩⟩
/-- xs.count(k), ints -/
def gCount : PyData → List PyData → Option PyData
  | .list ds, [.int k] => (intsOf ds).map fun ns => .int (ns.count k : Nat)
  | _, _ => none
def listOf : PyData → Option (List PyData)
  | .list ds => some ds
  | _ => none
def dCount (f g : DE) : DE := fun env => do
  let x ← f env
  let ds ← lift (listOf x)
  let y ← g env
  lift (gCount (.list ds) [y])
theorem e_count (h : PE X e (tBM X.K "list" (rCntI X.K) (rdB X c fa) (tCons (rdB X c fb) tNil))) : EE X c e (dCount fa fb) := PE.imp h fun σ H Q ⟨O, env, rel, q⟩ => ⟨O, env, rel, q.bind.imp fun d q1 v H1 s1 b1 => by
  obtain ⟨ds, hds, q2⟩ := Res.lift (Res.bind q1)
  cases d <;> first | (cases hds; done) | skip
  cases hds
  obtain ⟨a, xs, rfl, h1, d1⟩ := b1.lst
  refine ⟨.inl ⟨rfl, xs, h1⟩, O, env, rel.ext s1, (Res.bind q2).ext s1 fun d' q2 w H2 s2 b2 => ?_⟩
  obtain ⟨z, hz, q3⟩ := Res.lift q2
  unfold gCount at hz
  split at hz
  · rename_i e1 e2
    cases e1; cases e2
    obtain ⟨ns, hns, rfl⟩ := Option.map_eq_some_iff.mp hz
    rw [intsOf_eq hns] at d1
    rw [dvs_ints d1] at h1
    have hw := b2.int
    subst hw
    exact ⟨a, ns, _, rfl, rfl, Same.seq s2 h1, q3 _ H2 (s1.trans s2) (.int _)⟩
  · cases hz⟩
end
end DL

set_option Elab.async false
set_option linter.all false
set_option maxRecDepth 100000
set_option maxHeartbeats 2000000
namespace DL
open PySem PySem.Spec L2 PyProof.Rows
set_option autoImplicit false
section
variable {X : Cx} {c : Dc} {D : Ends} {O O1 : List Addr} {σ : DL.St} {H H1 : Hp} {a b e : Expr} {es : List Expr} {pos : Pos} {fa fb fc f : DE} {env : Ev}
theorem Res.hid {α : Type} {r : R α} {k k' : α → Prop} (s : Same H H1) (sb : ∀ a ∈ O, a ∈ O1) (h : Res X c O σ H r k) (i : ∀ a, k a → k' a) : Res X c O1 σ H1 r k' := by
  cases r with
  | ok a => exact i a h
  | error e =>
    cases e with
    | stuck => exact h
    | exc n fs =>
      intro cls dd H' s' hx
      refine h cls dd H' (s.trans s') ?_
      obtain ⟨C, a1, a2, a3⟩ := hx
      refine ⟨C, a1, a2, ?_⟩
      cases fs with
      | nil => trivial
      | cons p r =>
        cases r with
        | cons _ _ => exact a3
        | nil =>
          obtain ⟨p', v, b1, b2, b3⟩ := a3
          exact ⟨p', v, b1, b2, b3.same (hide_sub sb)⟩
theorem pts_yes : PTs X [] (rdT X c tYesD) := ⟨fun pins s σ H Q I ⟨O, env, rel, q⟩ => pts_nil.run pins s σ H Q I (q H (Same.refl H))⟩
/-- {k: e} -/
def xD1 (k : Key) (f : DE) : DX := fun env => do
  let d ← f env
  .ok (.own (.dic [(k, d)]))
theorem x_d1 {k : Int} (h : PE X e (tDisp [(rdE X c (dC (.int k)), rdE X c f)])) : EX X c e (xD1 (.inl k) f) := PE.imp h fun σ H Q ⟨O, env, rel, q⟩ p np => by
  have s0 : Same H (upd H p (.dK [])) := same_upd np
  have rel0 := rel.grow np s0 (by rw [upd_same]; trivial)
  refine ⟨p :: O, env, rel0, fun v1 H1 s1 h1 => ⟨p :: O, env, rel0.ext s1, q.bind.hid (s0.trans s1) (fun a ha => List.mem_cons_of_mem _ ha) fun d q1 v H2 s2 h2 => ?_⟩⟩
  have e1 : v1 = .int k := by cases h1; rfl
  subst e1
  have sp := s1.trans s2
  have s3 : Same H (upd H2 p (.dK [(.inl k, v)])) := fun b o hb => by
    rw [upd_ne (ne_of_none hb np)]; exact sp _ _ (s0 b o hb)
  refine ⟨sp _ _ upd_same, [(.inl k, v)], rfl, (by show 1 ≤ 15; decide), ?_⟩
  have q2 : ∀ v O' H', XR X c O H O' H' (.own (.dic [(.inl k, d)])) v → Q v H' := q1
  have hw : OwR X.K (hide (p :: O) (upd H2 p (.dK [(.inl k, v)]))) (.dK [(.inl k, v)]) (.dic [(.inl k, d)]) := by
    rw [hide_upd List.mem_cons_self]
    exact .cons h2 .nil
  exact q2 (.ref p) (p :: O) _ ⟨Keep.grow np s3, fun env σ r => r.grow np s3 (by rw [upd_same]; trivial), fun env σ i r => r.putNew s3 np upd_same hw⟩
end
/-- try: body, except x: suite -/
theorem s_tryO {x : Str} {cv : Value} {body suite : List Stmt} {b₀ : Stmt} {np pos pos' : Pos} {b : DS} {sub : Str → Option Bool} {hs : List (Str × PyData) → DS} {X : Cx} {c : Dc}
    (h1 : X.stack = X.env :: X.outer) (h2 : X.env.frame = some X.env.locals) (hc : Names X x cv) (tk : Takes X c.W)
    (hb : ∀ (W : WX) (pn : List (Addr × Obj)) (xe : Value → Shared → Prop), Takes (X.tr pn xe) W → PassesOwn (model X.prog X.w) X.A X.env xe → SSs (X.tr pn xe) { c with W := W } body b)
    (hsu : ∀ (a : Addr) (oe : Obj) (cls : Value) (d : Option Addr) (pn : List (Addr × Obj)), Zc cls d oe → (∃ vs, oe.data = .fields vs) → ∀ fs, SSs (X.suite a ((a, oe) :: pn)) { c with F := suiteF d fs ++ c.F } (b₀ :: suite) (hs fs))
    (hx : ∀ (n : Str) (k : Bool) (C : Addr), sub n = some k → X.mg n = some (.ref C) → PySem.W.exmOne X.K (.ref C) cv = some k) :
    SS X c (.Try body [.ExceptHandler (some (.Name x np)) none (b₀ :: suite) pos'] [] [] pos) (dTry b sub hs) :=
  s_try (ps_try_only (tb := fun W => rdS X { c with W := W } b) (ts := fun a cls d D σ H => ∃ fs, rdS X { c with F := suiteF d fs ++ c.F } (hs fs) D σ H) h1 h2 hc tk (fun W pn xe tk1 hp1 => hb W pn xe tk1 hp1)
    (fun a oe cls d pn hz hf => ss_suite (fun fs => hsu a oe cls d pn hz hf fs))) hx
/-! ### the own exceptions -/
def cOf (mg : Str → Option Value) (n : Str) : Addr := match mg n with
  | some (.ref C) => C
  | _ => 0
theorem cOf_eq {mg : Str → Option Value} {n : Str} {C : Addr} (h : mg n = some (.ref C)) : cOf mg n = C := by unfold cOf; rw [h]
abbrev veL : List Value := [.type "ValueError", .type "Exception", .type "BaseException", .type "object"]
/-- a class without an __init__ -/
structure ExT (K : PySem.W.Frag) (mg : Str → Option Value) (n : Str) : Prop where
  g : mg n = some (.ref (cOf mg n))
  ex : PySem.W.excIn K (cOf mg n) veL "ValueError.__new__" = true
  kp : PySem.W.keepIn K (.ref (cOf mg n)) = true
  sb : PySem.W.subIn K (.ref (cOf mg n)) (.type "BaseException") = some true
  ty : PySem.W.typeIn K (.ref (cOf mg n)) = some (.type "type")
theorem ExT.mk' {K : PySem.W.Frag} {mg : Str → Option Value} {n : Str} {C : Addr} (g : mg n = some (.ref C)) (ex : PySem.W.excIn K C veL "ValueError.__new__" = true) (kp : PySem.W.keepIn K (.ref C) = true)
    (sb : PySem.W.subIn K (.ref C) (.type "BaseException") = some true) (ty : PySem.W.typeIn K (.ref C) = some (.type "type")) : ExT K mg n := by
  have e := cOf_eq g
  exact ⟨by rw [e]; exact g, by rw [e]; exact ex, by rw [e]; exact kp, by rw [e]; exact sb, by rw [e]; exact ty⟩
/-- except n: which of the names ns are taken -/
def subT (l : List (Str × Bool)) (n : Str) : Option Bool := l.lookup n
def SubT (K : PySem.W.Frag) (mg : Str → Option Value) (n : Str) (l : List (Str × Bool)) : Prop := ∀ (x : Str) (k : Bool) (C : Addr), subT l x = some k → mg x = some (.ref C) → PySem.W.exmOne K (.ref C) (.ref (cOf mg n)) = some k
theorem SubT.nil {K : PySem.W.Frag} {mg : Str → Option Value} {n : Str} : SubT K mg n [] := fun x k C h _ => by cases h
theorem SubT.cons {K : PySem.W.Frag} {mg : Str → Option Value} {n x : Str} {k : Bool} {l : List (Str × Bool)} {C C' : Addr} (g : mg x = some (.ref C)) (g' : mg n = some (.ref C')) (h : PySem.W.exmOne K (.ref C) (.ref C') = some k) (t : SubT K mg n l) : SubT K mg n ((x, k) :: l) := fun y j B hy gy => by
  unfold subT at hy
  rw [List.lookup_cons] at hy
  rw [cOf_eq g']
  split at hy
  · rename_i e
    have e' : y = x := by simpa using e
    subst e'
    rw [g] at gy
    cases gy; cases hy
    exact h
  · have := t y j B hy gy
    rwa [cOf_eq g'] at this
/-- what «except S» says of an error of the class at C -/
theorem exm_of {K : PySem.W.Frag} {S C : Addr} {b : Bool} (h1 : PySem.W.subIn K (.ref S) (.type "BaseException") = some true) (h2 : PySem.W.isClsIn K S = true) (h3 : PySem.W.typeIn K (.ref S) = some (.type "type")) (h4 : PySem.W.subIn K (.ref C) (.ref S) = some b) :
    PySem.W.exmOne K (.ref C) (.ref S) = some b := by
  have e1 : (PySem.W.subIn K (.ref S) (.type "BaseException") == some true) = true := by rw [h1] <;> rfl
  have e2 : ((PySem.W.clsIn K S).isSome && PySem.W.typeIn K (.ref S) == some (.type "type")) = true := by
    have h2' : (PySem.W.clsIn K S).isSome = true := h2
    rw [h2', h3] <;> rfl
  show (if (PySem.W.subIn K (.ref S) (.type "BaseException") == some true) = true then (if ((PySem.W.clsIn K S).isSome && PySem.W.typeIn K (.ref S) == some (.type "type")) = true then PySem.W.subIn K (.ref C) (.ref S) else none) else none) = some b
  rw [if_pos e1, if_pos e2]
  exact h4
end DL

set_option Elab.async false
set_option linter.all false
set_option maxRecDepth 100000
set_option maxHeartbeats 2000000
namespace DL
open PySem PySem.Spec L2 PyProof.Rows
set_option autoImplicit false
noncomputable section
/-- a while's fuel: a number that nobody unfolds -/
noncomputable def FUEL : { n : Nat // n = 18446744073709551616 } := Classical.choice ⟨⟨18446744073709551616, rfl⟩⟩
theorem fuel_lt {n : Nat} (h : n < 18446744073709551616) : n < FUEL.1 := by rw [FUEL.2]; exact h
/-! ### plain evaluation -/
theorem R_ok {α β : Type} (a : α) (f : α → R β) : ((Except.ok a : R α) >>= f) = f a := rfl
theorem R_er {α β : Type} (e : Er) (f : α → R β) : ((Except.error e : R α) >>= f) = .error e := rfl
theorem lift_some {α : Type} (a : α) : lift (some a) = .ok a := rfl
theorem lift_none {α : Type} : lift (none : Option α) = .error .stuck := rfl
theorem dDo_ok {α : Type} (a : α) (k : α → Fl) (env : Ev) : dDo (.ok a) k env = k a := rfl
theorem dDo_exc {α : Type} (n : Str) (fs : List (Str × PyData)) (k : α → Fl) (env : Ev) : dDo (.error (.exc n fs)) k env = .ex env n fs := rfl
theorem dSeq_of {s t : DS} {env : Ev} : dSeq s t env = (match s env with | .nx e => t e | r => r) := rfl
theorem dSeq_nx {s t : DS} {env e : Ev} (h : s env = .nx e) : dSeq s t env = t e := by unfold dSeq; rw [h]
theorem dSeq_rt {s t : DS} {env : Ev} {d : PyData} (h : s env = .rt d) : dSeq s t env = .rt d := by unfold dSeq; rw [h]
theorem dSeq_ex {s t : DS} {env e : Ev} {n : Str} {fs : List (Str × PyData)} (h : s env = .ex e n fs) : dSeq s t env = .ex e n fs := by unfold dSeq; rw [h]
theorem dIfS_t {t : DT} {a b : DS} {env : Ev} (h : t env = .ok true) : dIfS t a b env = a env := by unfold dIfS; rw [h]; rfl
theorem dIfS_f {t : DT} {a b : DS} {env : Ev} (h : t env = .ok false) : dIfS t a b env = b env := by unfold dIfS; rw [h]; rfl
theorem dIfS_x {t : DT} {a b : DS} {env : Ev} {n : Str} {fs : List (Str × PyData)} (h : t env = .error (.exc n fs)) : dIfS t a b env = .ex env n fs := by unfold dIfS; rw [h]; rfl
theorem ixN_nat {n i : Nat} (h : i < n) : ixN n (i : Int) = some i := by
  unfold ixN
  simp [h]
theorem callN_eq {n : Nat} {m : List PyData → R PyData} {ds : List PyData} (h : Nat.beq ds.length n = true) : callN n m ds = m ds := by
  unfold callN; rw [h]
theorem lim_0 : (0 < LIM) = True := eq_true (by decide)
theorem lim_1 : (1 < LIM) = True := eq_true (by decide)
theorem lim_2 : (2 < LIM) = True := eq_true (by decide)
theorem lim_3 : (3 < LIM) = True := eq_true (by decide)
theorem lim_4 : (4 < LIM) = True := eq_true (by decide)
theorem lim_5 : (5 < LIM) = True := eq_true (by decide)
theorem lim_6 : (6 < LIM) = True := eq_true (by decide)
theorem lim_7 : (7 < LIM) = True := eq_true (by decide)
theorem lim_8 : (8 < LIM) = True := eq_true (by decide)
theorem lim_9 : (9 < LIM) = True := eq_true (by decide)
theorem lim_10 : (10 < LIM) = True := eq_true (by decide)
theorem lim_11 : (11 < LIM) = True := eq_true (by decide)
theorem lim_12 : (12 < LIM) = True := eq_true (by decide)
theorem lim_13 : (13 < LIM) = True := eq_true (by decide)
theorem lim_14 : (14 < LIM) = True := eq_true (by decide)
theorem lim_15 : (15 < LIM) = True := eq_true (by decide)
theorem lim_16 : (16 < LIM) = True := eq_true (by decide)
theorem lim_17 : (17 < LIM) = True := eq_true (by decide)
theorem lim_18 : (18 < LIM) = True := eq_true (by decide)
theorem lim_19 : (19 < LIM) = True := eq_true (by decide)
theorem lim_20 : (20 < LIM) = True := eq_true (by decide)
theorem lim_21 : (21 < LIM) = True := eq_true (by decide)
theorem lim_22 : (22 < LIM) = True := eq_true (by decide)
theorem lim_23 : (23 < LIM) = True := eq_true (by decide)
theorem lim_24 : (24 < LIM) = True := eq_true (by decide)
theorem O_map_some {α β : Type} (f : α → β) (a : α) : (some a).map f = some (f a) := rfl
theorem isi_int_none : isiD "int" .none = some false := by show kitB "NoneType" "int" = some false; decide +kernel
theorem isi_int_bool (b : Bool) : isiD "int" (.bool b) = some true := by show kitB "bool" "int" = some true; decide +kernel
theorem isi_int_int (i : Int) : isiD "int" (.int i) = some true := by show kitB "int" "int" = some true; decide +kernel
theorem isi_int_str (x : Str) : isiD "int" (.str x) = some false := by show kitB "str" "int" = some false; decide +kernel
theorem isi_int_list (l : List PyData) : isiD "int" (.list l) = some false := by show kitB "list" "int" = some false; decide +kernel
theorem isi_int_tuple (l : List PyData) : isiD "int" (.tuple l) = some false := by show kitB "tuple" "int" = some false; decide +kernel
theorem isi_bool_none : isiD "bool" .none = some false := by show kitB "NoneType" "bool" = some false; decide +kernel
theorem isi_bool_bool (b : Bool) : isiD "bool" (.bool b) = some true := by show kitB "bool" "bool" = some true; decide +kernel
theorem isi_bool_int (i : Int) : isiD "bool" (.int i) = some false := by show kitB "int" "bool" = some false; decide +kernel
theorem isi_bool_str (x : Str) : isiD "bool" (.str x) = some false := by show kitB "str" "bool" = some false; decide +kernel
theorem isi_bool_list (l : List PyData) : isiD "bool" (.list l) = some false := by show kitB "list" "bool" = some false; decide +kernel
theorem isi_bool_tuple (l : List PyData) : isiD "bool" (.tuple l) = some false := by show kitB "tuple" "bool" = some false; decide +kernel
theorem isi_str_none : isiD "str" .none = some false := by show kitB "NoneType" "str" = some false; decide +kernel
theorem isi_str_bool (b : Bool) : isiD "str" (.bool b) = some false := by show kitB "bool" "str" = some false; decide +kernel
theorem isi_str_int (i : Int) : isiD "str" (.int i) = some false := by show kitB "int" "str" = some false; decide +kernel
theorem isi_str_str (x : Str) : isiD "str" (.str x) = some true := by show kitB "str" "str" = some true; decide +kernel
theorem isi_str_list (l : List PyData) : isiD "str" (.list l) = some false := by show kitB "list" "str" = some false; decide +kernel
theorem isi_str_tuple (l : List PyData) : isiD "str" (.tuple l) = some false := by show kitB "tuple" "str" = some false; decide +kernel
theorem isi_tuple_none : isiD "tuple" .none = some false := by show kitB "NoneType" "tuple" = some false; decide +kernel
theorem isi_tuple_bool (b : Bool) : isiD "tuple" (.bool b) = some false := by show kitB "bool" "tuple" = some false; decide +kernel
theorem isi_tuple_int (i : Int) : isiD "tuple" (.int i) = some false := by show kitB "int" "tuple" = some false; decide +kernel
theorem isi_tuple_str (x : Str) : isiD "tuple" (.str x) = some false := by show kitB "str" "tuple" = some false; decide +kernel
theorem isi_tuple_list (l : List PyData) : isiD "tuple" (.list l) = some false := by show kitB "list" "tuple" = some false; decide +kernel
theorem isi_tuple_tuple (l : List PyData) : isiD "tuple" (.tuple l) = some true := by show kitB "tuple" "tuple" = some true; decide +kernel
theorem isi_list_none : isiD "list" .none = some false := by show kitB "NoneType" "list" = some false; decide +kernel
theorem isi_list_bool (b : Bool) : isiD "list" (.bool b) = some false := by show kitB "bool" "list" = some false; decide +kernel
theorem isi_list_int (i : Int) : isiD "list" (.int i) = some false := by show kitB "int" "list" = some false; decide +kernel
theorem isi_list_str (x : Str) : isiD "list" (.str x) = some false := by show kitB "str" "list" = some false; decide +kernel
theorem isi_list_list (l : List PyData) : isiD "list" (.list l) = some true := by show kitB "list" "list" = some true; decide +kernel
theorem isi_list_tuple (l : List PyData) : isiD "list" (.tuple l) = some false := by show kitB "tuple" "list" = some false; decide +kernel
end
end DL
local macro_rules | `(tactic| simp! only [$ts,*]) => `(tactic| simp only [DL.R_ok, DL.R_er, DL.lift_some, DL.lift_none, DL.dDo_ok, DL.dDo_exc, DL.runD, DL.startD,
  DL.outR, DL.dSeq_of, DL.dSkip, DL.dIfS, DL.dRet, DL.dRetN, DL.dExpr, DL.dSet,
  DL.dSetF, DL.dSetX, DL.dPar2, DL.dPar3, DL.dRaise, DL.dRaise1, DL.dAsgG, DL.dApp,
  DL.dAug, DL.dTest, DL.dNotT, DL.dAndT, DL.dOrT, DL.dAndV, DL.dOrV, DL.dNotV,
  DL.dIf, DL.dNeg, DL.dChain, DL.dC, DL.dVar, DL.dVarB, DL.dBin, DL.gI,
  DL.gIC, DL.gAdd, DL.modB, DL.shrB, DL.dIx, DL.gIx, DL.dTup, DL.dLst,
  DL.dLstF, DL.dNil, DL.dCons, DL.dCallG, DL.gLen, DL.gAbs, DL.gMax2, DL.gMin2,
  DL.gIntOf, DL.gTuple, DL.gList, DL.dBool, DL.dIsi, DL.O_map_some, DL.isi_int_none, DL.isi_int_bool,
  DL.isi_int_int, DL.isi_int_str, DL.isi_int_list, DL.isi_int_tuple, DL.isi_bool_none, DL.isi_bool_bool, DL.isi_bool_int, DL.isi_bool_str,
  DL.isi_bool_list, DL.isi_bool_tuple, DL.isi_str_none, DL.isi_str_bool, DL.isi_str_int, DL.isi_str_str, DL.isi_str_list, DL.isi_str_tuple,
  DL.isi_tuple_none, DL.isi_tuple_bool, DL.isi_tuple_int, DL.isi_tuple_str, DL.isi_tuple_list, DL.isi_tuple_tuple, DL.isi_list_none, DL.isi_list_bool,
  DL.isi_list_int, DL.isi_list_str, DL.isi_list_list, DL.isi_list_tuple, DL.xE, DL.xF, DL.xD, DL.xD1,
  DL.dBits, DL.dItems, DL.seqOf, DL.dRange1, DL.dRange2, DL.dRange3, DL.gN, DL.gIsN,
  DL.isN, DL.dOfF, DL.Ow.data, DL.tYesD, DL.dFor, DL.dComp, DL.wipeD, DL.dCount,
  DL.listOf, DL.dPut, DL.keyOf, DL.freeze, List.getElem?_cons_zero, List.getElem?_cons_succ, List.getElem?_nil, List.set_cons_zero,
  List.set_cons_succ, List.length_cons, List.length_nil, List.map_cons, List.map_nil, List.length_map, List.append_nil, List.nil_append,
  List.cons_append, List.replicate, List.replicate_succ, List.replicate_zero, Nat.reduceAdd, Nat.reduceSub, Nat.reduceLT, Nat.reduceBEq,
  Nat.zero_add, Nat.add_zero, DL.dCall, DL.callN, Nat.beq_eq_true_eq, reduceIte, Int.reduceLT, Int.reduceLE,
  Int.reduceNeg, Int.reduceSub, Int.reduceAdd, Int.reduceMul, Int.reduceToNat, Int.reduceDiv, Int.reduceMod, Bool.not_true,
  Bool.not_false, Bool.true_and, Bool.and_true, Bool.false_eq_true, decide_true, decide_false, DL.lim_0, DL.lim_1,
  DL.lim_2, DL.lim_3, DL.lim_4, DL.lim_5, DL.lim_6, DL.lim_7, DL.lim_8, DL.lim_9,
  DL.lim_10, DL.lim_11, DL.lim_12, DL.lim_13, DL.lim_14, DL.lim_15, DL.lim_16, DL.lim_17,
  DL.lim_18, DL.lim_19, DL.lim_20, DL.lim_21, DL.lim_22, DL.lim_23, DL.lim_24, $ts,*])
namespace DL
open PySem PySem.Spec L2 PyProof.Rows
set_option autoImplicit false
noncomputable section
/-! ### loops -/
def StepP (I : Ev → Prop) (R : Fl → Prop) : Fl → Prop
  | .nx e => I e
  | .ct e => I e
  | .bk e => R (.nx e)
  | r => R r
theorem forD_R {g : DG} {b : DS} {R : Fl → Prop} (I : Nat → Ev → Prop) : ∀ {ds : List PyData} {env : Ev} (k : Nat), I k env → (∀ i d e, ds[i]? = some d → I (k + i) e → ∃ e1, g d e = some e1 ∧ StepP (I (k + i + 1)) R (b e1)) → (∀ e, I (k + ds.length) e → R (.nx e)) → R (forD g b ds env)
  | [], env, k, h0, _, fin => fin env h0
  | d :: ds, env, k, h0, step, fin => by
    obtain ⟨e1, h1, h2⟩ := step 0 d env rfl h0
    unfold forD
    rw [h1]
    have next : ∀ e, I (k + 1) e → R (forD g b ds e) := fun e he => forD_R I (k + 1) he (fun i d' e' hi he' => by
      have e3 : k + 1 + i = k + (i + 1) := by omega
      rw [e3] at he' ⊢
      exact step (i + 1) d' e' (by simpa using hi) he') fun e' he' => fin e' (by
        have e3 : k + 1 + ds.length = k + (d :: ds).length := by simp only [List.length_cons]; omega
        rwa [e3] at he')
    show R (match b e1 with
      | .nx e => forD g b ds e
      | .ct e => forD g b ds e
      | .bk e => .nx e
      | r => r)
    cases r : b e1 with
    | nx e => rw [r] at h2; exact next e h2
    | ct e => rw [r] at h2; exact next e h2
    | bk e => rw [r] at h2; exact h2
    | rt d => rw [r] at h2; exact h2
    | ex e n fs => rw [r] at h2; exact h2
    | stuck => rw [r] at h2; exact h2
/-- a loop that goes through -/
theorem forD_nx {g : DG} {b : DS} {ds : List PyData} {env : Ev} (I : Nat → Ev → Prop) (h0 : I 0 env) (step : ∀ i d e, ds[i]? = some d → I i e → ∃ e1 e2, g d e = some e1 ∧ b e1 = .nx e2 ∧ I (i + 1) e2) : ∃ e, forD g b ds env = .nx e ∧ I ds.length e :=
  forD_R (R := fun fl => ∃ e, fl = .nx e ∧ I ds.length e) (fun i e => I i e) 0 h0 (fun i d e hi he => by
    rw [Nat.zero_add] at he ⊢
    obtain ⟨e1, e2, h1, h2, h3⟩ := step i d e hi he
    exact ⟨e1, h1, by rw [h2]; exact h3⟩) fun e he => ⟨e, rfl, by rwa [Nat.zero_add] at he⟩
theorem whileD_R {t : DT} {b : DS} {R : Fl → Prop} (I : Nat → Ev → Prop) (step : ∀ n e, I n e → (t e = .ok false ∧ R (.nx e)) ∨ (t e = .ok true ∧ StepP (fun e' => ∃ m, m < n ∧ I m e') R (b e))) : ∀ (n k : Nat) (e : Ev), I n e → n < k → R (whileD t b k e) := by
  intro n
  induction n using Nat.strongRecOn with
  | _ n ih =>
    intro k e he hk
    cases k with
    | zero => omega
    | succ k =>
      unfold whileD
      rcases step n e he with ⟨h1, h2⟩ | ⟨h1, h2⟩
      · rw [h1]; exact h2
      · rw [h1]
        show R (match b e with
          | .nx e => whileD t b k e
          | .ct e => whileD t b k e
          | .bk e => .nx e
          | r => r)
        cases r : b e with
        | nx e' => rw [r] at h2; obtain ⟨m, hm, hI⟩ := h2; exact ih m hm k e' hI (by omega)
        | ct e' => rw [r] at h2; obtain ⟨m, hm, hI⟩ := h2; exact ih m hm k e' hI (by omega)
        | bk e' => rw [r] at h2; exact h2
        | rt d => rw [r] at h2; exact h2
        | ex e' n' fs => rw [r] at h2; exact h2
        | stuck => rw [r] at h2; exact h2
/-- a while that goes through: I measure env, with a measure below the fuel -/
theorem dWhile_nx {t : DT} {b : DS} {μ : Ev → Nat} {env : Ev} (I : Nat → Ev → Prop) (J : Ev → Prop) (n : Nat) (h0 : I n env) (hn : n < μ env) (step : ∀ n e, I n e → (t e = .ok false ∧ J e) ∨ (t e = .ok true ∧ ∃ e' m, b e = .nx e' ∧ m < n ∧ I m e')) : ∃ e, dWhile μ t b env = .nx e ∧ J e :=
  whileD_R (R := fun fl => ∃ e, fl = .nx e ∧ J e) I (fun n e he => by
    rcases step n e he with ⟨h1, h2⟩ | ⟨h1, e', m, h2, h3, h4⟩
    · exact .inl ⟨h1, e, rfl, h2⟩
    · exact .inr ⟨h1, by rw [h2]; exact ⟨m, h3, h4⟩⟩) n (μ env) env h0 hn
theorem rangeD_at {lo c : Int} {n i : Nat} {d : PyData} (h : (rangeD lo c n)[i]? = some d) : i < n ∧ d = .int (lo + (i : Nat) * c) := rangeD_get h
theorem map_int_at {ns : List Int} {i : Nat} {d : PyData} (h : (ns.map PyData.int)[i]? = some d) : ∃ z, ns[i]? = some z ∧ d = .int z := by
  rw [List.getElem?_map] at h
  obtain ⟨z, h1, h2⟩ := Option.map_eq_some_iff.mp h
  exact ⟨z, h1, h2.symm⟩
theorem rangeSize1 {i j : Int} : (Builtin.Range.rangeSize i j 1) = if i < j then j - i else 0 := by
  unfold Builtin.Range.rangeSize
  split <;> simp_all <;> omega
theorem shaped_int (i : Int) : SeqAt.shaped (.int i) = true := by simp [SeqAt.shaped, PyData.canLay0, PyData.depth]
theorem shaped_none : SeqAt.shaped (.none) = true := by simp [SeqAt.shaped, PyData.canLay0, PyData.depth]
theorem shaped_bool (b : Bool) : SeqAt.shaped (.bool b) = true := by simp [SeqAt.shaped, PyData.canLay0, PyData.depth]
/-- data whose lists and tuples go at most n deep -/
def Shp (n : Nat) (d : PyData) : Prop := d.canLay0 = true ∧ d.depth ≤ n
theorem Shp.int (n : Nat) (i : Int) : Shp n (.int i) := ⟨by simp [PyData.canLay0], by simp [PyData.depth]⟩
theorem Shp.bool (n : Nat) (i : Bool) : Shp n (.bool i) := ⟨by simp [PyData.canLay0], by simp [PyData.depth]⟩
theorem Shp.none (n : Nat) : Shp n .none := ⟨by simp [PyData.canLay0], by simp [PyData.depth]⟩
theorem Shp.all {n : Nat} : ∀ {l : List PyData}, (∀ d ∈ l, Shp n d) → PyData.canLayAll0 l = true ∧ PyData.depthAll l ≤ n
  | [], _ => ⟨by simp [PyData.canLayAll0], by simp [PyData.depthAll]⟩
  | d :: l, h => by
    obtain ⟨h1, h2⟩ := h d List.mem_cons_self
    obtain ⟨h3, h4⟩ := Shp.all fun e he => h e (List.mem_cons_of_mem _ he)
    refine ⟨by simp only [PyData.canLayAll0, h1, h3, Bool.and_self], ?_⟩
    simp only [PyData.depthAll]
    omega
theorem Shp.list {n : Nat} {l : List PyData} (h : ∀ d ∈ l, Shp n d) : Shp (n + 1) (.list l) := by
  obtain ⟨h1, h2⟩ := Shp.all h
  exact ⟨by simp only [PyData.canLay0, h1], by simp only [PyData.depth]; omega⟩
theorem Shp.tuple {n : Nat} {l : List PyData} (h : ∀ d ∈ l, Shp n d) : Shp (n + 1) (.tuple l) := by
  obtain ⟨h1, h2⟩ := Shp.all h
  exact ⟨by simp only [PyData.canLay0, h1], by simp only [PyData.depth]; omega⟩
theorem Shp.ints (n : Nat) (l : List Int) : ∀ d ∈ l.map PyData.int, Shp n d := fun d h => by
  obtain ⟨i, _, rfl⟩ := List.mem_map.mp h
  exact .int n i
theorem Shp.ok {n : Nat} {d : PyData} (h : Shp n d) (hn : n ≤ 64) : SeqAt.shaped d = true := by
  unfold SeqAt.shaped
  rw [h.1, decide_eq_true (Nat.le_trans h.2 hn)]; rfl
theorem gEq_of {neg : Bool} {d e : PyData} {b : Bool} (h1 : SeqAt.shaped d = true) (h2 : SeqAt.shaped e = true) (h : PyData.eqv d e = b) : gEq neg d e = some (.bool (if neg then !b else b)) := by
  unfold gEq
  rw [h1, h2, h]; rfl
theorem eqv_int (i j : Int) : PyData.eqv (.int i) (.int j) = decide (i = j) := by
  simp only [PyData.eqv]
  by_cases h : i = j <;> simp [h]
theorem eqv_str (i j : Str) : PyData.eqv (.str i) (.str j) = decide (i = j) := by
  simp only [PyData.eqv]
  by_cases h : i = j <;> simp [h]
theorem gEq_intf (i j : Int) : gEq false (.int i) (.int j) = some (.bool (decide (i = j))) := gEq_of (shaped_int i) (shaped_int j) (eqv_int i j)
theorem gEq_intt (i j : Int) : gEq true (.int i) (.int j) = some (.bool (!decide (i = j))) := gEq_of (shaped_int i) (shaped_int j) (eqv_int i j)
theorem gEq_nit (j : Int) : gEq true .none (.int j) = some (.bool true) := gEq_of (b := false) shaped_none (shaped_int j) (by simp only [PyData.eqv])
theorem gEq_nif (j : Int) : gEq false .none (.int j) = some (.bool false) := gEq_of (b := false) shaped_none (shaped_int j) (by simp only [PyData.eqv])
theorem gIn_of {neg : Bool} {d : PyData} {es : List PyData} {b : Bool} (h1 : SeqAt.shaped d = true) (h2 : SeqAt.shaped (.list es) = true) (h : (es.any fun z => PyData.eqv z d) = b) : gIn neg d (.list es) = some (.bool (if neg then !b else b)) := by
  unfold gIn
  dsimp only
  rw [h1, h2, h]; rfl
theorem atI_nat {xs : List PyData} {i : Nat} {d : PyData} (h : xs[i]? = some d) : L2.atI xs (i : Int) = some d := by
  unfold L2.atI
  rw [ixN_nat (List.getElem?_eq_some_iff.mp h).1]
  exact h
theorem atI_last {xs : List PyData} {d : PyData} (h : xs.getLast? = some d) : L2.atI xs (-1) = some d := by
  have hne : xs ≠ [] := by rintro rfl; cases h
  have hl : 0 < xs.length := List.length_pos_iff.mpr hne
  have e : ixN xs.length (-1) = some (xs.length - 1) := by
    unfold ixN
    rw [if_neg (by omega), if_pos (by omega)]
    congr 1
    omega
  unfold L2.atI
  rw [e]
  show xs[xs.length - 1]? = some d
  rw [← List.getLast?_eq_getElem?]; exact h
theorem getLast?_map_int {vs : List Int} {v : Int} (h : vs.getLast? = some v) : (vs.map PyData.int).getLast? = some (.int v) := by
  rw [List.getLast?_map, h]; rfl
/-! ### a loop that no break ends, item by item -/
inductive Pass (g : DG) (b : DS) : List PyData → Ev → Ev → Prop
  | nil {e : Ev} : Pass g b [] e e
  | cons {d : PyData} {ds : List PyData} {e e1 e2 e3 : Ev} : g d e = some e1 → b e1 = .nx e2 → Pass g b ds e2 e3 → Pass g b (d :: ds) e e3
theorem Pass.run {g : DG} {b : DS} : ∀ {ds : List PyData} {e e' : Ev}, Pass g b ds e e' → forD g b ds e = .nx e'
  | _, _, _, .nil => rfl
  | _, _, _, .cons h1 h2 t => by
    unfold forD
    rw [h1]
    dsimp only
    rw [h2]
    exact t.run
theorem Pass.app {g : DG} {b : DS} : ∀ {ds es : List PyData} {e e' e'' : Ev}, Pass g b ds e e' → Pass g b es e' e'' → Pass g b (ds ++ es) e e''
  | _, _, _, _, _, .nil, t => t
  | _, _, _, _, _, .cons h1 h2 s, t => .cons h1 h2 (s.app t)
theorem Pass.one {g : DG} {b : DS} {d : PyData} {e e1 e2 : Ev} (h1 : g d e = some e1) (h2 : b e1 = .nx e2) : Pass g b [d] e e2 := .cons h1 h2 .nil
theorem small_of {i j k : Int} {n : Nat} (h1 : -1000000000 < i) (h2 : i < 1000000000) (h3 : -1000000000 < j) (h4 : j < 1000000000) (h5 : -1000 < k) (h6 : k < 1000) (h : Builtin.Range.rangeSize i j k = n) (hn : n < 10000000000) : Builtin.Range.small i j k = true := by
  unfold Builtin.Range.small
  have hb : ∀ x : Int, -9000000000000000000 < x → x < 9000000000000000000 → Builtin.Range.rangeFitsLong x = true := fun x a b => by
    unfold Builtin.Range.rangeFitsLong
    rw [decide_eq_true (by omega), decide_eq_true (by omega)]; rfl
  rw [h, hb i (by omega) (by omega), hb j (by omega) (by omega), hb k (by omega) (by omega), hb n (by omega) (by omega)]
  split
  · rw [hb _ (by omega) (by omega)]; simp
  · rw [hb _ (by omega) (by omega)]; simp
theorem gRange3_eq {i j k : Int} (n : Nat) (h1 : -1000000000 < i) (h2 : i < 1000000000) (h3 : -1000000000 < j) (h4 : j < 1000000000) (h5 : -1000 < k) (h6 : k < 1000) (h7 : k ≠ 0) (h : Builtin.Range.rangeSize i j k = n) (hn : n < 10000000000) : gRange3 (.int i) (.int j) (.int k) = some (rangeD i k n) := by
  unfold gRange3
  rw [rg3B_eq]
  unfold rg3B0
  have e : k.natAbs < 1073741824 := by omega
  simp only [small_of h1 h2 h3 h4 h5 h6 h hn, h, h7, e, ne_eq, not_false_eq_true, decide_true, Bool.and_self, Bool.true_and, show (0 : Int) ≤ (n : Int) by omega, reduceIte, Int.toNat_natCast]
theorem gRange2_eq {i j : Int} (n : Nat) (h1 : -1000000000 < i) (h2 : i < 1000000000) (h3 : -1000000000 < j) (h4 : j < 1000000000) (h : (j - i).toNat = n) : gRange2 (.int i) (.int j) = some (rangeD i 1 n) := by
  unfold gRange2
  dsimp only
  rw [if_pos (by rw [rgB_mk (by omega) (by omega), rgB_mk (by omega) (by omega)]; rfl), h]
theorem gRange1_eq {j : Int} (n : Nat) (h3 : -1000000000 < j) (h4 : j < 1000000000) (h : j.toNat = n) : gRange1 (.int j) = some (rangeD 0 1 n) := by
  unfold gRange1
  dsimp only
  rw [if_pos (rgB_mk (by omega) (by omega)), h]
theorem gRange1_nat (n : Nat) (h : n < 1000000000) : gRange1 (.int (n : Nat)) = some (rangeD 0 1 n) := gRange1_eq n (by omega) (by omega) (by omega)
theorem divB_lit {i j : Int} (h : 0 < j) (h' : j < 18446744073709551616) : divB i j = true := by
  rw [divB_eq]; unfold divB0
  have e : j.natAbs < 2 ^ 64 := by
    have : (j.natAbs : Int) = j := Int.natAbs_of_nonneg (Int.le_of_lt h)
    omega
  rw [decide_eq_true h, decide_eq_true (Nat.lt_of_lt_of_le (PySem.Flt.log2_lt_of (by decide) e) (by decide))]; rfl
theorem getP_nil (k : Key) : getP [] k = none := rfl
theorem getP_cons (a : Key) (x : PyData) (ps : List (Key × PyData)) (k : Key) : getP ((a, x) :: ps) k = if a = k then some x else getP ps k := by
  unfold getP
  rw [List.find?_cons]
  by_cases h : a = k
  · simp [h]
  · simp [h]
theorem getP_map (k k' : Key) (d : PyData) : ∀ ps : List (Key × PyData), getP (ps.map fun kv => if kv.1 = k then (kv.1, d) else kv) k' = if k' = k then (getP ps k).map (fun _ => d) else getP ps k'
  | [] => by by_cases h : k' = k <;> simp [getP_nil, h]
  | (a, x) :: ps => by
    have ih := getP_map k k' d ps
    rw [List.map_cons]
    by_cases ha : a = k
    · subst ha
      rw [if_pos rfl, getP_cons, getP_cons, getP_cons, ih]
      by_cases h : k' = a
      · subst h; simp
      · simp [h, Ne.symm h]
    · rw [if_neg ha, getP_cons, getP_cons, getP_cons, ih]
      by_cases h : k' = k
      · subst h; simp [ha]
      · simp [h]
theorem getP_any (k : Key) : ∀ ps : List (Key × PyData), (ps.any fun kv => decide (kv.1 = k)) = (getP ps k).isSome
  | [] => rfl
  | (a, x) :: ps => by
    rw [List.any_cons, getP_any k ps, getP_cons]
    by_cases h : a = k <;> simp [h]
theorem getP_append (k : Key) (b : Key) (d : PyData) : ∀ ps : List (Key × PyData), getP (ps ++ [(b, d)]) k = (getP ps k).or (if b = k then some d else none)
  | [] => by simp [getP_nil, getP_cons]
  | (a, x) :: ps => by
    rw [List.cons_append, getP_cons, getP_cons, getP_append k b d ps]
    by_cases h : a = k <;> simp [h]
theorem getP_putP (ps : List (Key × PyData)) (k k' : Key) (d : PyData) : getP (putP ps k d) k' = if k' = k then some d else getP ps k' := by
  unfold putP
  rw [getP_any]
  cases h : getP ps k with
  | some x =>
    rw [if_pos (by rfl), getP_map, h]; rfl
  | none =>
    rw [if_neg (by simp), getP_append]
    by_cases e : k' = k
    · subst e; simp [h]
    · simp [e, Ne.symm e]
theorem length_putP (ps : List (Key × PyData)) (k : Key) (d : PyData) : (putP ps k d).length ≤ ps.length + 1 := by
  unfold putP
  split <;> simp
theorem dRange3_of {fa fb fc : DE} {env : Ev} {a b c : PyData} {l : List PyData} (ha : fa env = .ok a) (hb : fb env = .ok b) (hc : fc env = .ok c) (h : gRange3 a b c = some l) : dRange3 fa fb fc env = .ok l := by
  unfold dRange3
  rw [ha, hb, hc]
  show lift (gRange3 a b c) = _
  rw [h]; rfl
theorem dRange2_of {fa fb : DE} {env : Ev} {a b : PyData} {l : List PyData} (ha : fa env = .ok a) (hb : fb env = .ok b) (h : gRange2 a b = some l) : dRange2 fa fb env = .ok l := by
  unfold dRange2
  rw [ha, hb]
  show lift (gRange2 a b) = _
  rw [h]; rfl
theorem dRange1_of {fa : DE} {env : Ev} {a : PyData} {l : List PyData} (ha : fa env = .ok a) (h : gRange1 a = some l) : dRange1 fa env = .ok l := by
  unfold dRange1
  rw [ha]
  show lift (gRange1 a) = _
  rw [h]; rfl
theorem dFor_of {fi : DA} {g : DG} {b : DS} {env : Ev} {l : List PyData} (h : fi env = .ok l) : dFor fi g b env = forD g b l env := by
  unfold dFor; rw [h]; rfl
theorem compD_map {i : Nat} {f : DE} {env : Ev} (F : PyData → PyData) : ∀ {ds : List PyData}, (∀ d ∈ ds, f (env.set i (.dat d)) = .ok (F d)) → compD (gN i) tYesD f env ds = .ok (ds.map F)
  | [], _ => rfl
  | d :: ds, h => by
    have ih := compD_map F (ds := ds) fun e he => h e (List.mem_cons_of_mem _ he)
    have h1 := h d List.mem_cons_self
    unfold compD
    show (noX (tYesD (env.set i (.dat d))) >>= fun k => if k = true then (noX (f (env.set i (.dat d))) >>= fun x => compD (gN i) tYesD f env ds >>= fun xs => .ok (x :: xs)) else compD (gN i) tYesD f env ds) = _
    rw [h1, ih]; rfl
theorem compD_ints {i : Nat} {f : DE} {env : Ev} (F : Int → PyData) {ns : List Int} (h : ∀ z ∈ ns, f (env.set i (.dat (.int z))) = .ok (F z)) : compD (gN i) tYesD f env (ns.map .int) = .ok (ns.map F) := by
  have := compD_map (i := i) (f := f) (env := env) (fun d => match d with | .int z => F z | _ => .none) (ds := ns.map .int) fun d hd => by
    obtain ⟨z, hz, rfl⟩ := List.mem_map.mp hd
    exact h z hz
  rw [this, List.map_map]; rfl
theorem compD_range {i : Nat} {f : DE} {env : Ev} (F : Nat → PyData) {n : Nat} (h : ∀ k, k < n → f (env.set i (.dat (.int (k : Nat)))) = .ok (F k)) : compD (gN i) tYesD f env (rangeD 0 1 n) = .ok ((List.range n).map F) := by
  have e : rangeD 0 1 n = ((List.range n).map fun (k : Nat) => (k : Int)).map PyData.int := by
    unfold rangeD
    rw [List.map_map]
    refine List.map_congr_left fun k _ => ?_
    show PyData.int _ = PyData.int _
    rw [Int.mul_one, Int.zero_add]
  rw [e, compD_ints (fun z => F z.toNat) fun z hz => by
    obtain ⟨k, hk, rfl⟩ := List.mem_map.mp hz
    exact h k (List.mem_range.mp hk), List.map_map]
  rfl
theorem boolsOf_rep (b : Bool) : ∀ n : Nat, boolsOf (List.replicate n (.bool b)) = some (List.replicate n b)
  | 0 => rfl
  | n + 1 => by
    rw [List.replicate_succ, List.replicate_succ]
    unfold boolsOf
    rw [boolsOf_rep b n]; rfl
theorem all_rep {l : List PyData} {d : PyData} (h : ∀ x ∈ l, x = d) : l = List.replicate l.length d := List.eq_replicate_iff.mpr ⟨rfl, h⟩
theorem any_false {l : List PyData} (h : ∀ x ∈ l, x = .bool false) : gAny [.list l] = some (.bool false) := by
  rw [all_rep h]
  unfold gAny
  dsimp only
  rw [boolsOf_rep]
  simp
theorem all_true {l : List PyData} (h : ∀ x ∈ l, x = .bool true) : gAll [.list l] = some (.bool true) := by
  rw [all_rep h]
  unfold gAll
  dsimp only
  rw [boolsOf_rep]
  simp
theorem intsOf_map' : ∀ ns : List Int, intsOf (ns.map .int) = some ns
  | [] => rfl
  | n :: ns => by
    rw [List.map_cons]
    unfold intsOf
    rw [intsOf_map' ns]; rfl
theorem gSum_ints (ns : List Int) : gSum [.list (ns.map .int)] = some (.int ns.sum) := by
  unfold gSum
  dsimp only
  rw [intsOf_map']; rfl
theorem gCount_ints (ns : List Int) (k : Int) : gCount (.list (ns.map .int)) [.int k] = some (.int (ns.count k : Nat)) := by
  unfold gCount
  dsimp only
  rw [intsOf_map']; rfl
theorem dComp_of {vs : List Nat} {fi : DA} {g : DG} {t : DT} {f : DE} {env : Ev} {ds rs : List PyData} (h : fi env = .ok ds) (hl : ds.length < LIM) (hc : compD g t f (wipeD env vs) ds = .ok rs) : dComp vs fi g t f env = .ok rs := by
  unfold dComp
  rw [h]
  show (if ds.length < LIM then compD g t f (wipeD env vs) ds else .error .stuck) = _
  rw [if_pos hl, hc]
end
end DL

set_option Elab.async false
set_option linter.all false
set_option maxRecDepth 100000
set_option maxHeartbeats 4000000
namespace G57
open PySem DL
set_option autoImplicit false
noncomputable section
def sub_BadNumber : List (Str × Bool) := [("BadNumber", true)]
def N_is_integer : List Str := ["value"]
def g_is_integer : DS := dRet (dAndV (dIsi "int" (dVarB 0)) (dNotV (dIsi "bool" (dVarB 0))))
def m_is_integer (ds : List PyData) : R PyData := runD N_is_integer.length g_is_integer ds
def N_check_goal : List Str := ["number"]
def g_check_goal : DS := dIfS (dOrT (dNotT (dTest (dCall 1 m_is_integer (dCons (dVar 0) (dNil))))) (dTest (dBin (gI fun i j => .bool (decide (i < j))) (dVarB 0) (dC (.int 1))))) (dRaise ("BadNumber" : Str)) (dSkip)
def m_check_goal (ds : List PyData) : R PyData := runD N_check_goal.length g_check_goal ds
def N_plain_chain : List Str := ["number", "found", "figure"]
def b_plain_chain_1 : DS := dSeq (dApp 1 (dTup (dCons (dC (.str ("add" : Str))) (dCons (dCallG gLen (dCons (dVarB 1) (dNil))) (dCons (dCallG gLen (dCons (dVarB 1) (dNil))) (dNil))))))
  (dIfS (dTest (dBin (gEq false) (dBin (gI fun i j => .int (Builtin.bitAnd i j)) (dBin (gIC shrB fun i j => .int (i / 2 ^ j.toNat)) (dVarB 0) (dVarB 2)) (dC (.int 1))) (dC (.int 1)))) (dApp 1 (dTup (dCons (dC (.str ("add" : Str))) (dCons (dCallG gLen (dCons (dVarB 1) (dNil))) (dCons (dC (.int 0)) (dNil)))))) (dSkip))
def g_plain_chain : DS := dSeq (dExpr (dCall 1 m_check_goal (dCons (dVar 0) (dNil))))
  (dSeq (dSetX 1 (xF (dLstF (dNil))))
  (dSeq (dFor (dRange3 (dBin (gI fun i j => .int (i - j)) (dBits (dVarB 0)) (dC (.int 2))) (dNeg (dC (.int 1))) (dNeg (dC (.int 1)))) (gN 2) (b_plain_chain_1))
  (dRet (dCallG gTuple (dCons (dVarB 1) (dNil))))))
def m_plain_chain (ds : List PyData) : R PyData := runD N_plain_chain.length g_plain_chain ds
def N_signed_figures : List Str := ["number", "found", "figure"]
def b_signed_figures_1 : DS := dSeq (dSet 2 (dIf (dTest (dBin (gEq false) (dBin (gI fun i j => .int (Builtin.bitAnd i j)) (dVarB 0) (dC (.int 1))) (dC (.int 1)))) (dBin (gI fun i j => .int (i - j)) (dC (.int 2)) (dBin (gIC modB fun i j => .int (i % j)) (dVarB 0) (dC (.int 4)))) (dC (.int 0))))
  (dSeq (dApp 1 (dVar 2))
  (dSet 0 (dBin (gIC divB fun i j => .int (i / j)) (dBin (gI fun i j => .int (i - j)) (dVarB 0) (dVarB 2)) (dC (.int 2)))))
def t_signed_figures_1 : DT := dTest (dBin (gI fun i j => .bool (decide (j < i))) (dVarB 0) (dC (.int 0)))
def g_signed_figures : DS := dSeq (dExpr (dCall 1 m_check_goal (dCons (dVar 0) (dNil))))
  (dSeq (dSetX 1 (xF (dLstF (dNil))))
  (dSeq (dWhile (fun _ => FUEL.1) (t_signed_figures_1) (b_signed_figures_1))
  (dRet (dCallG gTuple (dCons (dVarB 1) (dNil))))))
def m_signed_figures (ds : List PyData) : R PyData := runD N_signed_figures.length g_signed_figures ds
def N_signed_chain : List Str := ["number", "found", "figure"]
def b_signed_chain_1 : DS := dSeq (dApp 1 (dTup (dCons (dC (.str ("add" : Str))) (dCons (dCallG gLen (dCons (dVarB 1) (dNil))) (dCons (dCallG gLen (dCons (dVarB 1) (dNil))) (dNil))))))
  (dIfS (dTest (dBin (gEq true) (dVarB 2) (dC (.int 0)))) (dApp 1 (dTup (dCons (dIf (dTest (dBin (gEq false) (dVarB 2) (dC (.int 1)))) (dC (.str ("add" : Str))) (dC (.str ("take" : Str)))) (dCons (dCallG gLen (dCons (dVarB 1) (dNil))) (dCons (dC (.int 0)) (dNil)))))) (dSkip))
def g_signed_chain : DS := dSeq (dSetX 1 (xF (dLstF (dNil))))
  (dSeq (dFor (dItems (dSlN (dCall 1 m_signed_figures (dCons (dVar 0) (dNil))) (oPart (dNeg (dC (.int 2)))) (oNo))) (gN 2) (b_signed_chain_1))
  (dRet (dCallG gTuple (dCons (dVarB 1) (dNil)))))
def m_signed_chain (ds : List PyData) : R PyData := runD N_signed_chain.length g_signed_chain ds
def N_windows : List Str := ["number", "width", "places", "size", "found", "at", "figure", "low", "_", "part"]
def b_windows_1 : DS := dAug 7 (gI fun i j => .int (i + j)) (dC (.int 1))
def t_windows_1 : DT := dTest (dBin (gEq false) (dBin (gI fun i j => .int (Builtin.bitAnd i j)) (dBin (gIC shrB fun i j => .int (i / 2 ^ j.toNat)) (dVarB 0) (dVarB 7)) (dC (.int 1))) (dC (.int 0)))
def b_windows_2 : DS := dSeq (dApp 4 (dTup (dCons (dC (.str ("add" : Str))) (dCons (dVar 5) (dCons (dVar 5) (dNil))))))
  (dSet 5 (dBin gAdd (dVarB 3) (dCallG gLen (dCons (dVarB 4) (dNil)))))
def b_windows_3 : DS := dSeq (dSet 7 (dVar 6))
  (dSeq (dIfS (dTest (dBin (gEq false) (dBin (gI fun i j => .int (Builtin.bitAnd i j)) (dBin (gIC shrB fun i j => .int (i / 2 ^ j.toNat)) (dVarB 0) (dVarB 6)) (dC (.int 1))) (dC (.int 1)))) (dSeq (dSet 7 (dCallG gMax2 (dCons (dC (.int 0)) (dCons (dBin gAdd (dBin (gI fun i j => .int (i - j)) (dVarB 6) (dVarB 1)) (dC (.int 1))) (dNil)))))
  (dWhile (fun _ => FUEL.1) (t_windows_1) (b_windows_1))) (dSkip))
  (dSeq (dFor (dRange1 (dIf (dTest (dBin (gIsN true) (dVarB 5) (dC .none))) (dBin gAdd (dBin (gI fun i j => .int (i - j)) (dVarB 6) (dVarB 7)) (dC (.int 1))) (dC (.int 0)))) (gN 8) (b_windows_2))
  (dSeq (dIfS (dTest (dBin (gEq false) (dBin (gI fun i j => .int (Builtin.bitAnd i j)) (dBin (gIC shrB fun i j => .int (i / 2 ^ j.toNat)) (dVarB 0) (dVarB 6)) (dC (.int 1))) (dC (.int 1)))) (dSeq (dSet 9 (dBin gDGet (dVarB 2) (dBin (gI fun i j => .int (Builtin.bitAnd i j)) (dBin (gIC shrB fun i j => .int (i / 2 ^ j.toNat)) (dVarB 0) (dVarB 7)) (dBin (gI fun i j => .int (i - j)) (dBin (gIC shlB fun i j => .int (i * 2 ^ j.toNat)) (dC (.int 1)) (dBin gAdd (dBin (gI fun i j => .int (i - j)) (dVarB 6) (dVarB 7)) (dC (.int 1)))) (dC (.int 1))))))
  (dIfS (dTest (dBin (gIsN false) (dVarB 5) (dC .none))) (dSet 5 (dVar 9)) (dSeq (dApp 4 (dTup (dCons (dC (.str ("add" : Str))) (dCons (dVar 5) (dCons (dVar 9) (dNil))))))
  (dSet 5 (dBin gAdd (dVarB 3) (dCallG gLen (dCons (dVarB 4) (dNil)))))))) (dSkip))
  (dSet 6 (dBin (gI fun i j => .int (i - j)) (dVarB 7) (dC (.int 1)))))))
def t_windows_3 : DT := dTest (dBin (gI fun i j => .bool (decide (j ≤ i))) (dVarB 6) (dC (.int 0)))
def g_windows : DS := dSeq (dPar3 4 5 6 (xF (dLstF (dNil))) (xE (dC .none)) (xE (dBin (gI fun i j => .int (i - j)) (dBits (dVarB 0)) (dC (.int 1)))))
  (dSeq (dWhile (fun _ => FUEL.1) (t_windows_3) (b_windows_3))
  (dRet (dVarB 4)))
def m_windows (ds : List PyData) : R PyData := runD N_windows.length g_windows ds
def N_window_chain : List Str := ["number", "width", "found", "places", "odd"]
def b_window_chain_1 : DS := dSeq (dApp 2 (dTup (dCons (dC (.str ("add" : Str))) (dCons (dIf (dTest (dBin (gI fun i j => .bool (decide (j < i))) (dVarB 4) (dC (.int 3)))) (dCallG gLen (dCons (dVarB 2) (dNil))) (dC (.int 1))) (dCons (dIf (dTest (dBin (gEq false) (dVarB 4) (dC (.int 3)))) (dC (.int 0)) (dC (.int 1))) (dNil))))))
  (dPut 3 (dVar 4) (dCallG gLen (dCons (dVarB 2) (dNil))))
def g_window_chain : DS := dSeq (dExpr (dCall 1 m_check_goal (dCons (dVar 0) (dNil))))
  (dSeq (dIfS (dOrT (dNotT (dTest (dCall 1 m_is_integer (dCons (dVar 1) (dNil))))) (dOrT (dTest (dBin (gI fun i j => .bool (decide (i < j))) (dVarB 1) (dC (.int 1)))) (dTest (dBin (gI fun i j => .bool (decide (j < i))) (dVarB 1) (dC (.int 6)))))) (dRaise ("BadNumber" : Str)) (dSkip))
  (dSeq (dPar2 2 3 (xF (dLstF (dNil))) (xD1 (.inl 1) (dC (.int 0))))
  (dSeq (dIfS (dAndT (dTest (dBin (gI fun i j => .bool (decide (j < i))) (dVarB 1) (dC (.int 1)))) (dTest (dBin (gI fun i j => .bool (decide (j < i))) (dVarB 0) (dC (.int 2))))) (dSeq (dApp 2 (dTup (dCons (dC (.str ("add" : Str))) (dCons (dC (.int 0)) (dCons (dC (.int 0)) (dNil))))))
  (dFor (dRange3 (dC (.int 3)) (dCallG gMin2 (dCons (dBin (gIC shlB fun i j => .int (i * 2 ^ j.toNat)) (dC (.int 1)) (dVarB 1)) (dCons (dBin gAdd (dVarB 0) (dC (.int 1))) (dNil)))) (dC (.int 2))) (gN 4) (b_window_chain_1))) (dSkip))
  (fun env => (dRet (dCallG gTuple (dCons (dBin gAdd (dVarB 2) (dCall 4 m_windows (dCons (dVar 0) (dCons (dVar 1) (dCons (dVar 3) (dCons (dCallG gLen (dCons (dVarB 2) (dNil))) (dNil))))))) (dNil)))) (freeze 3 env)))))
def m_window_chain (ds : List PyData) : R PyData := runD N_window_chain.length g_window_chain ds
def N__law_cell : List Str := ["script", "k"]
def g__law_cell : DS := dSeq (dIfS (dTest (dBin (gI fun i j => .bool (decide (i < j))) (dVarB 1) (dCallG gLen (dCons (dVarB 0) (dNil))))) (dRet (dBin (gIC modB fun i j => .int (i % j)) (dCallG gAbs (dCons (dCallG gIntOf (dCons (dIx (dVarB 0) (dVarB 1)) (dNil))) (dNil))) (dC (.int 1000000007)))) (dSkip))
  (dRet (dC (.int 0)))
def m__law_cell (ds : List PyData) : R PyData := runD N__law_cell.length g__law_cell ds
def N__law_rich : List Str := ["cell", "k", "mixed"]
def g__law_rich : DS := dSeq (dSet 2 (dBin (gIC modB fun i j => .int (i % j)) (dCallG gIntOf (dCons (dBin gAdd (dBin gAdd (dBin (gIC mulB fun i j => .int (i * j)) (dVarB 0) (dC (.int 48271))) (dBin (gIC mulB fun i j => .int (i * j)) (dVarB 1) (dC (.int 69621)))) (dC (.int 11))) (dNil))) (dC (.int 2147483647))))
  (dRet (dBin gAdd (dBin (gIC mulB fun i j => .int (i * j)) (dVarB 2) (dC (.int 2147483629))) (dBin (gIC modB fun i j => .int (i % j)) (dCallG gIntOf (dCons (dBin gAdd (dBin (gIC mulB fun i j => .int (i * j)) (dVarB 2) (dC (.int 16807))) (dVarB 0)) (dNil))) (dC (.int 2147483629)))))
def m__law_rich (ds : List PyData) : R PyData := runD N__law_rich.length g__law_rich ds
def N__law_number : List Str := ["chain", "found", "step"]
def b__law_number_1 : DS := dSeq (dIfS (dOrT (dNotT (dTest (dIsi "tuple" (dVarB 2)))) (dOrT (dTest (dBin (gEq true) (dCallG gLen (dCons (dVarB 2) (dNil))) (dC (.int 3)))) (dOrT (dTest (dBin (gIn true) (dIx (dVarB 2) (dC (.int 0))) (dLst (dCons (dC (.str ("add" : Str))) (dCons (dC (.str ("take" : Str))) (dNil)))))) (dOrT (dNotT (dTest (dChain (gI fun i j => .bool (decide (i ≤ j))) (gI fun i j => .bool (decide (i < j))) (dC (.int 0)) (dIx (dVarB 2) (dC (.int 1))) (dCallG gLen (dCons (dVarB 1) (dNil)))))) (dNotT (dTest (dChain (gI fun i j => .bool (decide (i ≤ j))) (gI fun i j => .bool (decide (i < j))) (dC (.int 0)) (dIx (dVarB 2) (dC (.int 2))) (dCallG gLen (dCons (dVarB 1) (dNil)))))))))) (dRet (dC .none)) (dSkip))
  (dApp 1 (dIf (dTest (dBin (gEq false) (dIx (dVarB 2) (dC (.int 0))) (dC (.str ("add" : Str))))) (dBin gAdd (dIx (dVarB 1) (dIx (dVarB 2) (dC (.int 1)))) (dIx (dVarB 1) (dIx (dVarB 2) (dC (.int 2))))) (dBin (gI fun i j => .int (i - j)) (dIx (dVarB 1) (dIx (dVarB 2) (dC (.int 1)))) (dIx (dVarB 1) (dIx (dVarB 2) (dC (.int 2)))))))
def g__law_number : DS := dSeq (dSetX 1 (xF (dLstF (dCons (dC (.int 1)) (dNil)))))
  (dSeq (dFor (dItems (dVar 0)) (gN 2) (b__law_number_1))
  (dRet (dIx (dVarB 1) (dNeg (dC (.int 1))))))
def m__law_number (ds : List PyData) : R PyData := runD N__law_number.length g__law_number ds
def N__law_refused : List Str := ["value", "width", "count", "k"]
def b__law_refused_1 : DS := dTry (dIfS (dTest (dBin (gEq false) (dVarB 3) (dC (.int 0)))) (dExpr (dCall 1 m_plain_chain (dCons (dVar 0) (dNil)))) (dIfS (dTest (dBin (gEq false) (dVarB 3) (dC (.int 1)))) (dExpr (dCall 1 m_signed_chain (dCons (dVar 0) (dNil)))) (dIfS (dTest (dBin (gEq false) (dVarB 3) (dC (.int 2)))) (dExpr (dCall 1 m_signed_figures (dCons (dVar 0) (dNil)))) (dExpr (dCall 2 m_window_chain (dCons (dVar 0) (dCons (dVar 1) (dNil)))))))) (subT sub_BadNumber) (fun fs => dSet 2 (dBin gAdd (dVarB 2) (dC (.int 1))))
def g__law_refused : DS := dSeq (dSet 2 (dC (.int 0)))
  (dSeq (dFor (dRange1 (dC (.int 4))) (gN 3) (b__law_refused_1))
  (dRet (dVarB 2)))
def m__law_refused (ds : List PyData) : R PyData := runD N__law_refused.length g__law_refused ds
def N_law : List Str := ["script", "turn", "rich", "number", "plain", "signed", "figures", "k", "row", "width", "step", "figure"]
def b_law_1 : DS := dApp 6 (dBin (gIC modB fun i j => .int (i % j)) (dBin (gIC shrB fun i j => .int (i / 2 ^ j.toNat)) (dVarB 3) (dVarB 7)) (dC (.int 2)))
def b_law_2 : DS := dIfS (dTest (dBin (gEq true) (dCall 1 m__law_number (dCons (dCall 2 m_window_chain (dCons (dVar 3) (dCons (dVar 9) (dNil)))) (dNil))) (dVarB 3))) (dRet (dC (.bool false))) (dSkip)
def b_law_3 : DS := dSeq (dSet 2 (dCall 2 m__law_rich (dCons (dCall 2 m__law_cell (dCons (dVar 0) (dCons (dVar 1) (dNil)))) (dCons (dVar 1) (dNil)))))
  (dSeq (dSet 3 (dBin gAdd (dC (.int 1)) (dBin (gIC modB fun i j => .int (i % j)) (dVarB 2) (dIx (dLst (dCons (dC (.int 6)) (dCons (dC (.int 40)) (dCons (dC (.int 3000)) (dCons (dC (.int 5000000)) (dNil)))))) (dBin (gIC modB fun i j => .int (i % j)) (dBin (gIC divB fun i j => .int (i / j)) (dVarB 2) (dC (.int 7))) (dC (.int 4)))))))
  (dSeq (dPar2 4 5 (xE (dCall 1 m_plain_chain (dCons (dVar 3) (dNil)))) (xE (dCall 1 m_signed_chain (dCons (dVar 3) (dNil)))))
  (dSeq (dSetX 6 (xF (dLstF (dNil))))
  (dSeq (dFor (dRange1 (dBits (dVarB 3))) (gN 7) (b_law_1))
  (dSeq (dIfS (dOrT (dTest (dBin (gEq true) (dCall 1 m__law_number (dCons (dVar 4) (dNil))) (dVarB 3))) (dOrT (dTest (dBin (gEq true) (dCall 1 m__law_number (dCons (dVar 5) (dNil))) (dVarB 3))) (dTest (dCallG gAny (dCons (dOfF (dComp [10] (dItems (dVar 4)) (gN 10) (tYesD) (dBin (gEq true) (dIx (dVarB 10) (dC (.int 0))) (dC (.str ("add" : Str)))))) (dNil)))))) (dRet (dC (.bool false))) (dSkip))
  (dSeq (dIfS (dTest (dBin (gEq true) (dCallG gLen (dCons (dVarB 4) (dNil))) (dBin (gI fun i j => .int (i - j)) (dBin gAdd (dBin (gI fun i j => .int (i - j)) (dCallG gLen (dCons (dVarB 6) (dNil))) (dC (.int 1))) (dCount (dVarB 6) (dC (.int 1)))) (dC (.int 1))))) (dRet (dC (.bool false))) (dSkip))
  (dSeq (dSet 8 (dCall 1 m_signed_figures (dCons (dVar 3) (dNil))))
  (dSeq (dIfS (dOrT (dTest (dCallG gAny (dCons (dOfF (dComp [11] (dItems (dVar 8)) (gN 11) (tYesD) (dBin (gIn true) (dVarB 11) (dLst (dCons (dNeg (dC (.int 1))) (dCons (dC (.int 0)) (dCons (dC (.int 1)) (dNil)))))))) (dNil)))) (dTest (dCallG gAny (dCons (dOfF (dComp [7] (dRange1 (dBin (gI fun i j => .int (i - j)) (dCallG gLen (dCons (dVarB 8) (dNil))) (dC (.int 1)))) (gN 7) (tYesD) (dAndV (dBin (gEq true) (dIx (dVarB 8) (dVarB 7)) (dC (.int 0))) (dBin (gEq true) (dIx (dVarB 8) (dBin gAdd (dVarB 7) (dC (.int 1)))) (dC (.int 0)))))) (dNil))))) (dRet (dC (.bool false))) (dSkip))
  (dSeq (dIfS (dTest (dBin (gEq true) (dCallG gSum (dCons (dOfF (dComp [7] (dRange1 (dCallG gLen (dCons (dVarB 8) (dNil)))) (gN 7) (tYesD) (dBin (gIC mulB fun i j => .int (i * j)) (dIx (dVarB 8) (dVarB 7)) (dBin (gIC shlB fun i j => .int (i * 2 ^ j.toNat)) (dC (.int 1)) (dVarB 7))))) (dNil))) (dVarB 3))) (dRet (dC (.bool false))) (dSkip))
  (dSeq (dFor (dRange2 (dC (.int 1)) (dC (.int 7))) (gN 9) (b_law_2))
  (dIfS (dOrT (dTest (dBin (gEq true) (dCall 2 m__law_refused (dCons (dIx (dLst (dCons (dC (.int 0)) (dCons (dNeg (dC (.int 1))) (dCons (dC .none) (dCons (dC (.bool true)) (dCons (dC (.str ("1" : Str))) (dCons (dTup (dCons (dC (.int 1)) (dNil))) (dNil)))))))) (dBin (gIC modB fun i j => .int (i % j)) (dBin (gIC divB fun i j => .int (i / j)) (dVarB 2) (dC (.int 11))) (dC (.int 6)))) (dCons (dC (.int 2)) (dNil)))) (dC (.int 4)))) (dTest (dBin (gEq true) (dCall 2 m__law_refused (dCons (dVar 3) (dCons (dIx (dLst (dCons (dC (.int 0)) (dCons (dC (.int 7)) (dCons (dC .none) (dCons (dC (.str ("2" : Str))) (dCons (dC (.bool true)) (dNil))))))) (dBin (gIC modB fun i j => .int (i % j)) (dBin (gIC divB fun i j => .int (i / j)) (dVarB 2) (dC (.int 13))) (dC (.int 5)))) (dNil)))) (dC (.int 1))))) (dRet (dC (.bool false))) (dSkip))))))))))))
def g_law : DS := dSeq (dFor (dRange1 (dC (.int 4))) (gN 1) (b_law_3))
  (dRet (dC (.bool true)))
def m_law (ds : List PyData) : R PyData := runD N_law.length g_law ds
end
end G57

set_option Elab.async false
set_option linter.all false
set_option maxRecDepth 100000
set_option maxHeartbeats 4000000
namespace G57
open PySem PySem.Spec DL
set_option autoImplicit false
theorem is_integer_int (i : Int) : m_is_integer [.int i] = .ok (.bool true) := by unfold m_is_integer g_is_integer N_is_integer; simp! only []
theorem is_integer_bool (i : Bool) : m_is_integer [.bool i] = .ok (.bool false) := by unfold m_is_integer g_is_integer N_is_integer; simp! only []
theorem is_integer_str (i : Str) : m_is_integer [.str i] = .ok (.bool false) := by unfold m_is_integer g_is_integer N_is_integer; simp! only []
theorem is_integer_tuple (i : List PyData) : m_is_integer [.tuple i] = .ok (.bool false) := by unfold m_is_integer g_is_integer N_is_integer; simp! only []
theorem is_integer_none : m_is_integer [.none] = .ok (.bool false) := by unfold m_is_integer g_is_integer N_is_integer; simp! only []
theorem check_goal_int (i : Int) (h : 1 ≤ i) : m_check_goal [.int i] = .ok .none := by
  unfold m_check_goal g_check_goal N_check_goal
  simp! only [is_integer_int, show ¬ i < 1 by omega]
theorem check_goal_bad (d : PyData) (h : m_is_integer [d] = .ok (.bool false)) : m_check_goal [d] = .error (.exc "BadNumber" []) := by
  unfold m_check_goal g_check_goal N_check_goal
  simp! only [h]
theorem check_goal_low (i : Int) (h : i < 1) : m_check_goal [.int i] = .error (.exc "BadNumber" []) := by
  unfold m_check_goal g_check_goal N_check_goal
  simp! only [is_integer_int, h]
theorem law_cell (ns : List Int) (k : Nat) (h : k < 64) : ∃ c : Int, 0 ≤ c ∧ c < 1000000007 ∧ m__law_cell [.list (ns.map .int), .int k] = .ok (.int c) := by
  by_cases hk : k < ns.length
  · refine ⟨(if ns[k] < 0 then -ns[k] else ns[k]) % 1000000007, by omega, by omega, ?_⟩
    unfold m__law_cell g__law_cell N__law_cell
    have e : L2.atI (ns.map PyData.int) (k : Int) = some (.int ns[k]) := atI_nat (by simp [hk])
    simp! only [e, show ((k : Int) < (ns.length : Int)) from by omega]
  · refine ⟨0, by omega, by omega, ?_⟩
    unfold m__law_cell g__law_cell N__law_cell
    simp! only [show ¬ ((k : Int) < (ns.length : Int)) from by omega]
theorem law_rich (c k : Int) (hc : 0 ≤ c) (hc2 : c < 1000000007) (hk : 0 ≤ k) (hk2 : k < 64) : ∃ r : Int, 0 ≤ r ∧ r < 4611686014132420609 ∧ m__law_rich [.int c, .int k] = .ok (.int r) := by
  refine ⟨((c * 48271 + k * 69621 + 11) % 2147483647) * 2147483629 + (((c * 48271 + k * 69621 + 11) % 2147483647) * 16807 + c) % 2147483629, by omega, by omega, ?_⟩
  unfold m__law_rich g__law_rich N__law_rich
  have h1 : mulB c 48271 = true := mulB_r (by decide) (by decide)
  have h2 : mulB k 69621 = true := mulB_r (by decide) (by decide)
  have h3 : ∀ x, mulB x 2147483629 = true := fun x => mulB_r (by decide) (by decide)
  have h4 : ∀ x, mulB x 16807 = true := fun x => mulB_r (by decide) (by decide)
  simp! only [h1, h2, h3, h4]
/-! ### chains and their values -/
def stp (add : Bool) (a b : Nat) : PyData := .tuple [.str (if add then "add" else "take"), .int (a : Nat), .int (b : Nat)]
inductive Run : List PyData → List Int → Prop
  | one : Run [] [1]
  | step {st : List PyData} {vs : List Int} {add : Bool} {a b : Nat} {x y : Int} : Run st vs → vs[a]? = some x → vs[b]? = some y → Run (st ++ [stp add a b]) (vs ++ [if add then x + y else x - y])
theorem Run.len {st : List PyData} {vs : List Int} (h : Run st vs) : vs.length = st.length + 1 := by
  induction h with
  | one => rfl
  | step h1 h2 h3 ih => simp [ih]
theorem Run.zero {st : List PyData} {vs : List Int} (h : Run st vs) : vs[0]? = some 1 := by
  induction h with
  | one => rfl
  | @step st vs add a b x y h1 h2 h3 ih =>
    rw [List.getElem?_append_left (by rw [h1.len]; omega)]; exact ih
theorem Run.last {st : List PyData} {vs : List Int} (h : Run st vs) : vs.getLast? = vs[st.length]? := by
  rw [List.getLast?_eq_getElem?, h.len]; rfl
theorem Run.top {st : List PyData} {vs : List Int} {v : Int} (h : Run st vs) (e : vs.getLast? = some v) : vs[st.length]? = some v := by rw [← h.last]; exact e
theorem op_in (b : Bool) : gIn true (.str (if b then "add" else "take")) (.list [.str "add", .str "take"]) = some (.bool false) := by
  cases b
  · exact gIn_of (b := true) (by decide +kernel) (by decide +kernel) (by decide +kernel)
  · exact gIn_of (b := true) (by decide +kernel) (by decide +kernel) (by decide +kernel)
theorem op_eq (b : Bool) : gEq false (.str (if b then "add" else "take")) (.str "add") = some (.bool b) := by
  cases b
  · exact gEq_of (b := false) (by decide +kernel) (by decide +kernel) (by decide +kernel)
  · exact gEq_of (b := true) (by decide +kernel) (by decide +kernel) (by decide +kernel)
theorem op_ne (b : Bool) : gEq true (.str (if b then "add" else "take")) (.str "add") = some (.bool (!b)) := by
  cases b
  · exact gEq_of (b := false) (by decide +kernel) (by decide +kernel) (by decide +kernel)
  · exact gEq_of (b := true) (by decide +kernel) (by decide +kernel) (by decide +kernel)
theorem atI_0 {l : List PyData} {a : PyData} : L2.atI (a :: l) 0 = some a := atI_nat (i := 0) rfl
theorem atI_1 {l : List PyData} {a b : PyData} : L2.atI (a :: b :: l) 1 = some b := atI_nat (i := 1) rfl
theorem atI_2 {l : List PyData} {a b c : PyData} : L2.atI (a :: b :: c :: l) 2 = some c := atI_nat (i := 2) rfl
theorem at_map {vs : List Int} {a : Nat} {x : Int} (h : vs[a]? = some x) : L2.atI (vs.map PyData.int) (a : Int) = some (.int x) := atI_nat (by rw [List.getElem?_map, h]; rfl)
theorem lt_of_at {vs : List Int} {a : Nat} {x : Int} (h : vs[a]? = some x) : a < vs.length := (List.getElem?_eq_some_iff.mp h).1
theorem number_body (t x : PyData) (vs : List Int) (add : Bool) (a b : Nat) (y z : Int) (h1 : vs[a]? = some y) (h2 : vs[b]? = some z) (hl : vs.length < LIM) :
    b__law_number_1 [.dat t, .own (.lst (vs.map .int)), .dat (stp add a b)] = .nx [.dat t, .own (.lst ((vs ++ [if add then y + z else y - z]).map .int)), .dat (stp add a b)] := by
  have l1 := lt_of_at h1
  have l2 := lt_of_at h2
  have e1 : (a : Int) < (vs.length : Int) := by omega
  have e2 : (b : Int) < (vs.length : Int) := by omega
  have e3 : (0 : Int) ≤ (a : Int) := by omega
  have e4 : (0 : Int) ≤ (b : Int) := by omega
  have lim2 : 2 < LIM := by decide
  have lim1 : 1 + 1 < LIM := by decide
  unfold b__law_number_1 stp
  simp! only [atI_0, atI_1, atI_2, op_in, op_eq, gEq_intt, gEq_intf, e1, e2, e3, e4, at_map h1, at_map h2, lim2, hl, Int.reduceEq, decide_true, Bool.not_true, show ((0 + 1 + 1 + 1 : Nat) : Int) = 3 from rfl, show ((3 : Nat) : Int) = 3 from rfl]
  cases add <;> simp! only [hl, List.map_append, List.map_cons, List.map_nil, at_map h1, at_map h2]
theorem number_of_run {st : List PyData} {vs : List Int} {v : Int} (h : Run st vs) (hl : st.length < 15000000) (hv : vs.getLast? = some v) : m__law_number [.tuple st] = .ok (.int v) := by
  have key : ∀ {st : List PyData} {vs : List Int}, Run st vs → st.length < 15000000 → ∀ t x0, ∃ x, Pass (gN 2) b__law_number_1 st [.dat t, .own (.lst [.int 1]), x0] [.dat t, .own (.lst (vs.map .int)), x] := by
    intro st vs h
    induction h with
    | one => exact fun _ t x0 => ⟨x0, .nil⟩
    | @step st vs add a b x y h1 h2 h3 ih =>
      intro hl t x0
      rw [List.length_append] at hl
      obtain ⟨x', p⟩ := ih (by omega) t x0
      have hlen := h1.len
      refine ⟨_, p.app (.one (e1 := [.dat t, .own (.lst (vs.map .int)), .dat (stp add a b)]) rfl (number_body t .none vs add a b x y h2 h3 ?_))⟩
      rw [hlen]
      have : LIM = 16000000 := rfl
      omega
  obtain ⟨x, p⟩ := key h hl (.tuple st) .un
  have e := p.run
  unfold m__law_number g__law_number N__law_number
  have lim1 : 0 + 1 < LIM := by decide
  have lim2 : 1 < LIM := by decide
  simp! only [lim1, lim2, dFor, e, atI_last (getLast?_map_int hv)]
/-! ### plain chains -/
/-- how many of the lowest m figures are 1 -/
def ones (n : Nat) : Nat → Nat
  | 0 => 0
  | m + 1 => ones n m + n / 2 ^ m % 2
theorem ones_le (n : Nat) : ∀ m, ones n m ≤ m
  | 0 => Nat.le_refl _
  | m + 1 => by
    have := ones_le n m
    show ones n m + n / 2 ^ m % 2 ≤ m + 1
    omega
theorem bits_nat {n : Nat} (h : 1 ≤ n) : Builtin.Int.intBits (n : Int) = n.log2 + 1 := by
  unfold Builtin.Int.intBits
  have : ¬ ((n : Int) == 0) = true := by simp; omega
  rw [if_neg this]; rfl
theorem band_nat (a b : Nat) : Builtin.bitAnd (a : Int) (b : Int) = ((a &&& b : Nat) : Int) := rfl
theorem shr_nat (n : Nat) (j : Int) (hj : 0 ≤ j) : (n : Int) / 2 ^ j.toNat = ((n / 2 ^ j.toNat : Nat) : Int) := by
  rw [Int.natCast_ediv]; norm_cast
theorem bit_nat (n k : Nat) : Builtin.bitAnd ((n : Int) / 2 ^ k) 1 = ((n / 2 ^ k % 2 : Nat) : Int) := by
  have e : (n : Int) / 2 ^ k = ((n / 2 ^ k : Nat) : Int) := by rw [Int.natCast_ediv]; norm_cast
  rw [e]
  show Builtin.bitAnd _ ((1 : Nat) : Int) = _
  rw [band_nat, Nat.and_one_is_mod]
def AllAdd (st : List PyData) : Prop := ∀ s ∈ st, ∃ a b, s = stp true a b
theorem stp_eq (add : Bool) (a b : Nat) : PyData.tuple [.str (if add then "add" else "take"), .int (a : Nat), .int (b : Nat)] = stp add a b := rfl
theorem stp_add (a b : Nat) : PyData.tuple [.str "add", .int (a : Nat), .int (b : Nat)] = stp true a b := rfl
theorem plain_body (n k : Nat) (st : List PyData) (vs : List Int) (v : Int) (x : Sl) (h : Run st vs) (hv : vs.getLast? = some v) (hl : st.length < 10000000) :
    ∃ st' vs', b_plain_chain_1 [.dat (.int n), .own (.lst st), .dat (.int k)] = .nx [.dat (.int n), .own (.lst st'), .dat (.int k)] ∧ Run st' vs' ∧ vs'.getLast? = some (2 * v + (n / 2 ^ k % 2 : Nat)) ∧ st'.length = st.length + 1 + n / 2 ^ k % 2 ∧ (AllAdd st → AllAdd st') := by
  have ht := h.top hv
  have r1 : Run (st ++ [stp true st.length st.length]) (vs ++ [v + v]) := .step (add := true) h ht ht
  have lim3 : 2 < LIM := by decide
  have limS : st.length < LIM := Nat.lt_trans hl (by decide)
  have limS1 : st.length + 1 < LIM := Nat.lt_of_lt_of_le (show st.length + 1 < 10000001 by omega) (by decide)
  rcases Nat.mod_two_eq_zero_or_one (n / 2 ^ k) with e | e
  · refine ⟨_, _, ?_, r1, ?_, ?_, ?_⟩
    · unfold b_plain_chain_1
      simp! only [lim3, limS, Int.toNat_natCast, bit_nat, e, gEq_intf, show (0 : Int) ≤ (k : Int) by omega, stp_add]
      rfl
    · rw [List.getLast?_append, e]; simp; omega
    · simp [e]
    · intro hs s hm
      rcases List.mem_append.mp hm with z | z
      · exact hs s z
      · exact ⟨_, _, List.mem_singleton.mp z⟩
  · have r2 : Run (st ++ [stp true st.length st.length] ++ [stp true (st.length + 1) 0]) (vs ++ [v + v] ++ [v + v + 1]) := by
      refine .step (add := true) r1 ?_ r1.zero
      rw [List.getElem?_append_right (by rw [h.len]; omega), h.len]; simp
    refine ⟨_, _, ?_, r2, ?_, ?_, ?_⟩
    · unfold b_plain_chain_1
      simp! only [lim3, limS, Int.toNat_natCast, bit_nat, e, gEq_intf, show (0 : Int) ≤ (k : Int) by omega, stp_add, List.length_append, limS1]
      rfl
    · rw [List.getLast?_append, e]; simp; omega
    · simp [e]
    · intro hs s hm
      rcases List.mem_append.mp hm with z | z
      · rcases List.mem_append.mp z with z | z
        · exact hs s z
        · exact ⟨_, _, List.mem_singleton.mp z⟩
      · exact ⟨_, _, List.mem_singleton.mp z⟩
theorem plain_chain_ok (n : Nat) (h1 : 1 ≤ n) (h2 : n < 2 ^ 23) : ∃ st vs, m_plain_chain [.int n] = .ok (.tuple st) ∧ Run st vs ∧ vs.getLast? = some (n : Int) ∧ st.length = n.log2 + ones n n.log2 ∧ AllAdd st := by
  have hl : n.log2 < 23 := (Nat.log2_lt (by omega)).mpr h2
  have hsz : Builtin.Range.rangeSize ((n.log2 + 1 : Nat) - 2) (-1) (-1) = (n.log2 : Nat) := by
    unfold Builtin.Range.rangeSize
    rw [if_neg (by decide)]
    split
    · rw [show -(-1 : Int) = 1 from rfl, Int.ediv_one]; omega
    · omega
  have lo := ones_le n n.log2
  obtain ⟨e, he, hi, st, vs, x, rfl, r, hv, hlen, ha⟩ := forD_nx (g := gN 2) (b := b_plain_chain_1) (ds := rangeD ((n.log2 + 1 : Nat) - 2) (-1) n.log2) (env := [.dat (.int n), .own (.lst []), .un])
    (fun i e => i ≤ n.log2 ∧ ∃ st vs x, e = [.dat (.int n), .own (.lst st), x] ∧ Run st vs ∧ vs.getLast? = some ((n / 2 ^ (n.log2 - i) : Nat) : Int) ∧ st.length + ones n (n.log2 - i) = i + ones n n.log2 ∧ AllAdd st)
    ⟨Nat.zero_le _, [], [1], _, rfl, .one, by
      have : n / 2 ^ n.log2 = 1 := by
        have a := Nat.log2_self_le (show n ≠ 0 by omega)
        have b := Nat.lt_log2_self (n := n)
        rw [Nat.pow_succ] at b
        exact Nat.div_eq_of_lt_le (by omega) (by omega)
      rw [Nat.sub_zero, this]; rfl, by simp, fun _ h => by cases h⟩ (by
    rintro i d e hd ⟨hi, st, vs, x, rfl, r, hv, hlen, ha⟩
    obtain ⟨hlt, rfl⟩ := rangeD_at hd
    obtain ⟨k, hk⟩ : ∃ k, k = n.log2 - (i + 1) := ⟨_, rfl⟩
    have e1 : ((n.log2 + 1 : Nat) : Int) - 2 + (i : Nat) * (-1) = (k : Nat) := by omega
    have e2 : n.log2 - i = k + 1 := by omega
    rw [e2] at hv hlen
    have hol := ones_le n n.log2
    obtain ⟨st', vs', b1, b2, b3, b4, b5⟩ := plain_body n k st vs _ x r hv (by omega)
    refine ⟨[.dat (.int n), .own (.lst st), .dat (.int k)], _, by rw [e1]; rfl, b1, by omega, st', vs', _, rfl, b2, ?_, ?_, b5 ha⟩
    · rw [b3, ← hk]
      congr 1
      have : n / 2 ^ (k + 1) = n / 2 ^ k / 2 := by rw [Nat.pow_succ, Nat.div_div_eq_div_mul]
      rw [this]
      omega
    · rw [← hk, b4]
      have : ones n (k + 1) = ones n k + n / 2 ^ k % 2 := rfl
      omega)
  rw [rangeD_length] at hi hv hlen
  rw [Nat.sub_self] at hv hlen
  refine ⟨st, vs, ?_, r, by simpa using hv, by simpa [ones] using hlen, ha⟩
  unfold m_plain_chain g_plain_chain N_plain_chain
  have hr := gRange3_eq (i := ((n.log2 + 1 : Nat) : Int) - 2) (j := -1) (k := -1) n.log2 (by omega) (by omega) (by decide) (by decide) (by decide) (by decide) (by decide) hsz (by omega)
  simp! only [check_goal_int _ (show (1 : Int) ≤ n by omega), bits_nat h1, hr, he]
end G57

set_option Elab.async false
set_option linter.all false
set_option maxRecDepth 100000
set_option maxHeartbeats 4000000
namespace G57
open PySem PySem.Spec DL
set_option autoImplicit false
/-! ### signed figures -/
def valF : List Int → Int
  | [] => 0
  | f :: r => f + 2 * valF r
theorem valF_app : ∀ (a : List Int) (x : Int), valF (a ++ [x]) = valF a + 2 ^ a.length * x
  | [], x => by simp [valF]
  | f :: r, x => by
    have := valF_app r x
    simp only [List.cons_append, valF, this, List.length_cons, Int.pow_succ]
    grind
def Sgn (f : Int) : Prop := f = -1 ∨ f = 0 ∨ f = 1
/-- 0, 1, -1, no two neighbours not 0 -/
structure NafL (row : List Int) : Prop where
  sg : ∀ f ∈ row, Sgn f
  nb : ∀ i a b, row[i]? = some a → row[i + 1]? = some b → a = 0 ∨ b = 0
theorem NafL.app {row : List Int} {x : Int} (h : NafL row) (hx : Sgn x) (hl : ∀ y, row.getLast? = some y → y = 0 ∨ x = 0) : NafL (row ++ [x]) := by
  refine ⟨fun f hf => ?_, fun i a b ha hb => ?_⟩
  · rcases List.mem_append.mp hf with z | z
    · exact h.sg f z
    · rw [List.mem_singleton.mp z]; exact hx
  · have hb' := (List.getElem?_eq_some_iff.mp hb).1
    rw [List.length_append, List.length_singleton] at hb'
    rw [List.getElem?_append_left (by omega)] at ha
    by_cases hi : i + 1 < row.length
    · rw [List.getElem?_append_left hi] at hb
      exact h.nb i a b ha hb
    · rw [List.getElem?_append_right (by omega)] at hb
      have e : i + 1 - row.length = 0 := by omega
      rw [e] at hb
      cases hb
      have e2 : row.length - 1 = i := by omega
      exact hl a (by rw [List.getLast?_eq_getElem?, e2]; exact ha)
/-- the figure of an odd number -/
def fig (k : Nat) : Int := if k % 2 = 1 then 2 - (k : Int) % 4 else 0
theorem fig_sgn (k : Nat) : Sgn (fig k) := by
  unfold fig Sgn
  split <;> omega
def nxt (k : Nat) : Nat := (((k : Int) - fig k) / 2).toNat
theorem nxt_eq (k : Nat) : (k : Int) = fig k + 2 * (nxt k : Int) := by
  unfold nxt fig
  split <;> omega
theorem nxt_lt {k : Nat} (h : 0 < k) : nxt k < k := by
  unfold nxt fig
  split <;> omega
theorem nxt_even {k : Nat} (h : fig k ≠ 0) : nxt k % 2 = 0 := by
  unfold nxt
  unfold fig at h ⊢
  split at h <;> simp_all <;> omega
theorem signed_body (k : Nat) (x : Sl) (row : List Int) (hl : row.length < 1000) :
    b_signed_figures_1 [.dat (.int k), .own (.lst (row.map .int)), x] = .nx [.dat (.int (nxt k)), .own (.lst ((row ++ [fig k]).map .int)), .dat (.int (fig k))] := by
  have e : Builtin.bitAnd (k : Int) 1 = ((k % 2 : Nat) : Int) := by
    show Builtin.bitAnd _ ((1 : Nat) : Int) = _
    rw [band_nat, Nat.and_one_is_mod]
  have e2 : (nxt k : Int) = ((k : Int) - fig k) / 2 := by
    unfold nxt fig
    split <;> omega
  have hd : ∀ i, divB i 2 = true := fun i => divB_lit (by decide) (by decide)
  have lim : row.length < LIM := Nat.lt_trans hl (by decide)
  rw [e2]
  unfold b_signed_figures_1 fig
  rcases Nat.mod_two_eq_zero_or_one k with z | z
  · simp! only [e, z, gEq_intf, hd, Int.reduceEq, lim, List.map_append, show ((0 : Nat) : Int) = 0 from rfl, Nat.reduceEqDiff, Int.natCast_zero]
  · simp! only [e, z, gEq_intf, hd, Int.reduceEq, lim, List.map_append, show ((1 : Nat) : Int) = 1 from rfl]
theorem signed_figures_ok (n : Nat) (h1 : 1 ≤ n) (h2 : n < 2 ^ 23) : ∃ row, m_signed_figures [.int n] = .ok (.tuple (row.map .int)) ∧ valF row = n ∧ NafL row ∧ row.getLast? = some 1 ∧ row.length ≤ 24 := by
  obtain ⟨e, he, row, x, rfl, r1, r2, r3, r4⟩ := dWhile_nx (t := t_signed_figures_1) (b := b_signed_figures_1) (μ := fun _ => FUEL.1) (env := [.dat (.int n), .own (.lst []), .un])
    (fun m e => ∃ (k : Nat) (row : List Int) (x : Sl), k = m ∧ e = [.dat (.int k), .own (.lst (row.map .int)), x] ∧ (n : Int) = valF row + 2 ^ row.length * (k : Int) ∧ NafL row ∧ (∀ y, row.getLast? = some y → y = 0 ∨ k % 2 = 0) ∧
      ((k = 0 ∧ row.getLast? = some 1 ∧ row.length ≤ 24) ∨ (1 ≤ k ∧ ((k : Int) - 1) * 2 ^ row.length < 8388608 ∧ row.length ≤ 23)))
    (fun e => ∃ (row : List Int) (x : Sl), e = [.dat (.int (0 : Nat)), .own (.lst (row.map .int)), x] ∧ (n : Int) = valF row ∧ NafL row ∧ row.getLast? = some 1 ∧ row.length ≤ 24)
    n ⟨n, [], .un, rfl, rfl, (by simp [valF]), ⟨fun f h => (by cases h), fun i a b h => (by simp at h)⟩, fun y h => (by cases h), .inr ⟨h1, by simp; omega, by simp⟩⟩ (fuel_lt (by omega)) (by
    rintro m e ⟨k, row, x, rfl, rfl, hv, hn, hy, hc⟩
    rcases hc with ⟨rfl, hl, hlen⟩ | ⟨hk, hb, hlen⟩
    · left
      refine ⟨by unfold t_signed_figures_1; simp! only []; rfl, row, x, rfl, by simpa using hv, hn, hl, hlen⟩
    · right
      refine ⟨?_, _, nxt k, signed_body k x row (by omega), nxt_lt hk, nxt k, row ++ [fig k], _, rfl, rfl, ?_, ?_, ?_, ?_⟩
      · unfold t_signed_figures_1
        simp! only [show (0 : Int) < (k : Int) by omega]
      · rw [valF_app, List.length_append, List.length_singleton, Int.pow_succ, hv]
        have := nxt_eq k
        grind
      · refine hn.app (fig_sgn k) fun y e => ?_
        rcases hy y e with z | z
        · exact .inl z
        · right; unfold fig; rw [if_neg (by omega)]
      · intro y e
        rw [List.getLast?_append] at e
        simp at e
        by_cases hf : fig k = 0
        · left; omega
        · right; exact nxt_even hf
      · by_cases h0 : nxt k = 0
        · left
          refine ⟨h0, ?_, by simp; omega⟩
          have := nxt_eq k
          rw [h0] at this
          have hs := fig_sgn k
          unfold Sgn at hs
          rw [List.getLast?_append]
          simp
          omega
        · right
          have key := nxt_eq k
          have hs := fig_sgn k
          unfold Sgn at hs
          have hP : (0 : Int) < 2 ^ row.length := Int.pow_pos (by decide)
          have h3 : ((nxt k : Int) - 1) * 2 ^ (row ++ [fig k]).length < 8388608 := by
            rw [List.length_append, List.length_singleton, Int.pow_succ]
            have : ((nxt k : Int) - 1) * 2 ≤ (k : Int) - 1 := by omega
            have := Int.mul_le_mul_of_nonneg_right this (Int.le_of_lt hP)
            grind
          refine ⟨by omega, h3, ?_⟩
          rw [List.length_append, List.length_singleton]
          by_cases h23 : row.length = 23
          · exfalso
            rw [h23, show (2 : Int) ^ 23 = 8388608 from by decide] at hb
            have : k = 1 := by omega
            subst this
            exact h0 (by decide)
          · omega)
  refine ⟨row, ?_, r1.symm, r2, r3, r4⟩
  unfold m_signed_figures g_signed_figures N_signed_figures
  simp! only [check_goal_int _ (show (1 : Int) ≤ n by omega), he]
/-! ### signed chains -/
theorem sliceAdj (n : Nat) (h : 1 ≤ n) : Builtin.Slice.sliceAdjust (some (-2)) none (-1) (n : Int) = ((n : Int) - 2, -1) := by
  unfold Builtin.Slice.sliceAdjust
  simp
  omega
end G57

set_option Elab.async false
set_option linter.all false
set_option maxRecDepth 100000
set_option maxHeartbeats 4000000
namespace G57
open PySem PySem.Spec DL
set_option autoImplicit false
/-! ### signed chains -/
theorem filterMap_rev {α : Type} (l : List α) (N : Nat) (hN : N ≤ l.length) : ∀ j, j ≤ N → ((List.range j).filterMap fun m => l[N - 1 - m]?) = (l.take N).reverse.take j
  | 0, _ => rfl
  | j + 1, h => by
    rw [List.range_succ, List.filterMap_append, filterMap_rev l N hN j (by omega), List.take_succ]
    congr 1
    have hl : (l.take N).length = N := by rw [List.length_take]; omega
    rw [List.getElem?_reverse (by rw [hl]; omega), hl, List.getElem?_take_of_lt (by omega)]
    cases h' : l[N - 1 - j]? <;> simp [h']
theorem pick_rev {α : Type} (l : List α) (h : 1 ≤ l.length) : pickN l (some (-2)) none = l.dropLast.reverse := by
  unfold pickN
  have e1 : Builtin.Slice.sliceAdjust (some (-2)) none (-1) (l.length : Int) = ((l.length : Int) - 2, -1) := by
    unfold Builtin.Slice.sliceAdjust
    simp
    omega
  have e2 : Builtin.Slice.slicePlaces ((l.length : Int) - 2) (-1) (-1) = l.length - 1 := by
    unfold Builtin.Slice.slicePlaces
    rw [if_neg (by decide)]
    split
    · rw [show -(-1 : Int) = 1 from rfl, Int.ediv_one]; omega
    · omega
  rw [e1]
  dsimp only
  rw [e2]
  have e3 : ∀ m : Nat, m < l.length - 1 → ((l.length : Int) - 2 + (m : Int) * (-1)).toNat = (l.length - 1) - 1 - m := fun m hm => by omega
  have e4 : ((List.range (l.length - 1)).filterMap fun (m : Nat) => l[((l.length : Int) - 2 + (m : Int) * (-1)).toNat]?) = ((List.range (l.length - 1)).filterMap fun m => l[(l.length - 1) - 1 - m]?) := by
    have key : ∀ (L : List Nat), (∀ m ∈ L, m < l.length - 1) → (L.filterMap fun (m : Nat) => l[((l.length : Int) - 2 + (m : Int) * (-1)).toNat]?) = (L.filterMap fun m => l[(l.length - 1) - 1 - m]?) := by
      intro L
      induction L with
      | nil => intro _; rfl
      | cons m L ih =>
        intro hm
        rw [List.filterMap_cons, List.filterMap_cons, e3 m (hm m List.mem_cons_self), ih fun x hx => hm x (List.mem_cons_of_mem _ hx)]
    exact key _ fun m hm => List.mem_range.mp hm
  rw [e4, filterMap_rev l (l.length - 1) (by omega) _ (Nat.le_refl _), List.dropLast_eq_take, List.take_of_length_le (by simp)]
theorem signedc_body (t : PyData) (f : Int) (hf : Sgn f) (st : List PyData) (vs : List Int) (v : Int) (h : Run st vs) (hv : vs.getLast? = some v) (hl : st.length < 10000000) :
    ∃ st' vs', b_signed_chain_1 [.dat t, .own (.lst st), .dat (.int f)] = .nx [.dat t, .own (.lst st'), .dat (.int f)] ∧ Run st' vs' ∧ vs'.getLast? = some (f + 2 * v) ∧ st'.length ≤ st.length + 2 := by
  have ht := h.top hv
  have r1 : Run (st ++ [stp true st.length st.length]) (vs ++ [v + v]) := .step (add := true) h ht ht
  have limS : st.length < LIM := Nat.lt_trans hl (by decide)
  have limS1 : st.length + 1 < LIM := Nat.lt_of_lt_of_le (show st.length + 1 < 10000001 by omega) (by decide)
  by_cases e : f = 0
  · subst e
    refine ⟨_, _, ?_, r1, ?_, ?_⟩
    · unfold b_signed_chain_1
      simp! only [limS, gEq_intt, stp_add]
    · rw [List.getLast?_append]; simp; omega
    · simp
  · obtain ⟨b, hb⟩ : ∃ b : Bool, b = decide (f = 1) := ⟨_, rfl⟩
    have r2 : Run (st ++ [stp true st.length st.length] ++ [stp b (st.length + 1) 0]) (vs ++ [v + v] ++ [if b then v + v + 1 else v + v - 1]) := by
      refine .step (add := b) r1 ?_ r1.zero
      rw [List.getElem?_append_right (by rw [h.len]; omega), h.len]; simp
    refine ⟨_, _, ?_, r2, ?_, ?_⟩
    · unfold b_signed_chain_1
      rcases hf with rfl | rfl | rfl
      · subst hb
        simp! only [limS, gEq_intt, gEq_intf, stp_add, Int.reduceEq, List.length_append, limS1]
        rfl
      · exact absurd rfl e
      · subst hb
        simp! only [limS, gEq_intt, gEq_intf, stp_add, Int.reduceEq, List.length_append, limS1]
        rfl
    · rw [List.getLast?_append]
      rcases hf with rfl | rfl | rfl
      · subst hb; simp; omega
      · exact absurd rfl e
      · subst hb; simp; omega
    · simp
theorem valF_drop : ∀ (row : List Int) (i : Nat) (f : Int), row[i]? = some f → valF (row.drop i) = f + 2 * valF (row.drop (i + 1))
  | [], i, f, h => by simp at h
  | a :: r, 0, f, h => by simp at h; subst h; simp [valF]
  | a :: r, i + 1, f, h => by
    have := valF_drop r i f (by simpa using h)
    simpa using this
theorem signed_chain_ok (n : Nat) (h1 : 1 ≤ n) (h2 : n < 2 ^ 23) : ∃ st vs, m_signed_chain [.int n] = .ok (.tuple st) ∧ Run st vs ∧ vs.getLast? = some (n : Int) ∧ st.length ≤ 48 := by
  obtain ⟨row, hr, hv, hn, hl, hlen⟩ := signed_figures_ok n h1 h2
  have hne : 1 ≤ row.length := by
    cases row with
    | nil => cases hl
    | cons a r => simp
  have hp := pick_rev (row.map PyData.int) (by simpa using hne)
  have hmap : (row.map PyData.int).dropLast.reverse = (row.dropLast.reverse).map PyData.int := by
    rw [← List.map_dropLast, List.map_reverse]
  rw [hmap] at hp
  obtain ⟨e, he, hi, st, vs, x, rfl, r, hv', hst⟩ := forD_nx (g := gN 2) (b := b_signed_chain_1) (ds := (row.dropLast.reverse).map PyData.int) (env := [.dat (.int n), .own (.lst []), .un])
    (fun i e => i ≤ row.length - 1 ∧ ∃ st vs x, e = [.dat (.int n), .own (.lst st), x] ∧ Run st vs ∧ vs.getLast? = some (valF (row.drop (row.length - 1 - i))) ∧ st.length ≤ 2 * i)
    ⟨Nat.zero_le _, [], [1], _, rfl, .one, by
      rw [List.getLast?_eq_getElem?] at hl
      have := valF_drop row _ 1 hl
      rw [Nat.sub_zero, this, show row.length - 1 + 1 = row.length by omega, List.drop_length]
      rfl, by simp⟩ (by
    rintro i d e hd ⟨hi, st, vs, x, rfl, r, hv', hst⟩
    obtain ⟨f, hf, rfl⟩ := map_int_at hd
    have hlt : i < row.length - 1 := by
      have := (List.getElem?_eq_some_iff.mp hf).1
      simpa using this
    rw [List.getElem?_reverse (by simpa using hlt), List.length_dropLast, List.getElem?_dropLast, if_pos (by omega)] at hf
    obtain ⟨st', vs', b1, b2, b3, b4⟩ := signedc_body (.int n) f (hn.sg f (List.mem_of_getElem? hf)) st vs _ r hv' (by omega)
    refine ⟨_, _, rfl, b1, by omega, st', vs', _, rfl, b2, ?_, by omega⟩
    rw [b3]
    have e1 : row.length - 1 - (i + 1) = row.length - 1 - 1 - i := by omega
    have e2 : row.length - 1 - i = row.length - 1 - 1 - i + 1 := by omega
    rw [e1, valF_drop row _ f hf, e2])
  have hlr : ((row.dropLast.reverse).map PyData.int).length = row.length - 1 := by simp
  rw [hlr] at hv' hst
  rw [Nat.sub_self, List.drop_zero, hv] at hv'
  refine ⟨st, vs, ?_, r, hv', by omega⟩
  unfold m_signed_chain g_signed_chain N_signed_chain
  have lim : (row.dropLast.reverse).length < LIM := Nat.lt_of_le_of_lt (show _ ≤ 24 by simp; omega) (by decide)
  simp! only [hr, dSlN, oPart, oNo, gInt, hp, lim, he]
end G57

set_option Elab.async false
set_option linter.all false
set_option maxRecDepth 100000
set_option maxHeartbeats 4000000
namespace G57
open PySem PySem.Spec DL
set_option autoImplicit false
/-! ### windows -/
abbrev iS (i : Int) : Sl := .dat (.int i)
theorem bit_natI (n k : Nat) : Builtin.bitAnd ((n : Int) / 2 ^ (k : Int).toNat) 1 = ((n / 2 ^ k % 2 : Nat) : Int) := by
  rw [Int.toNat_natCast]; exact bit_nat n k
theorem low_loop (n f : Nat) (hf : n / 2 ^ f % 2 = 1) (hf2 : f < 1000) (a0 a1 a2 a3 a4 a5 a6 a7 : Sl) (low0 : Nat) (h0 : low0 ≤ f) :
    ∃ low : Nat, low0 ≤ low ∧ low ≤ f ∧ n / 2 ^ low % 2 = 1 ∧ dWhile (fun _ => FUEL.1) t_windows_1 b_windows_1 [iS n, a0, a1, a2, a3, a4, a5, iS low0, a6, a7] = .nx [iS n, a0, a1, a2, a3, a4, a5, iS low, a6, a7] := by
  obtain ⟨e, he, low, rfl, h1, h2, h3⟩ := dWhile_nx (t := t_windows_1) (b := b_windows_1) (μ := fun _ => FUEL.1) (env := [iS n, a0, a1, a2, a3, a4, a5, iS low0, a6, a7])
    (fun m e => ∃ low : Nat, e = [iS n, a0, a1, a2, a3, a4, a5, iS low, a6, a7] ∧ m = f - low ∧ low0 ≤ low ∧ low ≤ f)
    (fun e => ∃ low : Nat, e = [iS n, a0, a1, a2, a3, a4, a5, iS low, a6, a7] ∧ low0 ≤ low ∧ low ≤ f ∧ n / 2 ^ low % 2 = 1)
    (f - low0) ⟨low0, rfl, rfl, Nat.le_refl _, h0⟩ (fuel_lt (by omega)) (by
      rintro m e ⟨low, rfl, rfl, h1, h2⟩
      rcases Nat.mod_two_eq_zero_or_one (n / 2 ^ low) with z | z
      · right
        have hne : low ≠ f := by rintro rfl; omega
        refine ⟨?_, [iS n, a0, a1, a2, a3, a4, a5, iS ((low + 1 : Nat) : Int), a6, a7], f - (low + 1), ?_, by omega, low + 1, rfl, rfl, by omega, by omega⟩
        · unfold t_windows_1
          simp! only [bit_natI, z, gEq_intf, show (0 : Int) ≤ (low : Int) by omega, Int.natCast_zero]
        · unfold b_windows_1
          simp! only [Int.natCast_add, Int.natCast_one]
      · left
        refine ⟨?_, low, rfl, h1, h2, z⟩
        unfold t_windows_1
        simp! only [bit_natI, z, gEq_intf, show (0 : Int) ≤ (low : Int) by omega, Int.natCast_one, Int.reduceEq])
  exact ⟨low, h1, h2, h3, he⟩
/-- the chain goes on: what was made stands -/
def Ext (vs vs' : List Int) : Prop := ∀ (i : Nat) (w : Int), vs[i]? = some w → vs'[i]? = some w
theorem Ext.refl (vs : List Int) : Ext vs vs := fun _ _ h => h
theorem Ext.trans {a b c : List Int} (h : Ext a b) (k : Ext b c) : Ext a c := fun i w e => k i w (h i w e)
theorem Ext.app (vs ws : List Int) : Ext vs (vs ++ ws) := fun i w h => by
  rw [List.getElem?_append_left (lt_of_at h)]; exact h
theorem dbl_body (st0 found : List PyData) (vs : List Int) (a : Nat) (v : Int) (h : Run (st0 ++ found) vs) (ha : vs[a]? = some v) (hl : found.length < 10000) (a0 a1 a2 a6 a7 a8 a9 : Sl) :
    b_windows_2 [a0, a1, a2, iS st0.length, .own (.lst found), iS a, a6, a7, a8, a9] = .nx [a0, a1, a2, iS st0.length, .own (.lst (found ++ [stp true a a])), iS ((st0 ++ (found ++ [stp true a a])).length : Nat), a6, a7, a8, a9] ∧
      Run (st0 ++ (found ++ [stp true a a])) (vs ++ [v + v]) ∧ (vs ++ [v + v])[(st0 ++ (found ++ [stp true a a])).length]? = some (v + v) := by
  have r := Run.step (add := true) h ha ha
  rw [List.append_assoc] at r
  have lim : found.length < LIM := Nat.lt_trans hl (by decide)
  refine ⟨?_, r, ?_⟩
  · unfold b_windows_2
    simp! only [lim, stp_add, List.length_append, Int.natCast_add, Int.natCast_one]
  · rw [List.getElem?_append_right (by rw [h.len]; simp; omega), h.len]
    have : (st0 ++ (found ++ [stp true a a])).length - ((st0 ++ found).length + 1) = 0 := by simp; omega
    rw [this]; rfl
theorem dbl_loop (st0 found : List PyData) (vs : List Int) (a k : Nat) (v : Int) (h : Run (st0 ++ found) vs) (ha : vs[a]? = some v) (hl : found.length + k < 10000) (a0 a1 a2 a6 a7 a8 a9 : Sl) :
    ∃ found' vs' a' x, forD (gN 8) b_windows_2 (rangeD 0 1 k) [a0, a1, a2, iS st0.length, .own (.lst found), iS a, a6, a7, a8, a9] = .nx [a0, a1, a2, iS st0.length, .own (.lst found'), iS (a' : Nat), a6, a7, x, a9] ∧
      Run (st0 ++ found') vs' ∧ vs'[a']? = some (v * 2 ^ k) ∧ Ext vs vs' ∧ found'.length = found.length + k ∧ (0 < k → a' = (st0 ++ found').length) := by
  obtain ⟨e, he, found', vs', a', x, rfl, r, h1, h2, h3, h4⟩ := forD_nx (g := gN 8) (b := b_windows_2) (ds := rangeD 0 1 k) (env := [a0, a1, a2, iS st0.length, .own (.lst found), iS a, a6, a7, a8, a9])
    (fun i e => ∃ found' vs' a' x, e = [a0, a1, a2, iS st0.length, .own (.lst found'), iS (a' : Nat), a6, a7, x, a9] ∧ Run (st0 ++ found') vs' ∧ vs'[a']? = some (v * 2 ^ i) ∧ Ext vs vs' ∧ found'.length = found.length + i ∧ (0 < i → a' = (st0 ++ found').length))
    ⟨found, vs, a, a8, rfl, h, by simpa using ha, Ext.refl _, rfl, fun z => absurd z (Nat.lt_irrefl _)⟩ (by
    rintro i d e hd ⟨fo, ws, b, x, rfl, r, h1, h2, h3, h4⟩
    obtain ⟨hlt, rfl⟩ := rangeD_at hd
    obtain ⟨g1, g2, g3⟩ := dbl_body st0 fo ws b _ r h1 (by omega) a0 a1 a2 a6 a7 (.dat (.int (0 + (i : Nat) * 1))) a9
    refine ⟨_, _, rfl, g1, _, _, _, _, rfl, g2, ?_, h2.trans (Ext.app _ _), by simp; omega, fun _ => rfl⟩
    rw [g3, Int.pow_succ]
    congr 1
    grind)
  rw [rangeD_length] at h1 h3 h4
  exact ⟨found', vs', a', x, he, r, h1, h2, h3, h4⟩
end G57

set_option Elab.async false
set_option linter.all false
set_option maxRecDepth 100000
set_option maxHeartbeats 4000000
namespace G57
open PySem PySem.Spec L2 DL
set_option autoImplicit false
theorem mask_nat (n low f : Nat) (h : low ≤ f) : Builtin.bitAnd ((n : Int) / 2 ^ (low : Int).toNat) (1 * 2 ^ ((f : Int) - (low : Int) + 1).toNat - 1) = ((n / 2 ^ low % 2 ^ (f - low + 1) : Nat) : Int) := by
  have e1 : ((f : Int) - (low : Int) + 1).toNat = f - low + 1 := by omega
  have e2 : (1 : Int) * 2 ^ (f - low + 1) - 1 = ((2 ^ (f - low + 1) - 1 : Nat) : Int) := by
    have : 1 ≤ 2 ^ (f - low + 1) := Nat.one_le_two_pow
    rw [Int.natCast_sub this, Int.one_mul]; norm_cast
  have e3 : (n : Int) / 2 ^ low = ((n / 2 ^ low : Nat) : Int) := by rw [Int.natCast_ediv]; norm_cast
  rw [e1, e2, Int.toNat_natCast, e3, band_nat, Nat.and_two_pow_sub_one_eq_mod]
theorem div_win (n low f : Nat) (h : low ≤ f) : n / 2 ^ low = n / 2 ^ (f + 1) * 2 ^ (f - low + 1) + n / 2 ^ low % 2 ^ (f - low + 1) := by
  have e : n / 2 ^ (f + 1) = n / 2 ^ low / 2 ^ (f - low + 1) := by
    rw [Nat.div_div_eq_div_mul, ← Nat.pow_add, show low + (f - low + 1) = f + 1 by omega]
  rw [e]
  have := Nat.div_add_mod (n / 2 ^ low) (2 ^ (f - low + 1))
  rw [Nat.mul_comm] at this
  omega
/-- the table: odd numbers below the window's bound, and not above the number, are made -/
def Tab (n width : Nat) (ps : List (Key × PyData)) (vs : List Int) : Prop := ∀ w : Nat, w % 2 = 1 → w < 2 ^ width → w ≤ n → ∃ a : Nat, getP ps (.inl (w : Nat)) = some (.int (a : Nat)) ∧ vs[a]? = some (w : Int)
theorem Tab.ext {n width : Nat} {ps : List (Key × PyData)} {vs vs' : List Int} (h : Tab n width ps vs) (e : Ext vs vs') : Tab n width ps vs' := fun w h1 h2 h3 =>
  let ⟨a, g1, g2⟩ := h w h1 h2 h3
  ⟨a, g1, e _ _ g2⟩
/-- where the way through the windows stands -/
inductive At (n width : Nat) (vs : List Int) (st0 found : List PyData) (j : Nat) : PyData → Prop
  | no : n / 2 ^ j = 0 → found = [] → At n width vs st0 found j .none
  | first (a : Nat) : vs[a]? = some ((n / 2 ^ j : Nat) : Int) → found = [] → n / 2 ^ j % 2 = 1 → n / 2 ^ j < 2 ^ width → (∀ ps, Tab n width ps vs → True) → At n width vs st0 found j (.int (a : Nat))
  | more (a : Nat) : vs[a]? = some ((n / 2 ^ j : Nat) : Int) → found ≠ [] → a = (st0 ++ found).length → At n width vs st0 found j (.int (a : Nat))
theorem mod_bit (x k : Nat) (h : x % 2 = 1) : x % 2 ^ (k + 1) % 2 = 1 := by
  rw [Nat.pow_succ, Nat.mul_comm]
  have := Nat.mod_mul_right_mod x 2 (2 ^ k)
  omega
theorem div_le_self' (n k : Nat) : n / 2 ^ k ≤ n := Nat.div_le_self n (2 ^ k)
theorem win_body (n width f : Nat) (ps : List (Key × PyData)) (st0 found : List PyData) (vs : List Int) (at' : PyData) (x7 x8 x9 : Sl) (hw : 1 ≤ width) (hw2 : width ≤ 6) (hf2 : f < 100) (r : Run (st0 ++ found) vs) (T : Tab n width ps vs) (hA : At n width vs st0 found (f + 1) at') (hl : found.length < 1000) :
    ∃ (j : Nat) (found' : List PyData) (vs' : List Int) (at2 : PyData) (y7 y8 y9 : Sl), j ≤ f ∧ b_windows_3 [iS n, iS width, .dat (.dict (ps.map keyPair)), iS st0.length, .own (.lst found), .dat at', iS f, x7, x8, x9] = .nx [iS n, iS width, .dat (.dict (ps.map keyPair)), iS st0.length, .own (.lst found'), .dat at2, iS ((j : Int) - 1), y7, y8, y9] ∧
      Run (st0 ++ found') vs' ∧ Ext vs vs' ∧ At n width vs' st0 found' j at2 ∧ found'.length + 2 * j ≤ found.length + 2 * (f + 1) := by
  have hs : ∀ k : Nat, (0 : Int) ≤ (k : Int) := fun k => by omega
  rcases Nat.mod_two_eq_zero_or_one (n / 2 ^ f) with z | z
  · -- the figure is 0
    have hv : n / 2 ^ f = n / 2 ^ (f + 1) * 2 := by
      have : n / 2 ^ (f + 1) = n / 2 ^ f / 2 := by rw [Nat.pow_succ, Nat.div_div_eq_div_mul]
      omega
    cases hA with
    | no h1 h2 =>
      refine ⟨f, found, vs, .none, iS f, x8, x9, Nat.le_refl _, ?_, r, Ext.refl _, .no (by rw [hv, h1]) h2, by omega⟩
      unfold b_windows_3
      simp! only [bit_natI, z, gEq_intf, hs, Int.natCast_zero, Int.reduceEq, gRange1_eq (j := 0) 0 (by decide) (by decide) rfl, rangeD, List.range_zero, forD]
    | first a h1 h2 h3 h4 h5 =>
      obtain ⟨fo, ws, b, x, he, r', g1, g2, g3, g4⟩ := dbl_loop st0 found vs a 1 _ r h1 (by omega) (iS n) (iS width) (.dat (.dict (ps.map keyPair))) (iS f) (iS f) x8 x9
      refine ⟨f, fo, ws, .int (b : Nat), iS f, x, x9, Nat.le_refl _, ?_, r', g2, .more b ?_ ?_ (g4 (by decide)), by omega⟩
      · unfold b_windows_3
        simp! only [bit_natI, z, gEq_intf, hs, Int.natCast_zero, Int.reduceEq, Int.sub_self, gRange1_eq (j := 0 + 1) 1 (by decide) (by decide) rfl, gRange1_eq (j := 1) 1 (by decide) (by decide) rfl, he]
      · rw [g1, hv]; simp
      · intro e; rw [e] at g3; simp at g3
    | more a h1 h2 h3 =>
      obtain ⟨fo, ws, b, x, he, r', g1, g2, g3, g4⟩ := dbl_loop st0 found vs a 1 _ r h1 (by omega) (iS n) (iS width) (.dat (.dict (ps.map keyPair))) (iS f) (iS f) x8 x9
      refine ⟨f, fo, ws, .int (b : Nat), iS f, x, x9, Nat.le_refl _, ?_, r', g2, .more b ?_ ?_ (g4 (by decide)), by omega⟩
      · unfold b_windows_3
        simp! only [bit_natI, z, gEq_intf, hs, Int.natCast_zero, Int.reduceEq, Int.sub_self, gRange1_eq (j := 0 + 1) 1 (by decide) (by decide) rfl, gRange1_eq (j := 1) 1 (by decide) (by decide) rfl, he]
      · rw [g1, hv]; simp
      · intro e; rw [e] at g3; simp at g3
  · -- the figure is 1: a window
    obtain ⟨l0, hl0⟩ : ∃ l0 : Nat, (if (f : Int) - (width : Int) + 1 > 0 then (f : Int) - (width : Int) + 1 else 0) = (l0 : Int) := by
      split
      · exact ⟨((f : Int) - (width : Int) + 1).toNat, by omega⟩
      · exact ⟨0, rfl⟩
    have hl0f : l0 ≤ f := by split at hl0 <;> omega
    have hl0w : f + 1 - l0 ≤ width := by split at hl0 <;> omega
    obtain ⟨low, q1, q2, q3, hwl⟩ := low_loop n f z (by omega) (iS width) (.dat (.dict (ps.map keyPair))) (iS st0.length) (.own (.lst found)) (.dat at') (iS f) x8 x9 l0 hl0f
    have hpart : (n / 2 ^ low % 2 ^ (f - low + 1)) % 2 = 1 := mod_bit _ _ q3
    have hplt : n / 2 ^ low % 2 ^ (f - low + 1) < 2 ^ width := Nat.lt_of_lt_of_le (Nat.mod_lt _ (Nat.two_pow_pos _)) (Nat.pow_le_pow_right (by decide) (by omega))
    have hpn : n / 2 ^ low % 2 ^ (f - low + 1) ≤ n := Nat.le_trans (Nat.mod_le _ _) (div_le_self' n low)
    have hdiv := div_win n low f q2
    have hsh : shlB 1 ((f : Int) - (low : Int) + 1) = true := shlB_of (by omega) (by omega) (by decide)
    have hrg : gRange1 (.int ((f : Int) - (low : Int) + 1)) = some (rangeD 0 1 (f - low + 1)) := gRange1_eq _ (by omega) (by omega) (by omega)
    cases hA with
    | no h1 h2 =>
      obtain ⟨a, t1, t2⟩ := T _ hpart hplt hpn
      have hv : n / 2 ^ low = n / 2 ^ low % 2 ^ (f - low + 1) := by rw [hdiv, h1, Nat.zero_mul, Nat.zero_add, Nat.mod_mod]
      have hget : gDGet (.dict (ps.map keyPair)) (.int ((n / 2 ^ low % 2 ^ (f - low + 1) : Nat) : Int)) = some (.int (a : Nat)) := by
        show getD (ps.map keyPair) _ = _
        rw [getD_pairs]; exact t1
      refine ⟨low, found, vs, .int (a : Nat), iS low, x8, iS a, q2, ?_, r, Ext.refl _, .first a (by rw [hv]; exact t2) h2 (by rw [hv]; exact hpart) (by rw [hv]; exact hplt) (fun _ _ => trivial), by omega⟩
      unfold b_windows_3
      simp! only [bit_natI, z, gEq_intf, hs, Int.natCast_one, Int.reduceEq, hl0, hwl, gRange1_eq (j := 0) 0 (by decide) (by decide) rfl, rangeD, List.range_zero, forD, mask_nat n low f q2, hsh, hget]
    | first a h1 h2 h3 h4 h5 =>
      obtain ⟨fo, ws, b, x, he, r', g1, g2, g3, g4⟩ := dbl_loop st0 found vs a (f - low + 1) _ r h1 (by omega) (iS n) (iS width) (.dat (.dict (ps.map keyPair))) (iS f) (iS low) x8 x9
      obtain ⟨c, t1, t2⟩ := (T.ext g2) _ hpart hplt hpn
      have hget : gDGet (.dict (ps.map keyPair)) (.int ((n / 2 ^ low % 2 ^ (f - low + 1) : Nat) : Int)) = some (.int (c : Nat)) := by
        show getD (ps.map keyPair) _ = _
        rw [getD_pairs]; exact t1
      have r2 := Run.step (add := true) r' g1 t2
      rw [List.append_assoc] at r2
      have lim : fo.length < LIM := Nat.lt_of_lt_of_le (show fo.length < 2000 by omega) (by decide)
      refine ⟨low, fo ++ [stp true b c], _, .int ((st0 ++ (fo ++ [stp true b c])).length : Nat), iS low, x, iS c, q2, ?_, r2, g2.trans (Ext.app _ _), .more _ ?_ (by simp) rfl, by simp; omega⟩
      · unfold b_windows_3
        simp! only [bit_natI, z, gEq_intf, hs, Int.natCast_one, Int.reduceEq, hl0, hwl, hrg, he, mask_nat n low f q2, hsh, hget, lim, stp_add, List.length_append, Int.natCast_add]
      · rw [List.getElem?_append_right (by rw [r'.len]; simp; omega), r'.len]
        have : (st0 ++ (fo ++ [stp true b c])).length - ((st0 ++ fo).length + 1) = 0 := by simp; omega
        rw [this]
        show some _ = _
        congr 1
        rw [if_pos rfl]
        conv => rhs; rw [hdiv]
        push_cast
        rfl
    | more a h1 h2 h3 =>
      obtain ⟨fo, ws, b, x, he, r', g1, g2, g3, g4⟩ := dbl_loop st0 found vs a (f - low + 1) _ r h1 (by omega) (iS n) (iS width) (.dat (.dict (ps.map keyPair))) (iS f) (iS low) x8 x9
      obtain ⟨c, t1, t2⟩ := (T.ext g2) _ hpart hplt hpn
      have hget : gDGet (.dict (ps.map keyPair)) (.int ((n / 2 ^ low % 2 ^ (f - low + 1) : Nat) : Int)) = some (.int (c : Nat)) := by
        show getD (ps.map keyPair) _ = _
        rw [getD_pairs]; exact t1
      have r2 := Run.step (add := true) r' g1 t2
      rw [List.append_assoc] at r2
      have lim : fo.length < LIM := Nat.lt_of_lt_of_le (show fo.length < 2000 by omega) (by decide)
      refine ⟨low, fo ++ [stp true b c], _, .int ((st0 ++ (fo ++ [stp true b c])).length : Nat), iS low, x, iS c, q2, ?_, r2, g2.trans (Ext.app _ _), .more _ ?_ (by simp) rfl, by simp; omega⟩
      · unfold b_windows_3
        simp! only [bit_natI, z, gEq_intf, hs, Int.natCast_one, Int.reduceEq, hl0, hwl, hrg, he, mask_nat n low f q2, hsh, hget, lim, stp_add, List.length_append, Int.natCast_add]
      · rw [List.getElem?_append_right (by rw [r'.len]; simp; omega), r'.len]
        have : (st0 ++ (fo ++ [stp true b c])).length - ((st0 ++ fo).length + 1) = 0 := by simp; omega
        rw [this]
        show some _ = _
        congr 1
        rw [if_pos rfl]
        conv => rhs; rw [hdiv]
        push_cast
        rfl
end G57

set_option Elab.async false
set_option linter.all false
set_option maxRecDepth 100000
set_option maxHeartbeats 4000000
namespace G57
open PySem PySem.Spec L2 DL
set_option autoImplicit false
theorem windows_ok (n width : Nat) (ps : List (Key × PyData)) (st0 : List PyData) (vs : List Int) (h1 : 1 ≤ n) (h2 : n < 2 ^ 23) (hw : 1 ≤ width) (hw2 : width ≤ 6) (r : Run st0 vs) (T : Tab n width ps vs) :
    ∃ found vs', m_windows [.int n, .int width, .dict (ps.map keyPair), .int st0.length] = .ok (.list found) ∧ Run (st0 ++ found) vs' ∧ Ext vs vs' ∧ found.length ≤ 50 ∧ (found = [] → n % 2 = 1 ∧ n < 2 ^ width) ∧ (found ≠ [] → vs'.getLast? = some (n : Int)) := by
  have hl : n.log2 < 23 := (Nat.log2_lt (by omega)).mpr h2
  obtain ⟨e, he, fo, ws, at2, y6, y7, y8, y9, rfl, g1, g2, g3, g4⟩ := dWhile_nx (t := t_windows_3) (b := b_windows_3) (μ := fun _ => FUEL.1) (env := [iS n, iS width, .dat (.dict (ps.map keyPair)), iS st0.length, .own (.lst []), .dat .none, iS (((n.log2 + 1 : Nat) : Int) - 1), .un, .un, .un])
    (fun m e => ∃ (fo : List PyData) (ws : List Int) (at2 : PyData) (y7 y8 y9 : Sl), e = [iS n, iS width, .dat (.dict (ps.map keyPair)), iS st0.length, .own (.lst fo), .dat at2, iS ((m : Nat) - 1), y7, y8, y9] ∧ Run (st0 ++ fo) ws ∧ Ext vs ws ∧ At n width ws st0 fo m at2 ∧ fo.length + 2 * m ≤ 46 ∧ m ≤ 23)
    (fun e => ∃ (fo : List PyData) (ws : List Int) (at2 : PyData) (y6 y7 y8 y9 : Sl), e = [iS n, iS width, .dat (.dict (ps.map keyPair)), iS st0.length, .own (.lst fo), .dat at2, y6, y7, y8, y9] ∧ Run (st0 ++ fo) ws ∧ Ext vs ws ∧ At n width ws st0 fo 0 at2 ∧ fo.length ≤ 46)
    (n.log2 + 1) ⟨[], vs, .none, .un, .un, .un, rfl, by simpa using r, Ext.refl _, .no (Nat.div_eq_of_lt Nat.lt_log2_self) rfl, by simp; omega, by omega⟩ (fuel_lt (by omega)) (by
      rintro m e ⟨fo, ws, at2, y7, y8, y9, rfl, g1, g2, g3, g4, g5⟩
      cases m with
      | zero =>
        left
        refine ⟨?_, fo, ws, at2, _, _, _, _, rfl, g1, g2, g3, by omega⟩
        unfold t_windows_3
        simp! only []
        simp
      | succ f =>
        right
        obtain ⟨j, fo', ws', at3, z7, z8, z9, k1, k2, k3, k4, k5, k6⟩ := win_body n width f ps st0 fo ws at2 y7 y8 y9 hw hw2 (by omega) g1 (T.ext g2) g3 (by omega)
        have ef : ((f + 1 : Nat) : Int) - 1 = (f : Int) := by omega
        refine ⟨?_, _, j, by rw [ef]; exact k2, by omega, fo', ws', at3, z7, z8, z9, rfl, k3, g2.trans k4, k5, by omega, by omega⟩
        unfold t_windows_3
        rw [ef]
        simp! only [show (0 : Int) ≤ (f : Int) by omega])
  refine ⟨fo, ws, ?_, g1, g2, by omega, ?_, ?_⟩
  · unfold m_windows g_windows N_windows
    simp! only [bits_nat h1, he]
  · intro e
    cases g3 with
    | no a b => rw [Nat.pow_zero, Nat.div_one] at a; omega
    | first a b c d f g => rw [Nat.pow_zero, Nat.div_one] at d f; exact ⟨d, f⟩
    | more a b c d => exact absurd e c
  · intro e
    cases g3 with
    | no a b => exact absurd b e
    | first a b c d f g => exact absurd c e
    | more a b c d =>
      rw [Nat.pow_zero, Nat.div_one] at b
      rw [g1.last, ← d]; exact b
end G57

set_option Elab.async false
set_option linter.all false
set_option maxRecDepth 100000
set_option maxHeartbeats 4000000
namespace G57
open PySem PySem.Spec L2 DL
set_option autoImplicit false
/-- the table behind i odd numbers -/
structure TabI (i : Nat) (st : List PyData) (ps : List (Key × PyData)) (vs : List Int) : Prop where
  r : Run st vs
  len : st.length = 1 + i
  top : 0 < i → vs[st.length]? = some ((2 * i + 1 : Nat) : Int)
  two : vs[1]? = some 2
  tab : ∀ w : Nat, w % 2 = 1 → w ≤ 2 * i + 1 → ∃ a : Nat, getP ps (.inl (w : Nat)) = some (.int (a : Nat)) ∧ vs[a]? = some (w : Int)
  lp : ps.length ≤ 1 + i
theorem tab_body (i : Nat) (hi : i < 100) (a0 a1 : Sl) (st : List PyData) (ps : List (Key × PyData)) (vs : List Int) (h : TabI i st ps vs) :
    ∃ st' ps' vs', b_window_chain_1 [a0, a1, .own (.lst st), .own (.dic ps), iS ((2 * i + 3 : Nat) : Int)] = .nx [a0, a1, .own (.lst st'), .own (.dic ps'), iS ((2 * i + 3 : Nat) : Int)] ∧ TabI (i + 1) st' ps' vs' := by
  obtain ⟨r, len, top, two, tab, lp⟩ := h
  have l1 : st.length < LIM := Nat.lt_of_lt_of_le (show st.length < 200 by omega) (by decide)
  have l2 : ps.length < LIM := Nat.lt_of_lt_of_le (show ps.length < 200 by omega) (by decide)
  have mk : ∀ (a b : Nat) (x y : Int), vs[a]? = some x → vs[b]? = some y → x + y = ((2 * i + 3 : Nat) : Int) → TabI (i + 1) (st ++ [stp true a b]) (putP ps (.inl ((2 * i + 3 : Nat) : Int)) (.int ((st.length + 1 : Nat) : Int))) (vs ++ [x + y]) := by
    intro a b x y ha hb hxy
    have hlast : (vs ++ [x + y])[st.length + 1]? = some (x + y) := by
      rw [List.getElem?_append_right (by rw [r.len]; omega), r.len]; simp
    refine ⟨r.step (add := true) ha hb, by simp; omega, fun _ => ?_, ?_, ?_, ?_⟩
    · rw [List.length_append, List.length_singleton, hlast, hxy]
      congr 1
    · exact Ext.app _ _ _ _ two
    · intro w hw hwl
      rw [getP_putP]
      by_cases e : w = 2 * i + 3
      · subst e
        exact ⟨st.length + 1, by rw [if_pos rfl], by rw [hlast, hxy]⟩
      · have hne : ¬ ((.inl ((w : Nat) : Int) : Key) = .inl ((2 * i + 3 : Nat) : Int)) := by
          intro z
          have := Sum.inl.inj z
          omega
        rw [if_neg hne]
        obtain ⟨c, g1, g2⟩ := tab w hw (by omega)
        exact ⟨c, g1, Ext.app _ _ _ _ g2⟩
    · have := length_putP ps (.inl ((2 * i + 3 : Nat) : Int)) (.int ((st.length + 1 : Nat) : Int))
      omega
  by_cases h0 : i = 0
  · subst h0
    refine ⟨_, _, _, ?_, mk 1 0 2 1 two r.zero rfl⟩
    unfold b_window_chain_1
    simp! only [l1, l2, gEq_intf, List.length_append, Int.natCast_add, Int.natCast_one, Nat.mul_zero, show ((3 : Nat) : Int) = 3 from rfl]
    rfl
  · refine ⟨_, _, _, ?_, mk st.length 1 ((2 * i + 1 : Nat) : Int) 2 (top (by omega)) two (by omega)⟩
    have e1 : (3 : Int) < ((2 * i + 3 : Nat) : Int) := by omega
    have e2 : ¬ ((2 * i + 3 : Nat) : Int) = 3 := by omega
    unfold b_window_chain_1
    simp! only [l1, l2, gEq_intf, e1, e2, List.length_append]
    rfl
theorem chain_end (n width : Nat) (h1 : 1 ≤ n) (h2 : n < 2 ^ 23) (hw : 1 ≤ width) (hw2 : width ≤ 6) (st : List PyData) (ps : List (Key × PyData)) (vs : List Int) (r : Run st vs) (T : Tab n width ps vs) (hlast : n % 2 = 1 → n < 2 ^ width → vs.getLast? = some (n : Int)) (hlen : st.length ≤ 200) (x : Sl) :
    ∃ st' vs', (fun env => (dRet (dCallG gTuple (dCons (dBin gAdd (dVarB 2) (dCall 4 m_windows (dCons (dVar 0) (dCons (dVar 1) (dCons (dVar 3) (dCons (dCallG gLen (dCons (dVarB 2) (dNil))) (dNil))))))) (dNil)))) (freeze 3 env)) [iS n, iS width, .own (.lst st), .own (.dic ps), x] = .rt (.tuple st') ∧ Run st' vs' ∧ vs'.getLast? = some (n : Int) ∧ st'.length ≤ 250 := by
  obtain ⟨fo, ws, e, g1, g2, g3, g4, g5⟩ := windows_ok n width ps st vs h1 h2 hw hw2 r T
  have lim : st.length + fo.length < LIM := Nat.lt_of_lt_of_le (show st.length + fo.length < 300 by omega) (by decide)
  refine ⟨st ++ fo, ws, ?_, g1, ?_, by simp; omega⟩
  · simp! only [e, lim]
  · by_cases hf : fo = []
    · subst hf
      obtain ⟨a, b⟩ := g4 rfl
      have z := hlast a b
      have hl : ws.getLast? = ws[st.length]? := by rw [g1.last, List.append_nil]
      rw [hl]
      exact g2 _ _ (r.top z)
    · exact g5 hf
theorem chain_of (n width : Nat) (h1 : 1 ≤ n) (hw : 1 ≤ width) (hw2 : width ≤ 6) (e1 : Ev) (st : List PyData) (g4 : DS) (s4 : g4 [iS n, iS width, .own (.lst []), .own (.dic [(.inl 1, .int 0)]), .un] = .nx e1) (g5 : DS) (s5 : g5 e1 = .rt (.tuple st)) :
    runD 5 (dSeq (dExpr (dCall 1 m_check_goal (dCons (dVar 0) (dNil)))) (dSeq (dIfS (dOrT (dNotT (dTest (dCall 1 m_is_integer (dCons (dVar 1) (dNil))))) (dOrT (dTest (dBin (gI fun i j => .bool (decide (i < j))) (dVarB 1) (dC (.int 1)))) (dTest (dBin (gI fun i j => .bool (decide (j < i))) (dVarB 1) (dC (.int 6)))))) (dRaise ("BadNumber" : Str)) (dSkip))
      (dSeq (dPar2 2 3 (xF (dLstF (dNil))) (xD1 (.inl 1) (dC (.int 0)))) (dSeq g4 g5)))) [.int n, .int width] = .ok (.tuple st) := by
  have c1 := check_goal_int _ (show (1 : Int) ≤ n by omega)
  have w1 : ¬ (width : Int) < 1 := by omega
  have w2 : ¬ (6 : Int) < (width : Int) := by omega
  simp! only [c1, is_integer_int, w1, w2, s4, s5]
theorem tab0 : TabI 0 [stp true 0 0] [(.inl 1, .int 0)] [1, 2] := by
  refine ⟨by simpa using Run.step (add := true) (a := 0) (b := 0) (x := 1) (y := 1) Run.one rfl rfl, rfl, fun h => absurd h (by decide), rfl, fun w h1 h2 => ?_, Nat.le_refl _⟩
  have : w = 1 := by omega
  subst this
  exact ⟨0, rfl, rfl⟩
theorem bound_B (n width : Nat) : ∃ B : Nat, (if (n : Int) + 1 < 1 * 2 ^ ((width : Int)).toNat then (n : Int) + 1 else 1 * 2 ^ ((width : Int)).toNat) = (B : Int) ∧ B = min (2 ^ width) (n + 1) := by
  refine ⟨min (2 ^ width) (n + 1), ?_, rfl⟩
  rw [Int.toNat_natCast, Int.one_mul]
  have : (2 : Int) ^ width = ((2 ^ width : Nat) : Int) := by norm_cast
  rw [this]
  split <;> omega
theorem size_B (B : Nat) : Builtin.Range.rangeSize 3 (B : Int) 2 = ((B - 2) / 2 : Nat) := by
  unfold Builtin.Range.rangeSize
  rw [if_pos (by decide)]
  split <;> omega
theorem tab_loop (n width : Nat) (k : Nat) (hk : k < 100) : ∃ st ps vs x, forD (gN 4) b_window_chain_1 (rangeD 3 2 k) [iS n, iS width, .own (.lst [stp true 0 0]), .own (.dic [(.inl 1, .int 0)]), .un] = .nx [iS n, iS width, .own (.lst st), .own (.dic ps), x] ∧ TabI k st ps vs := by
  obtain ⟨e, he, hi, st, ps, vs, x, rfl, tb⟩ := forD_nx (g := gN 4) (b := b_window_chain_1) (ds := rangeD 3 2 k) (env := [iS n, iS width, .own (.lst [stp true 0 0]), .own (.dic [(.inl 1, .int 0)]), .un])
    (fun i e => i ≤ k ∧ ∃ st ps vs x, e = [iS n, iS width, .own (.lst st), .own (.dic ps), x] ∧ TabI i st ps vs) ⟨Nat.zero_le _, _, _, _, _, rfl, tab0⟩ (by
    rintro i d e hd ⟨hi, st, ps, vs, x, rfl, tb⟩
    obtain ⟨hlt, rfl⟩ := rangeD_at hd
    obtain ⟨st', ps', vs', g1, g2⟩ := tab_body i (by omega) (iS n) (iS width) st ps vs tb
    have e1 : (3 : Int) + (i : Nat) * 2 = ((2 * i + 3 : Nat) : Int) := by omega
    exact ⟨_, _, by rw [e1]; rfl, g1, by omega, st', ps', vs', _, rfl, g2⟩)
  rw [rangeD_length] at tb
  exact ⟨st, ps, vs, x, he, tb⟩
theorem wide_of (n width B : Nat) (hw : 1 < width) (hw2 : width ≤ 6) (hn : 2 < n) (hB : (if (n : Int) + 1 < 1 * 2 ^ ((width : Int)).toNat then (n : Int) + 1 else 1 * 2 ^ ((width : Int)).toNat) = (B : Int)) (hB3 : B ≤ 64) (st : List PyData) (ps : List (Key × PyData)) (x : Sl)
    (he : forD (gN 4) b_window_chain_1 (rangeD 3 2 ((B - 2) / 2)) [iS n, iS width, .own (.lst [stp true 0 0]), .own (.dic [(.inl 1, .int 0)]), .un] = .nx [iS n, iS width, .own (.lst st), .own (.dic ps), x]) :
    dIfS (dAndT (dTest (dBin (gI fun i j => .bool (decide (j < i))) (dVarB 1) (dC (.int 1)))) (dTest (dBin (gI fun i j => .bool (decide (j < i))) (dVarB 0) (dC (.int 2))))) (dSeq (dApp 2 (dTup (dCons (dC (.str ("add" : Str))) (dCons (dC (.int 0)) (dCons (dC (.int 0)) (dNil))))))
      (dFor (dRange3 (dC (.int 3)) (dCallG gMin2 (dCons (dBin (gIC shlB fun i j => .int (i * 2 ^ j.toNat)) (dC (.int 1)) (dVarB 1)) (dCons (dBin gAdd (dVarB 0) (dC (.int 1))) (dNil)))) (dC (.int 2))) (gN 4) (b_window_chain_1))) (dSkip) [iS n, iS width, .own (.lst []), .own (.dic [(.inl 1, .int 0)]), .un] = .nx [iS n, iS width, .own (.lst st), .own (.dic ps), x] := by
  have ca' : (1 : Int) < (width : Int) := by omega
  have cb' : (2 : Int) < (n : Int) := by omega
  have hg := gRange3_eq (i := 3) (j := (B : Int)) (k := 2) ((B - 2) / 2) (by decide) (by decide) (by omega) (by omega) (by decide) (by decide) (by decide) (size_B B) (by omega)
  have hsh : shlB 1 (width : Int) = true := shlB_of (by omega) (by omega) (by decide)
  rw [dIfS_t (by simp! only [ca', cb'])]
  rw [dSeq_nx (e := [iS n, iS width, .own (.lst [stp true 0 0]), .own (.dic [(.inl 1, .int 0)]), .un]) (by simp! only []; rfl)]
  unfold dFor
  have hd : (dRange3 (dC (.int 3)) (dCallG gMin2 (dCons (dBin (gIC shlB fun i j => .int (i * 2 ^ j.toNat)) (dC (.int 1)) (dVarB 1)) (dCons (dBin gAdd (dVarB 0) (dC (.int 1))) (dNil)))) (dC (.int 2))) [iS n, iS width, .own (.lst [stp true 0 0]), .own (.dic [(.inl 1, .int 0)]), .un] = .ok (rangeD 3 2 ((B - 2) / 2)) := by
    refine dRange3_of (by simp! only []) (?_) (by simp! only []) hg
    simp! only [hsh, hB]
  rw [hd]
  exact he
theorem window_chain_ok (n width : Nat) (h1 : 1 ≤ n) (h2 : n < 2 ^ 23) (hw : 1 ≤ width) (hw2 : width ≤ 6) : ∃ st vs, m_window_chain [.int n, .int width] = .ok (.tuple st) ∧ Run st vs ∧ vs.getLast? = some (n : Int) ∧ st.length ≤ 250 := by
  have c1 := check_goal_int _ (show (1 : Int) ≤ n by omega)
  have w1 : ¬ (width : Int) < 1 := by omega
  have w2 : ¬ (6 : Int) < (width : Int) := by omega
  by_cases c : 1 < width ∧ 2 < n
  · obtain ⟨ca, cb⟩ := c
    have ca' : (1 : Int) < (width : Int) := by omega
    have cb' : (2 : Int) < (n : Int) := by omega
    obtain ⟨B, hB, hB2⟩ := bound_B n width
    have hp : 2 ^ width ≤ 64 := Nat.pow_le_pow_right (n := 2) (by decide) (show width ≤ 6 by omega)
    have hp4 : 4 ≤ 2 ^ width := Nat.pow_le_pow_right (n := 2) (by decide) (show 2 ≤ width by omega)
    obtain ⟨st, ps, vs, x, he, tb⟩ := tab_loop n width ((B - 2) / 2) (by omega)
    obtain ⟨st', vs', k1, k2, k3, k4⟩ := chain_end n width h1 h2 hw hw2 st ps vs tb.r (fun w a b c => tb.tab w a (by omega)) (fun a b => by
      have q : 2 * ((B - 2) / 2) + 1 = n := by omega
      have q2 := tb.top (by omega)
      rw [q] at q2
      rw [tb.r.last]; exact q2) (by rw [tb.len]; omega) x
    refine ⟨st', vs', ?_, k2, k3, k4⟩
    exact chain_of n width h1 hw hw2 _ _ _ (wide_of n width B ca hw2 cb hB (by omega) st ps x he) _ k1
  · have ca : (decide ((1 : Int) < (width : Int)) = true → decide ((2 : Int) < (n : Int)) = false) := by
      intro h
      have := of_decide_eq_true h
      exact decide_eq_false (by omega)
    obtain ⟨st', vs', k1, k2, k3, k4⟩ := chain_end n width h1 h2 hw hw2 [] [(.inl 1, .int 0)] [1] .one (fun w a b d => by
      have hw1 : w = 1 := by
        by_cases e : width = 1
        · subst e; omega
        · omega
      subst hw1
      exact ⟨0, rfl, rfl⟩) (fun a b => by
      have : n = 1 := by
        by_cases e : width = 1
        · subst e; omega
        · omega
      subst this; rfl) (by decide) .un
    refine ⟨st', vs', ?_, k2, k3, k4⟩
    refine chain_of n width h1 hw hw2 _ _ _ ?_ _ k1
    by_cases e1 : (1 : Int) < (width : Int)
    · have e2 : ¬ (2 : Int) < (n : Int) := by omega
      simp! only [e1, e2]
    · simp! only [e1]
end G57

set_option Elab.async false
set_option linter.all false
set_option maxRecDepth 100000
set_option maxHeartbeats 4000000
namespace G57
open PySem PySem.Spec L2 DL
set_option autoImplicit false
def bad : R PyData := .error (.exc "BadNumber" [])
theorem sub_bad : subT sub_BadNumber "BadNumber" = some true := by decide +kernel
theorem check_bad {d : PyData} (h : m_check_goal [d] = bad) : m_plain_chain [d] = bad ∧ m_signed_figures [d] = bad ∧ m_signed_chain [d] = bad ∧ ∀ w, m_window_chain [d, w] = bad := by
  unfold bad at *
  have h2 : m_signed_figures [d] = .error (.exc "BadNumber" []) := by
    unfold m_signed_figures g_signed_figures N_signed_figures
    simp! only [h]
  refine ⟨?_, h2, ?_, fun w => ?_⟩
  · unfold m_plain_chain g_plain_chain N_plain_chain
    simp! only [h]
  · unfold m_signed_chain g_signed_chain N_signed_chain
    simp! only [h2, dSlN]
  · unfold m_window_chain g_window_chain N_window_chain
    simp! only [h]
theorem width_low (n : Nat) (h1 : 1 ≤ n) (w : Int) (h : w < 1 ∨ 6 < w) : m_window_chain [.int n, .int w] = bad := by
  have c1 := check_goal_int _ (show (1 : Int) ≤ n by omega)
  unfold bad m_window_chain g_window_chain N_window_chain
  by_cases h0 : w < 1
  · simp! only [c1, is_integer_int, h0]
  · have h6 : 6 < w := by omega
    simp! only [c1, is_integer_int, h0, h6]
theorem width_bad (n : Nat) (h1 : 1 ≤ n) (d : PyData) (h : m_is_integer [d] = .ok (.bool false)) : m_window_chain [.int n, d] = bad := by
  have c1 := check_goal_int _ (show (1 : Int) ≤ n by omega)
  unfold bad m_window_chain g_window_chain N_window_chain
  simp! only [c1, h]
/-- a call that is refused (1) or not (0) -/
def Ref (r : R PyData) (x : Int) : Prop := (∃ d, r = .ok d ∧ x = 0) ∨ (r = bad ∧ x = 1)
theorem ref_body (v w : PyData) (c : Int) (k : Int) (x : Int) (r : R PyData) (hr : Ref r x) (e : (dIfS (dTest (dBin (gEq false) (dVarB 3) (dC (.int 0)))) (dExpr (dCall 1 m_plain_chain (dCons (dVar 0) (dNil)))) (dIfS (dTest (dBin (gEq false) (dVarB 3) (dC (.int 1)))) (dExpr (dCall 1 m_signed_chain (dCons (dVar 0) (dNil)))) (dIfS (dTest (dBin (gEq false) (dVarB 3) (dC (.int 2)))) (dExpr (dCall 1 m_signed_figures (dCons (dVar 0) (dNil)))) (dExpr (dCall 2 m_window_chain (dCons (dVar 0) (dCons (dVar 1) (dNil))))))))
    [.dat v, .dat w, .dat (.int c), .dat (.int k)] = dDo r (fun _ => .nx [.dat v, .dat w, .dat (.int c), .dat (.int k)]) [.dat v, .dat w, .dat (.int c), .dat (.int k)]) :
    b__law_refused_1 [.dat v, .dat w, .dat (.int c), .dat (.int k)] = .nx [.dat v, .dat w, .dat (.int (c + x)), .dat (.int k)] := by
  unfold b__law_refused_1 dTry
  rw [e]
  rcases hr with ⟨d, rfl, rfl⟩ | ⟨rfl, rfl⟩
  · simp! only [Int.add_zero]
  · unfold bad
    simp! only [sub_bad]
theorem refused_ok (v w : PyData) (x0 x1 x2 x3 : Int) (h0 : Ref (m_plain_chain [v]) x0) (h1 : Ref (m_signed_chain [v]) x1) (h2 : Ref (m_signed_figures [v]) x2) (h3 : Ref (m_window_chain [v, w]) x3) : m__law_refused [v, w] = .ok (.int (0 + x0 + x1 + x2 + x3)) := by
  have e0 := ref_body v w 0 0 x0 _ h0 (by simp! only [gEq_intf, Int.reduceEq])
  have e1 := ref_body v w (0 + x0) 1 x1 _ h1 (by simp! only [gEq_intf, Int.reduceEq])
  have e2 := ref_body v w (0 + x0 + x1) 2 x2 _ h2 (by simp! only [gEq_intf, Int.reduceEq])
  have e3 := ref_body v w (0 + x0 + x1 + x2) 3 x3 _ h3 (by simp! only [gEq_intf, Int.reduceEq])
  have p : Pass (gN 3) b__law_refused_1 [.int 0, .int 1, .int 2, .int 3] [.dat v, .dat w, .dat (.int 0), .un] _ := .cons rfl e0 (.cons rfl e1 (.cons rfl e2 (.cons rfl e3 .nil)))
  have hr : rangeD 0 1 4 = [.int 0, .int 1, .int 2, .int 3] := rfl
  have hg := gRange1_eq (j := 4) 4 (by decide) (by decide) rfl
  unfold m__law_refused g__law_refused N__law_refused
  simp! only [hg, hr, p.run]
theorem refused_value (d : PyData) (w : PyData) (h : m_check_goal [d] = bad) : m__law_refused [d, w] = .ok (.int 4) := by
  obtain ⟨a, b, c, e⟩ := check_bad h
  exact refused_ok d w 1 1 1 1 (.inr ⟨a, rfl⟩) (.inr ⟨c, rfl⟩) (.inr ⟨b, rfl⟩) (.inr ⟨e w, rfl⟩)
theorem refused_width (n : Nat) (h1 : 1 ≤ n) (h2 : n < 2 ^ 23) (w : PyData) (h : m_window_chain [.int n, w] = bad) : m__law_refused [.int n, w] = .ok (.int 1) := by
  obtain ⟨st, vs, a, _⟩ := plain_chain_ok n h1 h2
  obtain ⟨st, vs, b, _⟩ := signed_chain_ok n h1 h2
  obtain ⟨row, c, _⟩ := signed_figures_ok n h1 h2
  exact refused_ok (.int n) w 0 0 0 1 (.inl ⟨_, a, rfl⟩) (.inl ⟨_, b, rfl⟩) (.inl ⟨_, c, rfl⟩) (.inr ⟨h, rfl⟩)
theorem bad_at (i : Int) (h : 0 ≤ i) (h2 : i < 6) : ∃ d, L2.atI [PyData.int 0, .int (-1), .none, .bool true, .str "1", .tuple [.int 1]] i = some d ∧ m_check_goal [d] = bad := by
  obtain rfl | rfl | rfl | rfl | rfl | rfl : i = 0 ∨ i = 1 ∨ i = 2 ∨ i = 3 ∨ i = 4 ∨ i = 5 := by omega
  · exact ⟨_, atI_nat (i := 0) rfl, check_goal_low _ (by decide)⟩
  · exact ⟨_, atI_nat (i := 1) rfl, check_goal_low _ (by decide)⟩
  · exact ⟨_, atI_nat (i := 2) rfl, check_goal_bad _ is_integer_none⟩
  · exact ⟨_, atI_nat (i := 3) rfl, check_goal_bad _ (is_integer_bool _)⟩
  · exact ⟨_, atI_nat (i := 4) rfl, check_goal_bad _ (is_integer_str _)⟩
  · exact ⟨_, atI_nat (i := 5) rfl, check_goal_bad _ (is_integer_tuple _)⟩
theorem width_at (n : Nat) (h1 : 1 ≤ n) (i : Int) (h : 0 ≤ i) (h2 : i < 5) : ∃ d, L2.atI [PyData.int 0, .int 7, .none, .str "2", .bool true] i = some d ∧ m_window_chain [.int n, d] = bad := by
  obtain rfl | rfl | rfl | rfl | rfl : i = 0 ∨ i = 1 ∨ i = 2 ∨ i = 3 ∨ i = 4 := by omega
  · exact ⟨_, atI_nat (i := 0) rfl, width_low n h1 _ (by decide)⟩
  · exact ⟨_, atI_nat (i := 1) rfl, width_low n h1 _ (by decide)⟩
  · exact ⟨_, atI_nat (i := 2) rfl, width_bad n h1 _ is_integer_none⟩
  · exact ⟨_, atI_nat (i := 3) rfl, width_bad n h1 _ (is_integer_str _)⟩
  · exact ⟨_, atI_nat (i := 4) rfl, width_bad n h1 _ (is_integer_bool _)⟩
theorem size_at (i : Int) (h : 0 ≤ i) (h2 : i < 4) : ∃ m : Int, L2.atI [PyData.int 6, .int 40, .int 3000, .int 5000000] i = some (.int m) ∧ 0 < m ∧ m ≤ 5000000 := by
  obtain rfl | rfl | rfl | rfl : i = 0 ∨ i = 1 ∨ i = 2 ∨ i = 3 := by omega
  · exact ⟨_, atI_nat (i := 0) rfl, by decide, by decide⟩
  · exact ⟨_, atI_nat (i := 1) rfl, by decide, by decide⟩
  · exact ⟨_, atI_nat (i := 2) rfl, by decide, by decide⟩
  · exact ⟨_, atI_nat (i := 3) rfl, by decide, by decide⟩
end G57

set_option Elab.async false
set_option linter.all false
set_option maxRecDepth 100000
set_option maxHeartbeats 4000000
namespace G57
open PySem PySem.Spec L2 DL
set_option autoImplicit false
/-- figures of a number -/
def figs (n m : Nat) : List Int := (List.range m).map fun k => ((n / 2 ^ k % 2 : Nat) : Int)
theorem figs_succ (n m : Nat) : figs n (m + 1) = figs n m ++ [((n / 2 ^ m % 2 : Nat) : Int)] := by
  unfold figs
  rw [List.range_succ, List.map_append]; rfl
theorem figs_len (n m : Nat) : (figs n m).length = m := by unfold figs; simp
theorem figs_count (n : Nat) : ∀ m, (figs n m).count 1 = ones n m
  | 0 => rfl
  | m + 1 => by
    rw [figs_succ, List.count_append, figs_count n m]
    show _ = ones n m + n / 2 ^ m % 2
    rcases Nat.mod_two_eq_zero_or_one (n / 2 ^ m) with z | z <;> rw [z] <;> simp
theorem figs_loop (n : Nat) (m : Nat) (hm : m < 1000) (a0 a1 a2 a4 a5 a7 a8 a9 a10 a11 : Sl) : ∃ x, forD (gN 7) b_law_1 (rangeD 0 1 m) [a0, a1, a2, iS n, a4, a5, .own (.lst []), a7, a8, a9, a10, a11] = .nx [a0, a1, a2, iS n, a4, a5, .own (.lst ((figs n m).map .int)), x, a8, a9, a10, a11] := by
  obtain ⟨e, he, hi, x, rfl⟩ := forD_nx (g := gN 7) (b := b_law_1) (ds := rangeD 0 1 m) (env := [a0, a1, a2, iS n, a4, a5, .own (.lst []), a7, a8, a9, a10, a11])
    (fun i e => i ≤ m ∧ ∃ x, e = [a0, a1, a2, iS n, a4, a5, .own (.lst ((figs n i).map .int)), x, a8, a9, a10, a11]) ⟨Nat.zero_le _, a7, rfl⟩ (by
    rintro i d e hd ⟨hi, x, rfl⟩
    obtain ⟨hlt, rfl⟩ := rangeD_at hd
    have e1 : (0 : Int) + (i : Nat) * 1 = (i : Nat) := by omega
    have lim : (figs n i).length < LIM := by
      rw [figs_len]
      exact Nat.lt_of_lt_of_le (show i < 1000 by omega) (by decide)
    refine ⟨[a0, a1, a2, iS n, a4, a5, .own (.lst ((figs n i).map .int)), iS i, a8, a9, a10, a11], _, by rw [e1]; rfl, ?_, by omega, iS i, rfl⟩
    have e2 : (n : Int) / 2 ^ ((i : Int)).toNat % 2 = ((n / 2 ^ i % 2 : Nat) : Int) := by
      rw [Int.toNat_natCast]; norm_cast
    unfold b_law_1
    simp! only [show (0 : Int) ≤ (i : Int) by omega, e2, lim, figs_succ, List.map_append])
  rw [rangeD_length] at he
  exact ⟨x, he⟩
theorem sum_fig : ∀ (row : List Int) (m : Nat), m ≤ row.length → ((List.range m).map fun k => row.getD k 0 * 2 ^ k).sum = valF (row.take m)
  | row, 0, _ => rfl
  | row, m + 1, h => by
    rw [List.range_succ, List.map_append, List.sum_append, sum_fig row m (by omega), List.take_succ, List.getElem?_eq_getElem (show m < row.length by omega)]
    simp only [Option.toList_some, valF_app, List.length_take, List.map_cons, List.map_nil, List.sum_cons, List.sum_nil, Nat.min_eq_left (show m ≤ row.length by omega)]
    rw [List.getD_eq_getElem?_getD, List.getElem?_eq_getElem (show m < row.length by omega)]
    simp only [Option.getD_some]
    grind
theorem row_at {row : List Int} {k : Nat} (h : k < row.length) : L2.atI (row.map PyData.int) (k : Int) = some (.int (row.getD k 0)) := by
  refine at_map ?_
  rw [List.getD_eq_getElem?_getD, List.getElem?_eq_getElem h]; rfl
theorem sgn_in (f : Int) (h : Sgn f) : gIn true (.int f) (.list [.int (-1), .int 0, .int 1]) = some (.bool false) := by
  rcases h with rfl | rfl | rfl
  · exact gIn_of (b := true) (by decide +kernel) (by decide +kernel) (by decide +kernel)
  · exact gIn_of (b := true) (by decide +kernel) (by decide +kernel) (by decide +kernel)
  · exact gIn_of (b := true) (by decide +kernel) (by decide +kernel) (by decide +kernel)
theorem wid_loop (n : Nat) (h1 : 1 ≤ n) (h2 : n < 2 ^ 23) (a0 a1 a2 a4 a5 a6 a7 a8 a9 a10 a11 : Sl) : ∃ x, forD (gN 9) b_law_2 (rangeD 1 1 6) [a0, a1, a2, iS n, a4, a5, a6, a7, a8, a9, a10, a11] = .nx [a0, a1, a2, iS n, a4, a5, a6, a7, a8, x, a10, a11] := by
  obtain ⟨e, he, hi, x, rfl⟩ := forD_nx (g := gN 9) (b := b_law_2) (ds := rangeD 1 1 6) (env := [a0, a1, a2, iS n, a4, a5, a6, a7, a8, a9, a10, a11])
    (fun i e => i ≤ 6 ∧ ∃ x, e = [a0, a1, a2, iS n, a4, a5, a6, a7, a8, x, a10, a11]) ⟨Nat.zero_le _, a9, rfl⟩ (by
    rintro i d e hd ⟨hi, x, rfl⟩
    obtain ⟨hlt, rfl⟩ := rangeD_at hd
    have e1 : (1 : Int) + (i : Nat) * 1 = ((i + 1 : Nat) : Int) := by omega
    obtain ⟨st, vs, g1, g2, g3, g4⟩ := window_chain_ok n (i + 1) h1 h2 (by omega) (by omega)
    have g5 := number_of_run g2 (by omega) g3
    refine ⟨[a0, a1, a2, iS n, a4, a5, a6, a7, a8, iS ((i + 1 : Nat) : Int), a10, a11], [a0, a1, a2, iS n, a4, a5, a6, a7, a8, iS ((i + 1 : Nat) : Int), a10, a11], by rw [e1]; rfl, ?_, by omega, _, rfl⟩
    unfold b_law_2
    simp! only [g1, g5, gEq_intt])
  exact ⟨x, he⟩
theorem law_body (ns : List Int) (turn : Nat) (ht : turn < 4) (a2 a3 a4 a5 a6 a7 a8 a9 a10 a11 : Sl) :
    ∃ y2 y3 y4 y5 y6 y7 y8 y9 y10 y11, b_law_3 [.dat (.list (ns.map .int)), iS turn, a2, a3, a4, a5, a6, a7, a8, a9, a10, a11] = .nx [.dat (.list (ns.map .int)), iS turn, y2, y3, y4, y5, y6, y7, y8, y9, y10, y11] := by
  obtain ⟨c, hc1, hc2, hc⟩ := law_cell ns turn (by omega)
  obtain ⟨r, hr1, hr2, hr⟩ := law_rich c turn hc1 hc2 (by omega) (by omega)
  obtain ⟨m, hm, hm1, hm2⟩ := size_at (r / 7 % 4) (by omega) (by omega)
  have hq1 : 0 ≤ r % m := Int.emod_nonneg _ (by omega)
  have hq2 : r % m < m := Int.emod_lt_of_pos _ hm1
  obtain ⟨n, hn⟩ : ∃ n : Nat, 1 + r % m = (n : Int) := ⟨(1 + r % m).toNat, by omega⟩
  have h1 : 1 ≤ n := by omega
  have h2 : n < 2 ^ 23 := by omega
  obtain ⟨st, vs, p1, p2, p3, p4, p5⟩ := plain_chain_ok n h1 h2
  obtain ⟨st', vs', q1, q2, q3, q4⟩ := signed_chain_ok n h1 h2
  obtain ⟨row, r1, r2, r3, r4, r5⟩ := signed_figures_ok n h1 h2
  have hl : n.log2 < 23 := (Nat.log2_lt (by omega)).mpr h2
  have ho := ones_le n n.log2
  have p6 := number_of_run p2 (by omega) p3
  have q6 := number_of_run q2 (by omega) q3
  obtain ⟨bd, b1, b2⟩ := bad_at (r / 11 % 6) (by omega) (by omega)
  obtain ⟨wd, w1, w2⟩ := width_at n h1 (r / 13 % 5) (by omega) (by omega)
  have b3 := refused_value bd (.int 2) b2
  have w3 := refused_width n h1 h2 wd w2
  obtain ⟨x7, f1⟩ := figs_loop n (n.log2 + 1) (by omega) (.dat (.list (ns.map .int))) (iS turn) (iS r) (.dat (.tuple st)) (.dat (.tuple st')) a7 a8 a9 a10 a11
  have f2 := gRange1_eq (j := ((n.log2 + 1 : Nat) : Int)) (n.log2 + 1) (by omega) (by omega) (by omega)
  have hd : ∀ i j, 0 < j → j < 18446744073709551616 → divB i j = true := fun i j a b => divB_lit a b
  unfold b_law_3
  rw [dSeq_nx (e := [.dat (.list (ns.map .int)), iS turn, iS r, a3, a4, a5, a6, a7, a8, a9, a10, a11]) (by simp! only [hc, hr])]
  rw [dSeq_nx (e := [.dat (.list (ns.map .int)), iS turn, iS r, iS n, a4, a5, a6, a7, a8, a9, a10, a11]) (by simp! only [hd _ 7 (by decide) (by decide), hm, hm1, hn])]
  rw [dSeq_nx (e := [.dat (.list (ns.map .int)), iS turn, iS r, iS n, .dat (.tuple st), .dat (.tuple st'), a6, a7, a8, a9, a10, a11]) (by simp! only [p1, q1])]
  rw [dSeq_nx (e := [.dat (.list (ns.map .int)), iS turn, iS r, iS n, .dat (.tuple st), .dat (.tuple st'), .own (.lst []), a7, a8, a9, a10, a11]) (by simp! only [])]
  rw [dSeq_nx (e := [.dat (.list (ns.map .int)), iS turn, iS r, iS n, .dat (.tuple st), .dat (.tuple st'), .own (.lst ((figs n (n.log2 + 1)).map .int)), x7, a8, a9, a10, a11]) (by
    rw [dFor_of (dRange1_of (by simp! only [bits_nat h1]) f2)]; exact f1)]
  have s6 : compD (gN 10) tYesD (dBin (gEq true) (dIx (dVarB 10) (dC (.int 0))) (dC (.str ("add" : Str)))) [.dat (.list (ns.map .int)), iS turn, iS r, iS n, .dat (.tuple st), .dat (.tuple st'), .own (.lst ((figs n (n.log2 + 1)).map .int)), x7, a8, a9, .un, a11] st = .ok (st.map fun _ => .bool false) :=
    compD_map (fun _ => .bool false) fun d hd => by
      obtain ⟨a, b, rfl⟩ := p5 d hd
      unfold stp
      simp! only [atI_0, show gEq true (.str "add") (.str "add") = some (.bool false) from op_ne true, reduceIte]
  have lim : st.length < LIM := Nat.lt_of_lt_of_le (show st.length < 100 by omega) (by decide)
  have g6 : gAny [.list (st.map fun _ => .bool false)] = some (.bool false) := any_false fun x hx => by
    obtain ⟨_, _, rfl⟩ := List.mem_map.mp hx; rfl
  rw [dSeq_nx (e := [.dat (.list (ns.map .int)), iS turn, iS r, iS n, .dat (.tuple st), .dat (.tuple st'), .own (.lst ((figs n (n.log2 + 1)).map .int)), x7, a8, a9, a10, a11]) (by
    simp! only [p6, q6, gEq_intt, lim, s6, g6])]
  have e7 : ((st.length : Nat) : Int) = ((n.log2 + 1 : Nat) : Int) - 1 + ((ones n (n.log2 + 1) : Nat) : Int) - 1 := by
    have : ones n (n.log2 + 1) = ones n n.log2 + n / 2 ^ n.log2 % 2 := rfl
    have : n / 2 ^ n.log2 = 1 := by
      have a := Nat.log2_self_le (show n ≠ 0 by omega)
      have b := Nat.lt_log2_self (n := n)
      rw [Nat.pow_succ] at b
      exact Nat.div_eq_of_lt_le (by omega) (by omega)
    omega
  rw [dSeq_nx (e := [.dat (.list (ns.map .int)), iS turn, iS r, iS n, .dat (.tuple st), .dat (.tuple st'), .own (.lst ((figs n (n.log2 + 1)).map .int)), x7, a8, a9, a10, a11]) (by
    simp! only [gCount_ints, figs_count, figs_len, e7, gEq_intt])]
  rw [dSeq_nx (e := [.dat (.list (ns.map .int)), iS turn, iS r, iS n, .dat (.tuple st), .dat (.tuple st'), .own (.lst ((figs n (n.log2 + 1)).map .int)), x7, .dat (.tuple (row.map .int)), a9, a10, a11]) (by simp! only [r1])]
  have limr : row.length < LIM := Nat.lt_of_lt_of_le (show row.length < 100 by omega) (by decide)
  have s8 : compD (gN 11) tYesD (dBin (gIn true) (dVarB 11) (dLst (dCons (dNeg (dC (.int 1))) (dCons (dC (.int 0)) (dCons (dC (.int 1)) (dNil)))))) [.dat (.list (ns.map .int)), iS turn, iS r, iS n, .dat (.tuple st), .dat (.tuple st'), .own (.lst ((figs n (n.log2 + 1)).map .int)), x7, .dat (.tuple (row.map .int)), a9, a10, .un] (row.map .int) = .ok (row.map fun _ => .bool false) :=
    compD_ints (fun _ => .bool false) fun z hz => by
      simp! only [sgn_in z (r3.sg z hz)]
  have g8 : gAny [.list (row.map fun _ => .bool false)] = some (.bool false) := any_false fun x hx => by
    obtain ⟨_, _, rfl⟩ := List.mem_map.mp hx; rfl
  have f9 := gRange1_eq (j := ((row.length : Nat) : Int) - 1) (row.length - 1) (by omega) (by omega) (by omega)
  have s9 : compD (gN 7) tYesD (dAndV (dBin (gEq true) (dIx (dVarB 8) (dVarB 7)) (dC (.int 0))) (dBin (gEq true) (dIx (dVarB 8) (dBin gAdd (dVarB 7) (dC (.int 1)))) (dC (.int 0)))) [.dat (.list (ns.map .int)), iS turn, iS r, iS n, .dat (.tuple st), .dat (.tuple st'), .own (.lst ((figs n (n.log2 + 1)).map .int)), .un, .dat (.tuple (row.map .int)), a9, a10, a11] (rangeD 0 1 (row.length - 1)) = .ok ((List.range (row.length - 1)).map fun _ => .bool false) :=
    compD_range (fun _ => .bool false) fun k hk => by
      have k1 := row_at (row := row) (k := k) (by omega)
      have k2 := row_at (row := row) (k := k + 1) (by omega)
      have k2' : ((k + 1 : Nat) : Int) = (k : Int) + 1 := by omega
      rw [k2'] at k2
      have nb := r3.nb k (row.getD k 0) (row.getD (k + 1) 0) (by rw [List.getD_eq_getElem?_getD, List.getElem?_eq_getElem (show k < row.length by omega)]; rfl) (by rw [List.getD_eq_getElem?_getD, List.getElem?_eq_getElem (show k + 1 < row.length by omega)]; rfl)
      by_cases z : row.getD k 0 = 0
      · simp! only [k1, gEq_intt, z]
      · have z2 : row.getD (k + 1) 0 = 0 := by
          rcases nb with h | h
          · exact absurd h z
          · exact h
        simp! only [k1, k2, gEq_intt, z, z2]
  have g9 : gAny [.list ((List.range (row.length - 1)).map fun _ => .bool false)] = some (.bool false) := any_false fun x hx => by
    obtain ⟨_, _, rfl⟩ := List.mem_map.mp hx; rfl
  have lim9 : row.length - 1 < LIM := by omega
  rw [dSeq_nx (e := [.dat (.list (ns.map .int)), iS turn, iS r, iS n, .dat (.tuple st), .dat (.tuple st'), .own (.lst ((figs n (n.log2 + 1)).map .int)), x7, .dat (.tuple (row.map .int)), a9, a10, a11]) (by
    simp! only [limr, s8, g8, f9, rangeD_length, lim9, s9, g9])]
  have f10 := gRange1_nat row.length (by omega)
  have s10 : compD (gN 7) tYesD (dBin (gIC mulB fun i j => .int (i * j)) (dIx (dVarB 8) (dVarB 7)) (dBin (gIC shlB fun i j => .int (i * 2 ^ j.toNat)) (dC (.int 1)) (dVarB 7))) [.dat (.list (ns.map .int)), iS turn, iS r, iS n, .dat (.tuple st), .dat (.tuple st'), .own (.lst ((figs n (n.log2 + 1)).map .int)), .un, .dat (.tuple (row.map .int)), a9, a10, a11] (rangeD 0 1 row.length) = .ok (((List.range row.length).map fun k => row.getD k 0 * 2 ^ k).map .int) := by
    rw [compD_range (fun k => .int (row.getD k 0 * 2 ^ k)) fun k hk => by
      have k1 := row_at (row := row) (k := k) hk
      have sh : shlB 1 (k : Int) = true := shlB_of (by omega) (by omega) (by decide)
      have sg := r3.sg (row.getD k 0) (by
        rw [List.getD_eq_getElem?_getD, List.getElem?_eq_getElem hk]
        exact List.getElem_mem hk)
      have ml : ∀ j, mulB (row.getD k 0) j = true := fun j => mulB_l (by unfold Sgn at sg; omega) (by unfold Sgn at sg; omega)
      simp! only [k1, sh, ml, Int.one_mul, Int.toNat_natCast], List.map_map]
    rfl
  have g10 : ((List.range row.length).map fun k => row.getD k 0 * 2 ^ k).sum = (n : Int) := by
    rw [sum_fig row row.length (Nat.le_refl _), List.take_length, r2]
  rw [dSeq_nx (e := [.dat (.list (ns.map .int)), iS turn, iS r, iS n, .dat (.tuple st), .dat (.tuple st'), .own (.lst ((figs n (n.log2 + 1)).map .int)), x7, .dat (.tuple (row.map .int)), a9, a10, a11]) (by
    simp! only [f10, rangeD_length, limr, s10, gSum_ints, g10, gEq_intt])]
  obtain ⟨x9, f11⟩ := wid_loop n h1 h2 (.dat (.list (ns.map .int))) (iS turn) (iS r) (.dat (.tuple st)) (.dat (.tuple st')) (.own (.lst ((figs n (n.log2 + 1)).map .int))) x7 (.dat (.tuple (row.map .int))) a9 a10 a11
  have f12 := gRange2_eq (i := 1) (j := 7) 6 (by decide) (by decide) (by decide) (by decide) rfl
  rw [dSeq_nx (e := [.dat (.list (ns.map .int)), iS turn, iS r, iS n, .dat (.tuple st), .dat (.tuple st'), .own (.lst ((figs n (n.log2 + 1)).map .int)), x7, .dat (.tuple (row.map .int)), x9, a10, a11]) (by
    rw [dFor_of (dRange2_of (by simp! only []) (by simp! only []) f12)]; exact f11)]
  exact ⟨_, _, _, _, _, _, _, _, _, _, (dIfS_f (by
    simp! only [hd _ 11 (by decide) (by decide), hd _ 13 (by decide) (by decide), b1, b3, w1, w3, gEq_intt])).trans rfl⟩
theorem law_holds (ns : List Int) (hl : ns.length ≤ 63) : m_law [.list (ns.map .int)] = .ok (.bool true) := by
  obtain ⟨e, he, hi, _⟩ := forD_nx (g := gN 1) (b := b_law_3) (ds := rangeD 0 1 4) (env := [.dat (.list (ns.map .int)), .un, .un, .un, .un, .un, .un, .un, .un, .un, .un, .un])
    (fun i e => i ≤ 4 ∧ ∃ y1 y2 y3 y4 y5 y6 y7 y8 y9 y10 y11, e = [.dat (.list (ns.map .int)), y1, y2, y3, y4, y5, y6, y7, y8, y9, y10, y11]) ⟨by decide, _, _, _, _, _, _, _, _, _, _, _, rfl⟩ (by
    rintro i d e hd ⟨hi, y1, y2, y3, y4, y5, y6, y7, y8, y9, y10, y11, rfl⟩
    obtain ⟨hlt, rfl⟩ := rangeD_at hd
    have e1 : (0 : Int) + (i : Nat) * 1 = (i : Nat) := by omega
    obtain ⟨z2, z3, z4, z5, z6, z7, z8, z9, z10, z11, h⟩ := law_body ns i hlt y2 y3 y4 y5 y6 y7 y8 y9 y10 y11
    exact ⟨_, _, by rw [e1]; rfl, h, by omega, _, _, _, _, _, _, _, _, _, _, _, rfl⟩)
  have hg := gRange1_eq (j := 4) 4 (by decide) (by decide) rfl
  unfold m_law g_law N_law
  simp! only [hg, he]
end G57

set_option Elab.async false
set_option linter.all false
set_option maxRecDepth 100000
set_option maxHeartbeats 4000000
namespace G57
open PySem PySem.Spec L2 PyProof.Rows DL
set_option autoImplicit false
def topS (i : Nat) : Stmt := PySem.Challenge.pw_chordkeep_k57_whole_chains_of_each_kind.main.body.getD i (.Pass ⟨0, 0, 0, 0⟩)
abbrev st_is_integer : Stmt := topS 4
abbrev st_check_goal : Stmt := topS 6
abbrev st_plain_chain : Stmt := topS 7
abbrev st_signed_figures : Stmt := topS 8
abbrev st_signed_chain : Stmt := topS 9
abbrev st_windows : Stmt := topS 11
abbrev st_window_chain : Stmt := topS 10
abbrev st__law_cell : Stmt := topS 13
abbrev st__law_rich : Stmt := topS 14
abbrev st__law_number : Stmt := topS 15
abbrev st__law_refused : Stmt := topS 16
abbrev st_law : Stmt := topS 17
structure Txt (K : PySem.W.Frag) (mg : Str → Option Value) : Prop where
  n_abs : mg "abs" = none
  n_any : mg "any" = none
  n_bool : mg "bool" = none
  n_int : mg "int" = none
  n_isinstance : mg "isinstance" = none
  n_len : mg "len" = none
  n_max : mg "max" = none
  n_min : mg "min" = none
  n_range : mg "range" = none
  n_sum : mg "sum" = none
  n_tuple : mg "tuple" = none
  x_BadNumber : ExT K mg "BadNumber"
  sub_BadNumber : SubT K mg "BadNumber" sub_BadNumber
  f_is_integer : ∃ (f : Addr) (fd : FuncData), Fun K "is_integer" "is_integer" st_is_integer f fd ∧ mg "is_integer" = some (.ref f)
  f_check_goal : ∃ (f : Addr) (fd : FuncData), Fun K "check_goal" "check_goal" st_check_goal f fd ∧ mg "check_goal" = some (.ref f)
  f_plain_chain : ∃ (f : Addr) (fd : FuncData), Fun K "plain_chain" "plain_chain" st_plain_chain f fd ∧ mg "plain_chain" = some (.ref f)
  f_signed_figures : ∃ (f : Addr) (fd : FuncData), Fun K "signed_figures" "signed_figures" st_signed_figures f fd ∧ mg "signed_figures" = some (.ref f)
  f_signed_chain : ∃ (f : Addr) (fd : FuncData), Fun K "signed_chain" "signed_chain" st_signed_chain f fd ∧ mg "signed_chain" = some (.ref f)
  f_windows : ∃ (f : Addr) (fd : FuncData), Fun K "windows" "windows" st_windows f fd ∧ mg "windows" = some (.ref f)
  f_window_chain : ∃ (f : Addr) (fd : FuncData), Fun K "window_chain" "window_chain" st_window_chain f fd ∧ mg "window_chain" = some (.ref f)
  f__law_cell : ∃ (f : Addr) (fd : FuncData), Fun K "_law_cell" "_law_cell" st__law_cell f fd ∧ mg "_law_cell" = some (.ref f)
  f__law_rich : ∃ (f : Addr) (fd : FuncData), Fun K "_law_rich" "_law_rich" st__law_rich f fd ∧ mg "_law_rich" = some (.ref f)
  f__law_number : ∃ (f : Addr) (fd : FuncData), Fun K "_law_number" "_law_number" st__law_number f fd ∧ mg "_law_number" = some (.ref f)
  f__law_refused : ∃ (f : Addr) (fd : FuncData), Fun K "_law_refused" "_law_refused" st__law_refused f fd ∧ mg "_law_refused" = some (.ref f)
  f_law : ∃ (f : Addr) (fd : FuncData), Fun K "law" "law" st_law f fd ∧ mg "law" = some (.ref f)
end G57
namespace G57
open PySem PySem.Spec L2 PyProof.Rows DL
set_option autoImplicit false
theorem sc_is_integer : FnScope N_is_integer ["value"] (defScope st_is_integer) := ⟨rfl, rfl, rfl, by decide +kernel, rfl, by decide +kernel, by decide +kernel⟩
theorem ok_is_integer {P : Program} {w : World} {K : PySem.W.Frag} {mg : Str → Option Value} {base : Heap} {f : Addr} {fd : FuncData} (T : Txt K mg) (F : Fun K "is_integer" "is_integer" st_is_integer f fd) : FnOk P w K mg base (L2.CX P w) 1 f fd ["value"] (spM K mg 1 m_is_integer) :=
  def_ok F sc_is_integer rfl (fun _ _ _ => rfl) (fun cdv A outer s H O E hr tk hp => by
    have hu : (A.deeper (envOfC "is_integer" (defScope st_is_integer) s.heap.objs.size f cdv)).units + 64 < cLine := hr.units
    have hu5 : (A.deeper (envOfC "is_integer" (defScope st_is_integer) s.heap.objs.size f cdv)).units + 65 < cLine := by have := hr.un; omega
    have hu1 : (A.deeper (envOfC "is_integer" (defScope st_is_integer) s.heap.objs.size f cdv)).units + 1 < cLine := by have := hr.un; omega
    exact ss_one (s_ret (toB (e_and (e_isi "int" T.n_isinstance T.n_int (by decide +kernel) (e_varB 0)) (e_one (e_not (e_isi "bool" T.n_isinstance T.n_bool (by decide +kernel) (e_varB 0))))))))
theorem def_is_integer {P : Program} {w : World} {K : PySem.W.Frag} {mg : Str → Option Value} {base : Heap} (T : Txt K mg) : Def P w K mg base "is_integer" 1 m_is_integer 1 := by
  obtain ⟨f, fd, F, hm⟩ := T.f_is_integer
  exact ⟨f, fd, ["value"], ok_is_integer T F, hm, F.kp, F.binds fun _ _ _ _ _ _ us hl => match us, hl with | [_], _ => rfl⟩
theorem sc_check_goal : FnScope N_check_goal ["number"] (defScope st_check_goal) := ⟨rfl, rfl, rfl, by decide +kernel, rfl, by decide +kernel, by decide +kernel⟩
theorem ok_check_goal {P : Program} {w : World} {K : PySem.W.Frag} {mg : Str → Option Value} {base : Heap} {f : Addr} {fd : FuncData} (T : Txt K mg) (D_is_integer : Def P w K mg base "is_integer" 1 m_is_integer 1) (F : Fun K "check_goal" "check_goal" st_check_goal f fd) : FnOk P w K mg base (L2.CX P w) 2 f fd ["number"] (spM K mg 1 m_check_goal) :=
  def_ok F sc_check_goal rfl (fun _ _ _ => rfl) (fun cdv A outer s H O E hr tk hp => by
    have hu : (A.deeper (envOfC "check_goal" (defScope st_check_goal) s.heap.objs.size f cdv)).units + 64 < cLine := hr.units
    have hu5 : (A.deeper (envOfC "check_goal" (defScope st_check_goal) s.heap.objs.size f cdv)).units + 65 < cLine := by have := hr.un; omega
    have hu1 : (A.deeper (envOfC "check_goal" (defScope st_check_goal) s.heap.objs.size f cdv)).units + 1 < cLine := by have := hr.un; omega
    have C_is_integer := D_is_integer.cal hr (by decide)
    exact ss_one (s_if (t_w (w_or (t_not (t_val (e_call C_is_integer tk (a_cons (e_var 0) (a_nil))))) (w_or1 (t_cmp op_lt opd_bool0 (e_varB 0) (toB (e_int)))))) (ss_one (s_raise0 T.x_BadNumber.g (ps_raise rfl tk (pmk_own0 PySem.F.excBase_ValueError T.x_BadNumber.ex T.x_BadNumber.g T.x_BadNumber.kp (raises_own T.x_BadNumber.sb T.x_BadNumber.ty))))) (ss_nil)))
theorem def_check_goal {P : Program} {w : World} {K : PySem.W.Frag} {mg : Str → Option Value} {base : Heap} (T : Txt K mg) (D_is_integer : Def P w K mg base "is_integer" 1 m_is_integer 1) : Def P w K mg base "check_goal" 1 m_check_goal 2 := by
  obtain ⟨f, fd, F, hm⟩ := T.f_check_goal
  exact ⟨f, fd, ["number"], ok_check_goal T D_is_integer F, hm, F.kp, F.binds fun _ _ _ _ _ _ us hl => match us, hl with | [_], _ => rfl⟩
theorem sc_plain_chain : FnScope N_plain_chain ["number"] (defScope st_plain_chain) := ⟨rfl, rfl, rfl, by decide +kernel, rfl, by decide +kernel, by decide +kernel⟩
theorem ok_plain_chain {P : Program} {w : World} {K : PySem.W.Frag} {mg : Str → Option Value} {base : Heap} {f : Addr} {fd : FuncData} (T : Txt K mg) (D_check_goal : Def P w K mg base "check_goal" 1 m_check_goal 2) (F : Fun K "plain_chain" "plain_chain" st_plain_chain f fd) : FnOk P w K mg base (L2.CX P w) 3 f fd ["number"] (spM K mg 1 m_plain_chain) :=
  def_ok F sc_plain_chain rfl (fun _ _ _ => rfl) (fun cdv A outer s H O E hr tk hp => by
    have hu : (A.deeper (envOfC "plain_chain" (defScope st_plain_chain) s.heap.objs.size f cdv)).units + 64 < cLine := hr.units
    have hu5 : (A.deeper (envOfC "plain_chain" (defScope st_plain_chain) s.heap.objs.size f cdv)).units + 65 < cLine := by have := hr.un; omega
    have hu1 : (A.deeper (envOfC "plain_chain" (defScope st_plain_chain) s.heap.objs.size f cdv)).units + 1 < cLine := by have := hr.un; omega
    have C_check_goal := D_check_goal.cal hr (by decide)
    exact ss_cons (s_expr (e_call C_check_goal tk (a_cons (e_var 0) (a_nil))))
      (ss_cons (s_setX (ps_set (i := 1) sc_plain_chain.nd rfl (Or.inl rfl) (x_f (f_lst (a_nil)))))
      (ss_cons (s_for hp rfl (i_range3 (pi_range3 rfl T.n_range (pa_cons (toB (e_op op_sub opd_int0 (toB (e_bits (e_varB 0))) (toB (e_int)))) (pa_cons (toB (e_neg (toB (e_int)))) (pa_cons (toB (e_neg (toB (e_int)))) (pa_nil)))))) (g_name 2 sc_plain_chain.nd) (ss_cons (s_append (ps_expr (pe_bm PySem.F.plainAttrs_list PySem.F.slot_list_append PySem.F.type_list_append mt_append (pv 1) (pa_cons (e_tup (a_cons (e_str) (a_cons (e_callB call_len cd_len T.n_len boot_len (b_cons (e_varB 1) (b_nil))) (a_cons (e_callB call_len cd_len T.n_len boot_len (b_cons (e_varB 1) (b_nil))) (a_nil))))) pa_nil))))
      (ss_one (s_if (t_cmp (op_eqD hu) opd_eqD (toB (e_op op_and opd_int0 (toB (e_op op_shr opd_shr (e_varB 0) (e_varB 2))) (toB (e_int)))) (toB (e_int))) (ss_one (s_append (ps_expr (pe_bm PySem.F.plainAttrs_list PySem.F.slot_list_append PySem.F.type_list_append mt_append (pv 1) (pa_cons (e_tup (a_cons (e_str) (a_cons (e_callB call_len cd_len T.n_len boot_len (b_cons (e_varB 1) (b_nil))) (a_cons (e_int) (a_nil))))) pa_nil))))) (ss_nil)))))
      (ss_one (s_ret (toB (e_callTy call_tuple_of cd_tuple T.n_tuple (by decide +kernel) (b_cons (e_varB 1) (b_nil)))))))))
theorem def_plain_chain {P : Program} {w : World} {K : PySem.W.Frag} {mg : Str → Option Value} {base : Heap} (T : Txt K mg) (D_check_goal : Def P w K mg base "check_goal" 1 m_check_goal 2) : Def P w K mg base "plain_chain" 1 m_plain_chain 3 := by
  obtain ⟨f, fd, F, hm⟩ := T.f_plain_chain
  exact ⟨f, fd, ["number"], ok_plain_chain T D_check_goal F, hm, F.kp, F.binds fun _ _ _ _ _ _ us hl => match us, hl with | [_], _ => rfl⟩
theorem sc_signed_figures : FnScope N_signed_figures ["number"] (defScope st_signed_figures) := ⟨rfl, rfl, rfl, by decide +kernel, rfl, by decide +kernel, by decide +kernel⟩
theorem ok_signed_figures {P : Program} {w : World} {K : PySem.W.Frag} {mg : Str → Option Value} {base : Heap} {f : Addr} {fd : FuncData} (T : Txt K mg) (D_check_goal : Def P w K mg base "check_goal" 1 m_check_goal 2) (F : Fun K "signed_figures" "signed_figures" st_signed_figures f fd) : FnOk P w K mg base (L2.CX P w) 3 f fd ["number"] (spM K mg 1 m_signed_figures) :=
  def_ok F sc_signed_figures rfl (fun _ _ _ => rfl) (fun cdv A outer s H O E hr tk hp => by
    have hu : (A.deeper (envOfC "signed_figures" (defScope st_signed_figures) s.heap.objs.size f cdv)).units + 64 < cLine := hr.units
    have hu5 : (A.deeper (envOfC "signed_figures" (defScope st_signed_figures) s.heap.objs.size f cdv)).units + 65 < cLine := by have := hr.un; omega
    have hu1 : (A.deeper (envOfC "signed_figures" (defScope st_signed_figures) s.heap.objs.size f cdv)).units + 1 < cLine := by have := hr.un; omega
    have C_check_goal := D_check_goal.cal hr (by decide)
    exact ss_cons (s_expr (e_call C_check_goal tk (a_cons (e_var 0) (a_nil))))
      (ss_cons (s_setX (ps_set (i := 1) sc_signed_figures.nd rfl (Or.inl rfl) (x_f (f_lst (a_nil)))))
      (ss_cons (s_while (fun _ => FUEL.1) hp (t_cmp op_gt opd_bool0 (e_varB 0) (toB (e_int))) (ss_cons (s_set 2 sc_signed_figures.nd (e_if (t_cmp (op_eqD hu) opd_eqD (toB (e_op op_and opd_int0 (e_varB 0) (toB (e_int)))) (toB (e_int))) (e_op op_sub opd_int0 (toB (e_int)) (toB (e_op op_mod opd_mod (e_varB 0) (toB (e_int))))) (e_int)))
      (ss_cons (s_append (ps_expr (pe_bm PySem.F.plainAttrs_list PySem.F.slot_list_append PySem.F.type_list_append mt_append (pv 1) (pa_cons (e_var 2) pa_nil))))
      (ss_one (s_set 0 sc_signed_figures.nd (e_op op_fdivW opd_fdiv (toB (e_op op_sub opd_int0 (e_varB 0) (e_varB 2))) (toB (e_int))))))))
      (ss_one (s_ret (toB (e_callTy call_tuple_of cd_tuple T.n_tuple (by decide +kernel) (b_cons (e_varB 1) (b_nil)))))))))
theorem def_signed_figures {P : Program} {w : World} {K : PySem.W.Frag} {mg : Str → Option Value} {base : Heap} (T : Txt K mg) (D_check_goal : Def P w K mg base "check_goal" 1 m_check_goal 2) : Def P w K mg base "signed_figures" 1 m_signed_figures 3 := by
  obtain ⟨f, fd, F, hm⟩ := T.f_signed_figures
  exact ⟨f, fd, ["number"], ok_signed_figures T D_check_goal F, hm, F.kp, F.binds fun _ _ _ _ _ _ us hl => match us, hl with | [_], _ => rfl⟩
theorem sc_signed_chain : FnScope N_signed_chain ["number"] (defScope st_signed_chain) := ⟨rfl, rfl, rfl, by decide +kernel, rfl, by decide +kernel, by decide +kernel⟩
theorem ok_signed_chain {P : Program} {w : World} {K : PySem.W.Frag} {mg : Str → Option Value} {base : Heap} {f : Addr} {fd : FuncData} (T : Txt K mg) (D_signed_figures : Def P w K mg base "signed_figures" 1 m_signed_figures 3) (F : Fun K "signed_chain" "signed_chain" st_signed_chain f fd) : FnOk P w K mg base (L2.CX P w) 4 f fd ["number"] (spM K mg 1 m_signed_chain) :=
  def_ok F sc_signed_chain rfl (fun _ _ _ => rfl) (fun cdv A outer s H O E hr tk hp => by
    have hu : (A.deeper (envOfC "signed_chain" (defScope st_signed_chain) s.heap.objs.size f cdv)).units + 64 < cLine := hr.units
    have hu5 : (A.deeper (envOfC "signed_chain" (defScope st_signed_chain) s.heap.objs.size f cdv)).units + 65 < cLine := by have := hr.un; omega
    have hu1 : (A.deeper (envOfC "signed_chain" (defScope st_signed_chain) s.heap.objs.size f cdv)).units + 1 < cLine := by have := hr.un; omega
    have C_signed_figures := D_signed_figures.cal hr (by decide)
    exact ss_cons (s_setX (ps_set (i := 1) sc_signed_chain.nd rfl (Or.inl rfl) (x_f (f_lst (a_nil)))))
      (ss_cons (s_for hp rfl (i_seq (e_slN (toB (e_call C_signed_figures tk (a_cons (e_var 0) (a_nil)))) (o_some (toB (e_neg (toB (e_int))))) (o_none))) (g_name 2 sc_signed_chain.nd) (ss_cons (s_append (ps_expr (pe_bm PySem.F.plainAttrs_list PySem.F.slot_list_append PySem.F.type_list_append mt_append (pv 1) (pa_cons (e_tup (a_cons (e_str) (a_cons (e_callB call_len cd_len T.n_len boot_len (b_cons (e_varB 1) (b_nil))) (a_cons (e_callB call_len cd_len T.n_len boot_len (b_cons (e_varB 1) (b_nil))) (a_nil))))) pa_nil))))
      (ss_one (s_if (t_cmp (op_neD hu) opd_neD (e_varB 2) (toB (e_int))) (ss_one (s_append (ps_expr (pe_bm PySem.F.plainAttrs_list PySem.F.slot_list_append PySem.F.type_list_append mt_append (pv 1) (pa_cons (e_tup (a_cons (e_if (t_cmp (op_eqD hu) opd_eqD (e_varB 2) (toB (e_int))) (e_str) (e_str)) (a_cons (e_callB call_len cd_len T.n_len boot_len (b_cons (e_varB 1) (b_nil))) (a_cons (e_int) (a_nil))))) pa_nil))))) (ss_nil)))))
      (ss_one (s_ret (toB (e_callTy call_tuple_of cd_tuple T.n_tuple (by decide +kernel) (b_cons (e_varB 1) (b_nil))))))))
theorem def_signed_chain {P : Program} {w : World} {K : PySem.W.Frag} {mg : Str → Option Value} {base : Heap} (T : Txt K mg) (D_signed_figures : Def P w K mg base "signed_figures" 1 m_signed_figures 3) : Def P w K mg base "signed_chain" 1 m_signed_chain 4 := by
  obtain ⟨f, fd, F, hm⟩ := T.f_signed_chain
  exact ⟨f, fd, ["number"], ok_signed_chain T D_signed_figures F, hm, F.kp, F.binds fun _ _ _ _ _ _ us hl => match us, hl with | [_], _ => rfl⟩
theorem sc_windows : FnScope N_windows ["number", "width", "places", "size"] (defScope st_windows) := ⟨rfl, rfl, rfl, by decide +kernel, rfl, by decide +kernel, by decide +kernel⟩
theorem ok_windows {P : Program} {w : World} {K : PySem.W.Frag} {mg : Str → Option Value} {base : Heap} {f : Addr} {fd : FuncData} (T : Txt K mg) (F : Fun K "windows" "windows" st_windows f fd) : FnOk P w K mg base (L2.CX P w) 1 f fd ["number", "width", "places", "size"] (spM K mg 4 m_windows) :=
  def_ok F sc_windows rfl (fun _ _ _ => rfl) (fun cdv A outer s H O E hr tk hp => by
    have hu : (A.deeper (envOfC "windows" (defScope st_windows) s.heap.objs.size f cdv)).units + 64 < cLine := hr.units
    have hu5 : (A.deeper (envOfC "windows" (defScope st_windows) s.heap.objs.size f cdv)).units + 65 < cLine := by have := hr.un; omega
    have hu1 : (A.deeper (envOfC "windows" (defScope st_windows) s.heap.objs.size f cdv)).units + 1 < cLine := by have := hr.un; omega
    exact ss_cons (s_par3 (ps_par3 (i := 4) (j := 5) (l := 6) rfl sc_windows.nd rfl rfl rfl (by decide) (by decide) (by decide) rfl rfl rfl (pa_cons (x_f (f_lst (a_nil))) (pa_cons (x_e (e_non)) (pa_cons (x_e (e_op op_sub opd_int0 (toB (e_bits (e_varB 0))) (toB (e_int)))) (pa_nil)))) (by rfl)))
      (ss_cons (s_while (fun _ => FUEL.1) hp (t_cmp op_ge opd_bool0 (e_varB 6) (toB (e_int))) (ss_cons (s_set 7 sc_windows.nd (e_var 6))
      (ss_cons (s_if (t_cmp (op_eqD hu) opd_eqD (toB (e_op op_and opd_int0 (toB (e_op op_shr opd_shr (e_varB 0) (e_varB 6))) (toB (e_int)))) (toB (e_int))) (ss_cons (s_set 7 sc_windows.nd (e_callB (call_max2 rfl) cd_max2 T.n_max (by decide +kernel) (b_cons (toB (e_int)) (b_cons (toB (e_op op_addA opd_addA (toB (e_op op_sub opd_int0 (e_varB 6) (e_varB 1))) (toB (e_int)))) (b_nil)))))
      (ss_one (s_while (fun _ => FUEL.1) hp (t_cmp (op_eqD hu) opd_eqD (toB (e_op op_and opd_int0 (toB (e_op op_shr opd_shr (e_varB 0) (e_varB 7))) (toB (e_int)))) (toB (e_int))) (ss_one (s_aug 7 iop_add opd_int0 sc_windows.nd (toB (e_int))))))) (ss_nil))
      (ss_cons (s_for hp rfl (i_range1 (pi_range1 rfl T.n_range (pa_cons (toB (e_if (t_cmp op_notN opd_notN (e_varB 5) (toB (e_non))) (e_op op_addA opd_addA (toB (e_op op_sub opd_int0 (e_varB 6) (e_varB 7))) (toB (e_int))) (e_int))) (pa_nil)))) (g_name 8 sc_windows.nd) (ss_cons (s_append (ps_expr (pe_bm PySem.F.plainAttrs_list PySem.F.slot_list_append PySem.F.type_list_append mt_append (pv 4) (pa_cons (e_tup (a_cons (e_str) (a_cons (e_var 5) (a_cons (e_var 5) (a_nil))))) pa_nil))))
      (ss_one (s_set 5 sc_windows.nd (e_op op_addA opd_addA (e_varB 3) (toB (e_callB call_len cd_len T.n_len boot_len (b_cons (e_varB 4) (b_nil)))))))))
      (ss_cons (s_if (t_cmp (op_eqD hu) opd_eqD (toB (e_op op_and opd_int0 (toB (e_op op_shr opd_shr (e_varB 0) (e_varB 6))) (toB (e_int)))) (toB (e_int))) (ss_cons (s_set 9 sc_windows.nd (e_dget (pe_dget hu1 (e_varB 2) (toB (e_op op_and opd_int0 (toB (e_op op_shr opd_shr (e_varB 0) (e_varB 7))) (toB (e_op op_sub opd_int0 (toB (e_op op_shl opd_shl (toB (e_int)) (toB (e_op op_addA opd_addA (toB (e_op op_sub opd_int0 (e_varB 6) (e_varB 7))) (toB (e_int)))))) (toB (e_int)))))) (fun _ _ => rfl))))
      (ss_one (s_if (t_cmp op_isN opd_isN (e_varB 5) (toB (e_non))) (ss_one (s_set 5 sc_windows.nd (e_var 9))) (ss_cons (s_append (ps_expr (pe_bm PySem.F.plainAttrs_list PySem.F.slot_list_append PySem.F.type_list_append mt_append (pv 4) (pa_cons (e_tup (a_cons (e_str) (a_cons (e_var 5) (a_cons (e_var 9) (a_nil))))) pa_nil))))
      (ss_one (s_set 5 sc_windows.nd (e_op op_addA opd_addA (e_varB 3) (toB (e_callB call_len cd_len T.n_len boot_len (b_cons (e_varB 4) (b_nil))))))))))) (ss_nil))
      (ss_one (s_set 6 sc_windows.nd (e_op op_sub opd_int0 (e_varB 7) (toB (e_int))))))))))
      (ss_one (s_ret (e_varB 4)))))
theorem def_windows {P : Program} {w : World} {K : PySem.W.Frag} {mg : Str → Option Value} {base : Heap} (T : Txt K mg) : Def P w K mg base "windows" 4 m_windows 1 := by
  obtain ⟨f, fd, F, hm⟩ := T.f_windows
  exact ⟨f, fd, ["number", "width", "places", "size"], ok_windows T F, hm, F.kp, F.binds fun _ _ _ _ _ _ us hl => match us, hl with | [_, _, _, _], _ => rfl⟩
theorem sc_window_chain : FnScope N_window_chain ["number", "width"] (defScope st_window_chain) := ⟨rfl, rfl, rfl, by decide +kernel, rfl, by decide +kernel, by decide +kernel⟩
theorem ok_window_chain {P : Program} {w : World} {K : PySem.W.Frag} {mg : Str → Option Value} {base : Heap} {f : Addr} {fd : FuncData} (T : Txt K mg) (D_check_goal : Def P w K mg base "check_goal" 1 m_check_goal 2) (D_is_integer : Def P w K mg base "is_integer" 1 m_is_integer 1) (D_windows : Def P w K mg base "windows" 4 m_windows 1) (F : Fun K "window_chain" "window_chain" st_window_chain f fd) : FnOk P w K mg base (L2.CX P w) 3 f fd ["number", "width"] (spM K mg 2 m_window_chain) :=
  def_ok F sc_window_chain rfl (fun _ _ _ => rfl) (fun cdv A outer s H O E hr tk hp => by
    have hu : (A.deeper (envOfC "window_chain" (defScope st_window_chain) s.heap.objs.size f cdv)).units + 64 < cLine := hr.units
    have hu5 : (A.deeper (envOfC "window_chain" (defScope st_window_chain) s.heap.objs.size f cdv)).units + 65 < cLine := by have := hr.un; omega
    have hu1 : (A.deeper (envOfC "window_chain" (defScope st_window_chain) s.heap.objs.size f cdv)).units + 1 < cLine := by have := hr.un; omega
    have C_check_goal := D_check_goal.cal hr (by decide)
    have C_is_integer := D_is_integer.cal hr (by decide)
    have C_windows := D_windows.cal hr (by decide)
    exact ss_cons (s_expr (e_call C_check_goal tk (a_cons (e_var 0) (a_nil))))
      (ss_cons (s_if (t_w (w_or (t_not (t_val (e_call C_is_integer tk (a_cons (e_var 1) (a_nil))))) (w_or (t_cmp op_lt opd_bool0 (e_varB 1) (toB (e_int))) (w_or1 (t_cmp op_gt opd_bool0 (e_varB 1) (toB (e_int))))))) (ss_one (s_raise0 T.x_BadNumber.g (ps_raise rfl tk (pmk_own0 PySem.F.excBase_ValueError T.x_BadNumber.ex T.x_BadNumber.g T.x_BadNumber.kp (raises_own T.x_BadNumber.sb T.x_BadNumber.ty))))) (ss_nil))
      (ss_cons (s_par2 (ps_par (i := 2) (j := 3) rfl sc_window_chain.nd rfl rfl (by decide) rfl rfl (pa_cons (x_f (f_lst (a_nil))) (pa_cons (x_d1 (pe_disp (pps_cons e_int (e_int) pps_nil) (by rfl) (by rfl) (fun z => by cases z) (by decide))) (pa_nil))) (by rfl)))
      (ss_cons (s_if (t_w (w_and (t_cmp op_gt opd_bool0 (e_varB 1) (toB (e_int))) (w_and1 (t_cmp op_gt opd_bool0 (e_varB 0) (toB (e_int)))))) (ss_cons (s_append (ps_expr (pe_bm PySem.F.plainAttrs_list PySem.F.slot_list_append PySem.F.type_list_append mt_append (pv 2) (pa_cons (e_tup (a_cons (e_str) (a_cons (e_int) (a_cons (e_int) (a_nil))))) pa_nil))))
      (ss_one (s_for hp rfl (i_range3 (pi_range3 rfl T.n_range (pa_cons (toB (e_int)) (pa_cons (toB (e_callB (call_min2 rfl) cd_min2 T.n_min (by decide +kernel) (b_cons (toB (e_op op_shl opd_shl (toB (e_int)) (e_varB 1))) (b_cons (toB (e_op op_addA opd_addA (e_varB 0) (toB (e_int)))) (b_nil))))) (pa_cons (toB (e_int)) (pa_nil)))))) (g_name 4 sc_window_chain.nd) (ss_cons (s_append (ps_expr (pe_bm PySem.F.plainAttrs_list PySem.F.slot_list_append PySem.F.type_list_append mt_append (pv 2) (pa_cons (e_tup (a_cons (e_str) (a_cons (e_if (t_cmp op_gt opd_bool0 (e_varB 4) (toB (e_int))) (e_callB call_len cd_len T.n_len boot_len (b_cons (e_varB 2) (b_nil))) (e_int)) (a_cons (e_if (t_cmp (op_eqD hu) opd_eqD (e_varB 4) (toB (e_int))) (e_int) (e_int)) (a_nil))))) pa_nil))))
      (ss_one (s_dput (ps_dput hu1 (pv 3) (e_var 4) (e_callB call_len cd_len T.n_len boot_len (b_cons (e_varB 2) (b_nil))) rfl))))))) (ss_nil))
      (ss_one (s_freeze 3 (s_ret (toB (e_callTy call_tuple_of cd_tuple T.n_tuple (by decide +kernel) (b_cons (toB (e_op op_addA opd_addA (e_varB 2) (toB (e_call C_windows tk (a_cons (e_var 0) (a_cons (e_var 1) (a_cons (e_var 3) (a_cons (e_callB call_len cd_len T.n_len boot_len (b_cons (e_varB 2) (b_nil))) (a_nil))))))))) (b_nil)))))))))))
theorem def_window_chain {P : Program} {w : World} {K : PySem.W.Frag} {mg : Str → Option Value} {base : Heap} (T : Txt K mg) (D_check_goal : Def P w K mg base "check_goal" 1 m_check_goal 2) (D_is_integer : Def P w K mg base "is_integer" 1 m_is_integer 1) (D_windows : Def P w K mg base "windows" 4 m_windows 1) : Def P w K mg base "window_chain" 2 m_window_chain 3 := by
  obtain ⟨f, fd, F, hm⟩ := T.f_window_chain
  exact ⟨f, fd, ["number", "width"], ok_window_chain T D_check_goal D_is_integer D_windows F, hm, F.kp, F.binds fun _ _ _ _ _ _ us hl => match us, hl with | [_, _], _ => rfl⟩
theorem sc__law_cell : FnScope N__law_cell ["script", "k"] (defScope st__law_cell) := ⟨rfl, rfl, rfl, by decide +kernel, rfl, by decide +kernel, by decide +kernel⟩
theorem ok__law_cell {P : Program} {w : World} {K : PySem.W.Frag} {mg : Str → Option Value} {base : Heap} {f : Addr} {fd : FuncData} (T : Txt K mg) (F : Fun K "_law_cell" "_law_cell" st__law_cell f fd) : FnOk P w K mg base (L2.CX P w) 1 f fd ["script", "k"] (spM K mg 2 m__law_cell) :=
  def_ok F sc__law_cell rfl (fun _ _ _ => rfl) (fun cdv A outer s H O E hr tk hp => by
    have hu : (A.deeper (envOfC "_law_cell" (defScope st__law_cell) s.heap.objs.size f cdv)).units + 64 < cLine := hr.units
    have hu5 : (A.deeper (envOfC "_law_cell" (defScope st__law_cell) s.heap.objs.size f cdv)).units + 65 < cLine := by have := hr.un; omega
    have hu1 : (A.deeper (envOfC "_law_cell" (defScope st__law_cell) s.heap.objs.size f cdv)).units + 1 < cLine := by have := hr.un; omega
    exact ss_cons (s_if (t_cmp op_lt opd_bool0 (e_varB 1) (toB (e_callB call_len cd_len T.n_len boot_len (b_cons (e_varB 0) (b_nil))))) (ss_one (s_ret (toB (e_op op_mod opd_mod (toB (e_callB call_abs cd_abs T.n_abs (by decide +kernel) (b_cons (toB (e_callTy call_int1 cd_int1 T.n_int (by decide +kernel) (b_cons (toB (e_ix (e_varB 0) (e_varB 1))) (b_nil)))) (b_nil)))) (toB (e_int)))))) (ss_nil))
      (ss_one (s_ret (toB (e_int)))))
theorem def__law_cell {P : Program} {w : World} {K : PySem.W.Frag} {mg : Str → Option Value} {base : Heap} (T : Txt K mg) : Def P w K mg base "_law_cell" 2 m__law_cell 1 := by
  obtain ⟨f, fd, F, hm⟩ := T.f__law_cell
  exact ⟨f, fd, ["script", "k"], ok__law_cell T F, hm, F.kp, F.binds fun _ _ _ _ _ _ us hl => match us, hl with | [_, _], _ => rfl⟩
theorem sc__law_rich : FnScope N__law_rich ["cell", "k"] (defScope st__law_rich) := ⟨rfl, rfl, rfl, by decide +kernel, rfl, by decide +kernel, by decide +kernel⟩
theorem ok__law_rich {P : Program} {w : World} {K : PySem.W.Frag} {mg : Str → Option Value} {base : Heap} {f : Addr} {fd : FuncData} (T : Txt K mg) (F : Fun K "_law_rich" "_law_rich" st__law_rich f fd) : FnOk P w K mg base (L2.CX P w) 1 f fd ["cell", "k"] (spM K mg 2 m__law_rich) :=
  def_ok F sc__law_rich rfl (fun _ _ _ => rfl) (fun cdv A outer s H O E hr tk hp => by
    have hu : (A.deeper (envOfC "_law_rich" (defScope st__law_rich) s.heap.objs.size f cdv)).units + 64 < cLine := hr.units
    have hu5 : (A.deeper (envOfC "_law_rich" (defScope st__law_rich) s.heap.objs.size f cdv)).units + 65 < cLine := by have := hr.un; omega
    have hu1 : (A.deeper (envOfC "_law_rich" (defScope st__law_rich) s.heap.objs.size f cdv)).units + 1 < cLine := by have := hr.un; omega
    exact ss_cons (s_set 2 sc__law_rich.nd (e_op op_mod opd_mod (toB (e_callTy call_int1 cd_int1 T.n_int (by decide +kernel) (b_cons (toB (e_op op_addA opd_addA (toB (e_op op_addA opd_addA (toB (e_op op_mulA opd_mulA (e_varB 0) (toB (e_int)))) (toB (e_op op_mulA opd_mulA (e_varB 1) (toB (e_int)))))) (toB (e_int)))) (b_nil)))) (toB (e_int))))
      (ss_one (s_ret (toB (e_op op_addA opd_addA (toB (e_op op_mulA opd_mulA (e_varB 2) (toB (e_int)))) (toB (e_op op_mod opd_mod (toB (e_callTy call_int1 cd_int1 T.n_int (by decide +kernel) (b_cons (toB (e_op op_addA opd_addA (toB (e_op op_mulA opd_mulA (e_varB 2) (toB (e_int)))) (e_varB 0))) (b_nil)))) (toB (e_int)))))))))
theorem def__law_rich {P : Program} {w : World} {K : PySem.W.Frag} {mg : Str → Option Value} {base : Heap} (T : Txt K mg) : Def P w K mg base "_law_rich" 2 m__law_rich 1 := by
  obtain ⟨f, fd, F, hm⟩ := T.f__law_rich
  exact ⟨f, fd, ["cell", "k"], ok__law_rich T F, hm, F.kp, F.binds fun _ _ _ _ _ _ us hl => match us, hl with | [_, _], _ => rfl⟩
theorem sc__law_number : FnScope N__law_number ["chain"] (defScope st__law_number) := ⟨rfl, rfl, rfl, by decide +kernel, rfl, by decide +kernel, by decide +kernel⟩
theorem ok__law_number {P : Program} {w : World} {K : PySem.W.Frag} {mg : Str → Option Value} {base : Heap} {f : Addr} {fd : FuncData} (T : Txt K mg) (F : Fun K "_law_number" "_law_number" st__law_number f fd) : FnOk P w K mg base (L2.CX P w) 1 f fd ["chain"] (spM K mg 1 m__law_number) :=
  def_ok F sc__law_number rfl (fun _ _ _ => rfl) (fun cdv A outer s H O E hr tk hp => by
    have hu : (A.deeper (envOfC "_law_number" (defScope st__law_number) s.heap.objs.size f cdv)).units + 64 < cLine := hr.units
    have hu5 : (A.deeper (envOfC "_law_number" (defScope st__law_number) s.heap.objs.size f cdv)).units + 65 < cLine := by have := hr.un; omega
    have hu1 : (A.deeper (envOfC "_law_number" (defScope st__law_number) s.heap.objs.size f cdv)).units + 1 < cLine := by have := hr.un; omega
    exact ss_cons (s_setX (ps_set (i := 1) sc__law_number.nd rfl (Or.inl rfl) (x_f (f_lst (a_cons (e_int) (a_nil))))))
      (ss_cons (s_for hp rfl (i_seq (e_var 0)) (g_name 2 sc__law_number.nd) (ss_cons (s_if (t_w (w_or (t_not (t_val (e_isi "tuple" T.n_isinstance T.n_tuple (by decide +kernel) (e_varB 2)))) (w_or (t_cmp (op_neD hu) opd_neD (toB (e_callB call_len cd_len T.n_len boot_len (b_cons (e_varB 2) (b_nil)))) (toB (e_int))) (w_or (t_cmp (op_notInD hu5) opd_notInD (toB (e_ix (e_varB 2) (toB (e_int)))) (toB (e_lst (a_cons (e_str) (a_cons (e_str) (a_nil)))))) (w_or (t_not (t_chain op_le op_lt opd_bool0 opd_bool0 (toB (e_int)) (toB (e_ix (e_varB 2) (toB (e_int)))) (toB (e_callB call_len cd_len T.n_len boot_len (b_cons (e_varB 1) (b_nil)))))) (w_or1 (t_not (t_chain op_le op_lt opd_bool0 opd_bool0 (toB (e_int)) (toB (e_ix (e_varB 2) (toB (e_int)))) (toB (e_callB call_len cd_len T.n_len boot_len (b_cons (e_varB 1) (b_nil)))))))))))) (ss_one (s_ret (toB (e_non)))) (ss_nil))
      (ss_one (s_append (ps_expr (pe_bm PySem.F.plainAttrs_list PySem.F.slot_list_append PySem.F.type_list_append mt_append (pv 1) (pa_cons (e_if (t_cmp (op_eqD hu) opd_eqD (toB (e_ix (e_varB 2) (toB (e_int)))) (toB (e_str))) (e_op op_addA opd_addA (toB (e_ix (e_varB 1) (toB (e_ix (e_varB 2) (toB (e_int)))))) (toB (e_ix (e_varB 1) (toB (e_ix (e_varB 2) (toB (e_int))))))) (e_op op_sub opd_int0 (toB (e_ix (e_varB 1) (toB (e_ix (e_varB 2) (toB (e_int)))))) (toB (e_ix (e_varB 1) (toB (e_ix (e_varB 2) (toB (e_int)))))))) pa_nil)))))))
      (ss_one (s_ret (toB (e_ix (e_varB 1) (toB (e_neg (toB (e_int))))))))))
theorem def__law_number {P : Program} {w : World} {K : PySem.W.Frag} {mg : Str → Option Value} {base : Heap} (T : Txt K mg) : Def P w K mg base "_law_number" 1 m__law_number 1 := by
  obtain ⟨f, fd, F, hm⟩ := T.f__law_number
  exact ⟨f, fd, ["chain"], ok__law_number T F, hm, F.kp, F.binds fun _ _ _ _ _ _ us hl => match us, hl with | [_], _ => rfl⟩
theorem sc__law_refused : FnScope N__law_refused ["value", "width"] (defScope st__law_refused) := ⟨rfl, rfl, rfl, by decide +kernel, rfl, by decide +kernel, by decide +kernel⟩
theorem ok__law_refused {P : Program} {w : World} {K : PySem.W.Frag} {mg : Str → Option Value} {base : Heap} {f : Addr} {fd : FuncData} (T : Txt K mg) (D_plain_chain : Def P w K mg base "plain_chain" 1 m_plain_chain 3) (D_signed_chain : Def P w K mg base "signed_chain" 1 m_signed_chain 4) (D_signed_figures : Def P w K mg base "signed_figures" 1 m_signed_figures 3) (D_window_chain : Def P w K mg base "window_chain" 2 m_window_chain 3) (F : Fun K "_law_refused" "_law_refused" st__law_refused f fd) : FnOk P w K mg base (L2.CX P w) 5 f fd ["value", "width"] (spM K mg 2 m__law_refused) :=
  def_ok F sc__law_refused rfl (fun _ _ _ => rfl) (fun cdv A outer s H O E hr tk hp => by
    have hu : (A.deeper (envOfC "_law_refused" (defScope st__law_refused) s.heap.objs.size f cdv)).units + 64 < cLine := hr.units
    have hu5 : (A.deeper (envOfC "_law_refused" (defScope st__law_refused) s.heap.objs.size f cdv)).units + 65 < cLine := by have := hr.un; omega
    have hu1 : (A.deeper (envOfC "_law_refused" (defScope st__law_refused) s.heap.objs.size f cdv)).units + 1 < cLine := by have := hr.un; omega
    have C_plain_chain := D_plain_chain.cal hr (by decide)
    have C_signed_chain := D_signed_chain.cal hr (by decide)
    have C_signed_figures := D_signed_figures.cal hr (by decide)
    have C_window_chain := D_window_chain.cal hr (by decide)
    exact ss_cons (s_set 2 sc__law_refused.nd (e_int))
      (ss_cons (s_for hp rfl (i_range1 (pi_range1 rfl T.n_range (pa_cons (toB (e_int)) (pa_nil)))) (g_name 3 sc__law_refused.nd) (ss_one (s_tryO rfl rfl ⟨rfl, by decide, Or.inl T.x_BadNumber.g⟩ tk (fun W pn xe tk1 hp1 => ss_one (s_if (t_cmp (op_eqD hu) opd_eqD (e_varB 3) (toB (e_int))) (ss_one (s_expr (e_call C_plain_chain tk1 (a_cons (e_var 0) (a_nil))))) (ss_one (s_if (t_cmp (op_eqD hu) opd_eqD (e_varB 3) (toB (e_int))) (ss_one (s_expr (e_call C_signed_chain tk1 (a_cons (e_var 0) (a_nil))))) (ss_one (s_if (t_cmp (op_eqD hu) opd_eqD (e_varB 3) (toB (e_int))) (ss_one (s_expr (e_call C_signed_figures tk1 (a_cons (e_var 0) (a_nil))))) (ss_one (s_expr (e_call C_window_chain tk1 (a_cons (e_var 0) (a_cons (e_var 1) (a_nil)))))))))))) (fun a oe cls dd pn hz hf fs => ss_one (s_set 2 sc__law_refused.nd (e_op op_addA opd_addA (e_varB 2) (toB (e_int))))) (T.sub_BadNumber))))
      (ss_one (s_ret (e_varB 2)))))
theorem def__law_refused {P : Program} {w : World} {K : PySem.W.Frag} {mg : Str → Option Value} {base : Heap} (T : Txt K mg) (D_plain_chain : Def P w K mg base "plain_chain" 1 m_plain_chain 3) (D_signed_chain : Def P w K mg base "signed_chain" 1 m_signed_chain 4) (D_signed_figures : Def P w K mg base "signed_figures" 1 m_signed_figures 3) (D_window_chain : Def P w K mg base "window_chain" 2 m_window_chain 3) : Def P w K mg base "_law_refused" 2 m__law_refused 5 := by
  obtain ⟨f, fd, F, hm⟩ := T.f__law_refused
  exact ⟨f, fd, ["value", "width"], ok__law_refused T D_plain_chain D_signed_chain D_signed_figures D_window_chain F, hm, F.kp, F.binds fun _ _ _ _ _ _ us hl => match us, hl with | [_, _], _ => rfl⟩
theorem sc_law : FnScope N_law ["script"] (defScope st_law) := ⟨rfl, rfl, rfl, by decide +kernel, rfl, by decide +kernel, by decide +kernel⟩
theorem ok_law {P : Program} {w : World} {K : PySem.W.Frag} {mg : Str → Option Value} {base : Heap} {f : Addr} {fd : FuncData} (T : Txt K mg) (D__law_cell : Def P w K mg base "_law_cell" 2 m__law_cell 1) (D__law_number : Def P w K mg base "_law_number" 1 m__law_number 1) (D__law_refused : Def P w K mg base "_law_refused" 2 m__law_refused 5) (D__law_rich : Def P w K mg base "_law_rich" 2 m__law_rich 1) (D_plain_chain : Def P w K mg base "plain_chain" 1 m_plain_chain 3) (D_signed_chain : Def P w K mg base "signed_chain" 1 m_signed_chain 4) (D_signed_figures : Def P w K mg base "signed_figures" 1 m_signed_figures 3) (D_window_chain : Def P w K mg base "window_chain" 2 m_window_chain 3) (F : Fun K "law" "law" st_law f fd) : FnOk P w K mg base (L2.CX P w) 6 f fd ["script"] (spM K mg 1 m_law) :=
  def_ok F sc_law rfl (fun _ _ _ => rfl) (fun cdv A outer s H O E hr tk hp => by
    have hu : (A.deeper (envOfC "law" (defScope st_law) s.heap.objs.size f cdv)).units + 64 < cLine := hr.units
    have hu5 : (A.deeper (envOfC "law" (defScope st_law) s.heap.objs.size f cdv)).units + 65 < cLine := by have := hr.un; omega
    have hu1 : (A.deeper (envOfC "law" (defScope st_law) s.heap.objs.size f cdv)).units + 1 < cLine := by have := hr.un; omega
    have C__law_cell := D__law_cell.cal hr (by decide)
    have C__law_number := D__law_number.cal hr (by decide)
    have C__law_refused := D__law_refused.cal hr (by decide)
    have C__law_rich := D__law_rich.cal hr (by decide)
    have C_plain_chain := D_plain_chain.cal hr (by decide)
    have C_signed_chain := D_signed_chain.cal hr (by decide)
    have C_signed_figures := D_signed_figures.cal hr (by decide)
    have C_window_chain := D_window_chain.cal hr (by decide)
    exact ss_cons (s_for hp rfl (i_range1 (pi_range1 rfl T.n_range (pa_cons (toB (e_int)) (pa_nil)))) (g_name 1 sc_law.nd) (ss_cons (s_set 2 sc_law.nd (e_call C__law_rich tk (a_cons (e_call C__law_cell tk (a_cons (e_var 0) (a_cons (e_var 1) (a_nil)))) (a_cons (e_var 1) (a_nil)))))
      (ss_cons (s_set 3 sc_law.nd (e_op op_addA opd_addA (toB (e_int)) (toB (e_op op_mod opd_mod (e_varB 2) (toB (e_ix (toB (e_lst (a_cons (e_int) (a_cons (e_int) (a_cons (e_int) (a_cons (e_int) (a_nil))))))) (toB (e_op op_mod opd_mod (toB (e_op op_fdivW opd_fdiv (e_varB 2) (toB (e_int)))) (toB (e_int))))))))))
      (ss_cons (s_par2 (ps_par (i := 4) (j := 5) rfl sc_law.nd rfl rfl (by decide) rfl rfl (pa_cons (x_e (e_call C_plain_chain tk (a_cons (e_var 3) (a_nil)))) (pa_cons (x_e (e_call C_signed_chain tk (a_cons (e_var 3) (a_nil)))) (pa_nil))) (by rfl)))
      (ss_cons (s_setX (ps_set (i := 6) sc_law.nd rfl (Or.inl rfl) (x_f (f_lst (a_nil)))))
      (ss_cons (s_for hp rfl (i_range1 (pi_range1 rfl T.n_range (pa_cons (toB (e_bits (e_varB 3))) (pa_nil)))) (g_name 7 sc_law.nd) (ss_one (s_append (ps_expr (pe_bm PySem.F.plainAttrs_list PySem.F.slot_list_append PySem.F.type_list_append mt_append (pv 6) (pa_cons (e_op op_mod opd_mod (toB (e_op op_shr opd_shr (e_varB 3) (e_varB 7))) (toB (e_int))) pa_nil))))))
      (ss_cons (s_if (t_w (w_or (t_cmp (op_neD hu) opd_neD (toB (e_call C__law_number tk (a_cons (e_var 4) (a_nil)))) (e_varB 3)) (w_or (t_cmp (op_neD hu) opd_neD (toB (e_call C__law_number tk (a_cons (e_var 5) (a_nil)))) (e_varB 3)) (w_or1 (t_val (e_callB (cr_any rfl) cd_any T.n_any (by decide +kernel) (b_cons (toB (e_ofF (f_comp (by decide) (pe_lc (own := [(("step" : Str), 10)]) rfl sc_law.nd (i_seq (e_var 4)) (blkOk_by (own := [(("step" : Str), 10)]) (N := N_law) (sc := defScope st_law) (by decide +kernel)) (fun _ _ _ _ _ => g_name 10 sc_law.nd) (fun _ _ _ _ _ => pts_yes) (fun _ _ _ _ _ => e_cmp (op_neD hu) opd_neD (toB (e_ix (e_varB 10) (toB (e_int)))) (toB (e_str))))))) (b_nil)))))))) (ss_one (s_ret (toB (e_bl)))) (ss_nil))
      (ss_cons (s_if (t_cmp (op_neD hu) opd_neD (toB (e_callB call_len cd_len T.n_len boot_len (b_cons (e_varB 4) (b_nil)))) (toB (e_op op_sub opd_int0 (toB (e_op op_addA opd_addA (toB (e_op op_sub opd_int0 (toB (e_callB call_len cd_len T.n_len boot_len (b_cons (e_varB 6) (b_nil)))) (toB (e_int)))) (toB (e_count (pe_bm PySem.F.plainAttrs_list PySem.F.slot_list_count PySem.F.type_list_count mt_lcount (e_varB 6) (pa_cons (toB (e_int)) pa_nil)))))) (toB (e_int))))) (ss_one (s_ret (toB (e_bl)))) (ss_nil))
      (ss_cons (s_set 8 sc_law.nd (e_call C_signed_figures tk (a_cons (e_var 3) (a_nil))))
      (ss_cons (s_if (t_w (w_or (t_val (e_callB (cr_any rfl) cd_any T.n_any (by decide +kernel) (b_cons (toB (e_ofF (f_comp (by decide) (pe_lc (own := [(("figure" : Str), 11)]) rfl sc_law.nd (i_seq (e_var 8)) (blkOk_by (own := [(("figure" : Str), 11)]) (N := N_law) (sc := defScope st_law) (by decide +kernel)) (fun _ _ _ _ _ => g_name 11 sc_law.nd) (fun _ _ _ _ _ => pts_yes) (fun _ _ _ _ _ => e_cmp (op_notInD hu5) opd_notInD (e_varB 11) (toB (e_lst (a_cons (e_neg (toB (e_int))) (a_cons (e_int) (a_cons (e_int) (a_nil))))))))))) (b_nil)))) (w_or1 (t_val (e_callB (cr_any rfl) cd_any T.n_any (by decide +kernel) (b_cons (toB (e_ofF (f_comp (by decide) (pe_lc (own := [(("k" : Str), 7)]) rfl sc_law.nd (i_range1 (pi_range1 rfl T.n_range (pa_cons (toB (e_op op_sub opd_int0 (toB (e_callB call_len cd_len T.n_len boot_len (b_cons (e_varB 8) (b_nil)))) (toB (e_int)))) (pa_nil)))) (blkOk_by (own := [(("k" : Str), 7)]) (N := N_law) (sc := defScope st_law) (by decide +kernel)) (fun _ _ _ _ _ => g_name 7 sc_law.nd) (fun _ _ _ _ _ => pts_yes) (fun _ _ _ _ _ => e_and (e_cmp (op_neD hu) opd_neD (toB (e_ix (e_varB 8) (e_varB 7))) (toB (e_int))) (e_one (e_cmp (op_neD hu) opd_neD (toB (e_ix (e_varB 8) (toB (e_op op_addA opd_addA (e_varB 7) (toB (e_int)))))) (toB (e_int))))))))) (b_nil))))))) (ss_one (s_ret (toB (e_bl)))) (ss_nil))
      (ss_cons (s_if (t_cmp (op_neD hu) opd_neD (toB (e_callB (cr_sum rfl) cd_sum T.n_sum (by decide +kernel) (b_cons (toB (e_ofF (f_comp (by decide) (pe_lc (own := [(("k" : Str), 7)]) rfl sc_law.nd (i_range1 (pi_range1 rfl T.n_range (pa_cons (toB (e_callB call_len cd_len T.n_len boot_len (b_cons (e_varB 8) (b_nil)))) (pa_nil)))) (blkOk_by (own := [(("k" : Str), 7)]) (N := N_law) (sc := defScope st_law) (by decide +kernel)) (fun _ _ _ _ _ => g_name 7 sc_law.nd) (fun _ _ _ _ _ => pts_yes) (fun _ _ _ _ _ => e_op op_mulA opd_mulA (toB (e_ix (e_varB 8) (e_varB 7))) (toB (e_op op_shl opd_shl (toB (e_int)) (e_varB 7)))))))) (b_nil)))) (e_varB 3)) (ss_one (s_ret (toB (e_bl)))) (ss_nil))
      (ss_cons (s_for hp rfl (i_range2 (pi_range2 rfl T.n_range (pa_cons (toB (e_int)) (pa_cons (toB (e_int)) (pa_nil))))) (g_name 9 sc_law.nd) (ss_one (s_if (t_cmp (op_neD hu) opd_neD (toB (e_call C__law_number tk (a_cons (e_call C_window_chain tk (a_cons (e_var 3) (a_cons (e_var 9) (a_nil)))) (a_nil)))) (e_varB 3)) (ss_one (s_ret (toB (e_bl)))) (ss_nil))))
      (ss_one (s_if (t_w (w_or (t_cmp (op_neD hu) opd_neD (toB (e_call C__law_refused tk (a_cons (e_ix (toB (e_lst (a_cons (e_int) (a_cons (e_neg (toB (e_int))) (a_cons (e_non) (a_cons (e_bl) (a_cons (e_str) (a_cons (e_tup (a_cons (e_int) (a_nil))) (a_nil))))))))) (toB (e_op op_mod opd_mod (toB (e_op op_fdivW opd_fdiv (e_varB 2) (toB (e_int)))) (toB (e_int))))) (a_cons (e_int) (a_nil))))) (toB (e_int))) (w_or1 (t_cmp (op_neD hu) opd_neD (toB (e_call C__law_refused tk (a_cons (e_var 3) (a_cons (e_ix (toB (e_lst (a_cons (e_int) (a_cons (e_int) (a_cons (e_non) (a_cons (e_str) (a_cons (e_bl) (a_nil)))))))) (toB (e_op op_mod opd_mod (toB (e_op op_fdivW opd_fdiv (e_varB 2) (toB (e_int)))) (toB (e_int))))) (a_nil))))) (toB (e_int)))))) (ss_one (s_ret (toB (e_bl)))) (ss_nil)))))))))))))))
      (ss_one (s_ret (toB (e_bl)))))
theorem def_law {P : Program} {w : World} {K : PySem.W.Frag} {mg : Str → Option Value} {base : Heap} (T : Txt K mg) (D__law_cell : Def P w K mg base "_law_cell" 2 m__law_cell 1) (D__law_number : Def P w K mg base "_law_number" 1 m__law_number 1) (D__law_refused : Def P w K mg base "_law_refused" 2 m__law_refused 5) (D__law_rich : Def P w K mg base "_law_rich" 2 m__law_rich 1) (D_plain_chain : Def P w K mg base "plain_chain" 1 m_plain_chain 3) (D_signed_chain : Def P w K mg base "signed_chain" 1 m_signed_chain 4) (D_signed_figures : Def P w K mg base "signed_figures" 1 m_signed_figures 3) (D_window_chain : Def P w K mg base "window_chain" 2 m_window_chain 3) : Def P w K mg base "law" 1 m_law 6 := by
  obtain ⟨f, fd, F, hm⟩ := T.f_law
  exact ⟨f, fd, ["script"], ok_law T D__law_cell D__law_number D__law_refused D__law_rich D_plain_chain D_signed_chain D_signed_figures D_window_chain F, hm, F.kp, F.binds fun _ _ _ _ _ _ us hl => match us, hl with | [_], _ => rfl⟩
end G57

set_option Elab.async false
set_option linter.all false
set_option maxRecDepth 100000
set_option maxHeartbeats 4000000
namespace G57
open PySem PySem.Spec L2 PyProof.Rows DL
set_option autoImplicit false
theorem all_mk {P : Program} {w : World} {K : PySem.W.Frag} {h : Heap} {mg : Str → Option Value} {fa : Addr} (X : K.In h) (G : h.Ns mainGlobals mg) (hfa : mg "law" = some (.ref fa))
  {C_BadNumber : Addr} {f_0 : Addr} {od_0 an_0 : Option Addr} {sl_0 : Array (Option Value)} {oc_0 kv_0 dc_0 pm_0 cd_0 ct_0 : Value} {f_1 : Addr} {od_1 an_1 : Option Addr} {sl_1 : Array (Option Value)} {oc_1 kv_1 dc_1 pm_1 cd_1 ct_1 : Value} {f_2 : Addr} {od_2 an_2 : Option Addr} {sl_2 : Array (Option Value)} {oc_2 kv_2 dc_2 pm_2 cd_2 ct_2 : Value} {f_3 : Addr} {od_3 an_3 : Option Addr} {sl_3 : Array (Option Value)} {oc_3 kv_3 dc_3 pm_3 cd_3 ct_3 : Value} {f_4 : Addr} {od_4 an_4 : Option Addr} {sl_4 : Array (Option Value)} {oc_4 kv_4 dc_4 pm_4 cd_4 ct_4 : Value} {f_5 : Addr} {od_5 an_5 : Option Addr} {sl_5 : Array (Option Value)} {oc_5 kv_5 dc_5 pm_5 cd_5 ct_5 : Value} {f_6 : Addr} {od_6 an_6 : Option Addr} {sl_6 : Array (Option Value)} {oc_6 kv_6 dc_6 pm_6 cd_6 ct_6 : Value} {f_7 : Addr} {od_7 an_7 : Option Addr} {sl_7 : Array (Option Value)} {oc_7 kv_7 dc_7 pm_7 cd_7 ct_7 : Value} {f_8 : Addr} {od_8 an_8 : Option Addr} {sl_8 : Array (Option Value)} {oc_8 kv_8 dc_8 pm_8 cd_8 ct_8 : Value} {f_9 : Addr} {od_9 an_9 : Option Addr} {sl_9 : Array (Option Value)} {oc_9 kv_9 dc_9 pm_9 cd_9 ct_9 : Value} {f_10 : Addr} {od_10 an_10 : Option Addr} {sl_10 : Array (Option Value)} {oc_10 kv_10 dc_10 pm_10 cd_10 ct_10 : Value} {f_11 : Addr} {od_11 an_11 : Option Addr} {sl_11 : Array (Option Value)} {oc_11 kv_11 dc_11 pm_11 cd_11 ct_11 : Value}
  (a_BadNumber : PySem.W.nsIn K mainGlobals "BadNumber" = some (some (.ref C_BadNumber)))
  (e_BadNumber : PySem.W.excIn K C_BadNumber veL "ValueError.__new__" = true)
  (k_BadNumber : PySem.W.keepIn K (.ref C_BadNumber) = true)
  (s_BadNumber : PySem.W.subIn K (.ref C_BadNumber) (.type "BaseException") = some true)
  (t_BadNumber : PySem.W.typeIn K (.ref C_BadNumber) = some (.type "type"))
  (z_abs : PySem.W.nsIn K mainGlobals "abs" = some none)
  (z_any : PySem.W.nsIn K mainGlobals "any" = some none)
  (z_bool : PySem.W.nsIn K mainGlobals "bool" = some none)
  (z_int : PySem.W.nsIn K mainGlobals "int" = some none)
  (z_isinstance : PySem.W.nsIn K mainGlobals "isinstance" = some none)
  (z_len : PySem.W.nsIn K mainGlobals "len" = some none)
  (z_max : PySem.W.nsIn K mainGlobals "max" = some none)
  (z_min : PySem.W.nsIn K mainGlobals "min" = some none)
  (z_range : PySem.W.nsIn K mainGlobals "range" = some none)
  (z_sum : PySem.W.nsIn K mainGlobals "sum" = some none)
  (z_tuple : PySem.W.nsIn K mainGlobals "tuple" = some none)
  (i_BadNumber : PySem.W.isClsIn K C_BadNumber = true)
  (m_BadNumber_BadNumber : PySem.W.subIn K (.ref C_BadNumber) (.ref C_BadNumber) = some true)
  (fa_0 : PySem.W.nsIn K mainGlobals "is_integer" = some (some (.ref f_0)))
  (fl_0 : K.lookup f_0 = some ⟨oc_0, od_0, .func (PySem.W.fnOf "is_integer" "is_integer" (defArgs st_is_integer) (defBody st_is_integer) (defScope st_is_integer) .none kv_0 dc_0 pm_0 an_0 cd_0 ct_0), sl_0⟩)
  (fc_0 : PySem.W.codeIn K cd_0 "is_integer" = true)
  (fk_0 : PySem.W.keepIn K (.ref f_0) = true)
  (fa_1 : PySem.W.nsIn K mainGlobals "check_goal" = some (some (.ref f_1)))
  (fl_1 : K.lookup f_1 = some ⟨oc_1, od_1, .func (PySem.W.fnOf "check_goal" "check_goal" (defArgs st_check_goal) (defBody st_check_goal) (defScope st_check_goal) .none kv_1 dc_1 pm_1 an_1 cd_1 ct_1), sl_1⟩)
  (fc_1 : PySem.W.codeIn K cd_1 "check_goal" = true)
  (fk_1 : PySem.W.keepIn K (.ref f_1) = true)
  (fa_2 : PySem.W.nsIn K mainGlobals "plain_chain" = some (some (.ref f_2)))
  (fl_2 : K.lookup f_2 = some ⟨oc_2, od_2, .func (PySem.W.fnOf "plain_chain" "plain_chain" (defArgs st_plain_chain) (defBody st_plain_chain) (defScope st_plain_chain) .none kv_2 dc_2 pm_2 an_2 cd_2 ct_2), sl_2⟩)
  (fc_2 : PySem.W.codeIn K cd_2 "plain_chain" = true)
  (fk_2 : PySem.W.keepIn K (.ref f_2) = true)
  (fa_3 : PySem.W.nsIn K mainGlobals "signed_figures" = some (some (.ref f_3)))
  (fl_3 : K.lookup f_3 = some ⟨oc_3, od_3, .func (PySem.W.fnOf "signed_figures" "signed_figures" (defArgs st_signed_figures) (defBody st_signed_figures) (defScope st_signed_figures) .none kv_3 dc_3 pm_3 an_3 cd_3 ct_3), sl_3⟩)
  (fc_3 : PySem.W.codeIn K cd_3 "signed_figures" = true)
  (fk_3 : PySem.W.keepIn K (.ref f_3) = true)
  (fa_4 : PySem.W.nsIn K mainGlobals "signed_chain" = some (some (.ref f_4)))
  (fl_4 : K.lookup f_4 = some ⟨oc_4, od_4, .func (PySem.W.fnOf "signed_chain" "signed_chain" (defArgs st_signed_chain) (defBody st_signed_chain) (defScope st_signed_chain) .none kv_4 dc_4 pm_4 an_4 cd_4 ct_4), sl_4⟩)
  (fc_4 : PySem.W.codeIn K cd_4 "signed_chain" = true)
  (fk_4 : PySem.W.keepIn K (.ref f_4) = true)
  (fa_5 : PySem.W.nsIn K mainGlobals "windows" = some (some (.ref f_5)))
  (fl_5 : K.lookup f_5 = some ⟨oc_5, od_5, .func (PySem.W.fnOf "windows" "windows" (defArgs st_windows) (defBody st_windows) (defScope st_windows) .none kv_5 dc_5 pm_5 an_5 cd_5 ct_5), sl_5⟩)
  (fc_5 : PySem.W.codeIn K cd_5 "windows" = true)
  (fk_5 : PySem.W.keepIn K (.ref f_5) = true)
  (fa_6 : PySem.W.nsIn K mainGlobals "window_chain" = some (some (.ref f_6)))
  (fl_6 : K.lookup f_6 = some ⟨oc_6, od_6, .func (PySem.W.fnOf "window_chain" "window_chain" (defArgs st_window_chain) (defBody st_window_chain) (defScope st_window_chain) .none kv_6 dc_6 pm_6 an_6 cd_6 ct_6), sl_6⟩)
  (fc_6 : PySem.W.codeIn K cd_6 "window_chain" = true)
  (fk_6 : PySem.W.keepIn K (.ref f_6) = true)
  (fa_7 : PySem.W.nsIn K mainGlobals "_law_cell" = some (some (.ref f_7)))
  (fl_7 : K.lookup f_7 = some ⟨oc_7, od_7, .func (PySem.W.fnOf "_law_cell" "_law_cell" (defArgs st__law_cell) (defBody st__law_cell) (defScope st__law_cell) .none kv_7 dc_7 pm_7 an_7 cd_7 ct_7), sl_7⟩)
  (fc_7 : PySem.W.codeIn K cd_7 "_law_cell" = true)
  (fk_7 : PySem.W.keepIn K (.ref f_7) = true)
  (fa_8 : PySem.W.nsIn K mainGlobals "_law_rich" = some (some (.ref f_8)))
  (fl_8 : K.lookup f_8 = some ⟨oc_8, od_8, .func (PySem.W.fnOf "_law_rich" "_law_rich" (defArgs st__law_rich) (defBody st__law_rich) (defScope st__law_rich) .none kv_8 dc_8 pm_8 an_8 cd_8 ct_8), sl_8⟩)
  (fc_8 : PySem.W.codeIn K cd_8 "_law_rich" = true)
  (fk_8 : PySem.W.keepIn K (.ref f_8) = true)
  (fa_9 : PySem.W.nsIn K mainGlobals "_law_number" = some (some (.ref f_9)))
  (fl_9 : K.lookup f_9 = some ⟨oc_9, od_9, .func (PySem.W.fnOf "_law_number" "_law_number" (defArgs st__law_number) (defBody st__law_number) (defScope st__law_number) .none kv_9 dc_9 pm_9 an_9 cd_9 ct_9), sl_9⟩)
  (fc_9 : PySem.W.codeIn K cd_9 "_law_number" = true)
  (fk_9 : PySem.W.keepIn K (.ref f_9) = true)
  (fa_10 : PySem.W.nsIn K mainGlobals "_law_refused" = some (some (.ref f_10)))
  (fl_10 : K.lookup f_10 = some ⟨oc_10, od_10, .func (PySem.W.fnOf "_law_refused" "_law_refused" (defArgs st__law_refused) (defBody st__law_refused) (defScope st__law_refused) .none kv_10 dc_10 pm_10 an_10 cd_10 ct_10), sl_10⟩)
  (fc_10 : PySem.W.codeIn K cd_10 "_law_refused" = true)
  (fk_10 : PySem.W.keepIn K (.ref f_10) = true)
  (fa_11 : PySem.W.nsIn K mainGlobals "law" = some (some (.ref f_11)))
  (fl_11 : K.lookup f_11 = some ⟨oc_11, od_11, .func (PySem.W.fnOf "law" "law" (defArgs st_law) (defBody st_law) (defScope st_law) .none kv_11 dc_11 pm_11 an_11 cd_11 ct_11), sl_11⟩)
  (fc_11 : PySem.W.codeIn K cd_11 "law" = true)
  (fk_11 : PySem.W.keepIn K (.ref f_11) = true) :
    ∃ fd : FuncData, (∀ (s : Shared) (v : Value), BindsTo s fd ⟨[v], []⟩ [("script", v)]) ∧ ∀ base : Heap, K.In base → base.Ns mainGlobals mg → FnOk P w K mg base (L2.CX P w) 6 fa fd ["script"] (spL K) := by
  have e := hfa.symm.trans (PySem.W.mg_of X G fa_11)
  cases e
  have T : Txt K mg := {
    x_BadNumber := .mk' (PySem.W.mg_of X G a_BadNumber) e_BadNumber k_BadNumber s_BadNumber t_BadNumber,
    n_abs := PySem.W.mg_none_of X G z_abs,
    n_any := PySem.W.mg_none_of X G z_any,
    n_bool := PySem.W.mg_none_of X G z_bool,
    n_int := PySem.W.mg_none_of X G z_int,
    n_isinstance := PySem.W.mg_none_of X G z_isinstance,
    n_len := PySem.W.mg_none_of X G z_len,
    n_max := PySem.W.mg_none_of X G z_max,
    n_min := PySem.W.mg_none_of X G z_min,
    n_range := PySem.W.mg_none_of X G z_range,
    n_sum := PySem.W.mg_none_of X G z_sum,
    n_tuple := PySem.W.mg_none_of X G z_tuple,
    sub_BadNumber := .cons (PySem.W.mg_of X G a_BadNumber) (PySem.W.mg_of X G a_BadNumber) (exm_of s_BadNumber i_BadNumber t_BadNumber m_BadNumber_BadNumber) (.nil),
    f_is_integer := ⟨_, _, fun_mk (st := st_is_integer) fl_0 fc_0 fk_0, PySem.W.mg_of X G fa_0⟩,
    f_check_goal := ⟨_, _, fun_mk (st := st_check_goal) fl_1 fc_1 fk_1, PySem.W.mg_of X G fa_1⟩,
    f_plain_chain := ⟨_, _, fun_mk (st := st_plain_chain) fl_2 fc_2 fk_2, PySem.W.mg_of X G fa_2⟩,
    f_signed_figures := ⟨_, _, fun_mk (st := st_signed_figures) fl_3 fc_3 fk_3, PySem.W.mg_of X G fa_3⟩,
    f_signed_chain := ⟨_, _, fun_mk (st := st_signed_chain) fl_4 fc_4 fk_4, PySem.W.mg_of X G fa_4⟩,
    f_windows := ⟨_, _, fun_mk (st := st_windows) fl_5 fc_5 fk_5, PySem.W.mg_of X G fa_5⟩,
    f_window_chain := ⟨_, _, fun_mk (st := st_window_chain) fl_6 fc_6 fk_6, PySem.W.mg_of X G fa_6⟩,
    f__law_cell := ⟨_, _, fun_mk (st := st__law_cell) fl_7 fc_7 fk_7, PySem.W.mg_of X G fa_7⟩,
    f__law_rich := ⟨_, _, fun_mk (st := st__law_rich) fl_8 fc_8 fk_8, PySem.W.mg_of X G fa_8⟩,
    f__law_number := ⟨_, _, fun_mk (st := st__law_number) fl_9 fc_9 fk_9, PySem.W.mg_of X G fa_9⟩,
    f__law_refused := ⟨_, _, fun_mk (st := st__law_refused) fl_10 fc_10 fk_10, PySem.W.mg_of X G fa_10⟩,
    f_law := ⟨_, _, fun_mk (st := st_law) fl_11 fc_11 fk_11, PySem.W.mg_of X G fa_11⟩ }
  refine ⟨PySem.W.fnOf "law" "law" (defArgs st_law) (defBody st_law) (defScope st_law) .none kv_11 dc_11 pm_11 an_11 cd_11 ct_11, fun s v => .of_eq rfl, fun base _ _ => ?_⟩
  have D_is_integer := def_is_integer (P := P) (w := w) (base := base) T
  have D_check_goal := def_check_goal (P := P) (w := w) (base := base) T D_is_integer
  have D_plain_chain := def_plain_chain (P := P) (w := w) (base := base) T D_check_goal
  have D_signed_figures := def_signed_figures (P := P) (w := w) (base := base) T D_check_goal
  have D_signed_chain := def_signed_chain (P := P) (w := w) (base := base) T D_signed_figures
  have D_windows := def_windows (P := P) (w := w) (base := base) T
  have D_window_chain := def_window_chain (P := P) (w := w) (base := base) T D_check_goal D_is_integer D_windows
  have D__law_cell := def__law_cell (P := P) (w := w) (base := base) T
  have D__law_rich := def__law_rich (P := P) (w := w) (base := base) T
  have D__law_number := def__law_number (P := P) (w := w) (base := base) T
  have D__law_refused := def__law_refused (P := P) (w := w) (base := base) T D_plain_chain D_signed_chain D_signed_figures D_window_chain
  exact (ok_law T D__law_cell D__law_number D__law_refused D__law_rich D_plain_chain D_signed_chain D_signed_figures D_window_chain (fun_mk (st := st_law) fl_11 fc_11 fk_11)).imp fun vs H Q E h => spL_of law_holds h
end G57
open PySem PySem.W PyProof.Rows
set_option maxRecDepth 100000 in
set_option maxHeartbeats 0 in
theorem PySem.Challenge.cw_chordkeep_k57_whole_chains_of_each_kind_holds : PySem.Challenge.rw_chordkeep_k57_whole_chains_of_each_kind.Holds := by
  w_on; o_law; k_head; (case hw => w_witness2)
  k_fill
  refine L2.walk_of (l := PySem.Challenge.rw_chordkeep_k57_whole_chains_of_each_kind) (n := 63) (k := 6) (x := "script") (CX := fun w => L2.CX PySem.Challenge.rw_chordkeep_k57_whole_chains_of_each_kind.prog w) (sp := fun w => DL.spL _) rfl (by decide) rfl ⟨rfl, by decide, by decide⟩ (fun w h Y => PySem.W.kIn_of Y) ?F (fun _ _ a ns hl _ hS => ⟨a, ns, rfl, hS, hl, fun _ => rfl⟩) (fun w H s e s' ⟨_, _, _, _, _, _, _, _, _, _, _, _, z⟩ => z)
  case F =>
    intro w mg fa h KX G hmg
    refine' G57.all_mk KX G hmg ?a_BadNumber ?e_BadNumber ?k_BadNumber ?s_BadNumber ?t_BadNumber ?z_abs ?z_any ?z_bool ?z_int ?z_isinstance ?z_len ?z_max ?z_min ?z_range ?z_sum ?z_tuple ?i_BadNumber ?m_BadNumber_BadNumber ?fa_0 ?fl_0 ?fc_0 ?fk_0 ?fa_1 ?fl_1 ?fc_1 ?fk_1 ?fa_2 ?fl_2 ?fc_2 ?fk_2 ?fa_3 ?fl_3 ?fc_3 ?fk_3 ?fa_4 ?fl_4 ?fc_4 ?fk_4 ?fa_5 ?fl_5 ?fc_5 ?fk_5 ?fa_6 ?fl_6 ?fc_6 ?fk_6 ?fa_7 ?fl_7 ?fc_7 ?fk_7 ?fa_8 ?fl_8 ?fc_8 ?fk_8 ?fa_9 ?fl_9 ?fc_9 ?fk_9 ?fa_10 ?fl_10 ?fc_10 ?fk_10 ?fa_11 ?fl_11 ?fc_11 ?fk_11
    (case a_BadNumber => k_is); (case e_BadNumber => first | kx_is | k_is | kernel_rfl); (case k_BadNumber => k_is); (case s_BadNumber => k_is); (case t_BadNumber => k_is); (case z_abs => k_is)
    (case z_any => k_is); (case z_bool => k_is); (case z_int => k_is); (case z_isinstance => k_is); (case z_len => k_is); (case z_max => k_is)
    (case z_min => k_is); (case z_range => k_is); (case z_sum => k_is); (case z_tuple => k_is); (case i_BadNumber => k_is); (case m_BadNumber_BadNumber => first | rfl | k_is)
    (case fa_0 => k_is); (case fl_0 => k_is); (case fc_0 => k_is); (case fk_0 => k_is); (case fa_1 => k_is); (case fl_1 => k_is)
    (case fc_1 => k_is); (case fk_1 => k_is); (case fa_2 => k_is); (case fl_2 => k_is); (case fc_2 => k_is); (case fk_2 => k_is)
    (case fa_3 => k_is); (case fl_3 => k_is); (case fc_3 => k_is); (case fk_3 => k_is); (case fa_4 => k_is); (case fl_4 => k_is)
    (case fc_4 => k_is); (case fk_4 => k_is); (case fa_5 => k_is); (case fl_5 => k_is); (case fc_5 => k_is); (case fk_5 => k_is)
    (case fa_6 => k_is); (case fl_6 => k_is); (case fc_6 => k_is); (case fk_6 => k_is); (case fa_7 => k_is); (case fl_7 => k_is)
    (case fc_7 => k_is); (case fk_7 => k_is); (case fa_8 => k_is); (case fl_8 => k_is); (case fc_8 => k_is); (case fk_8 => k_is)
    (case fa_9 => k_is); (case fl_9 => k_is); (case fc_9 => k_is); (case fk_9 => k_is); (case fa_10 => k_is); (case fl_10 => k_is)
    (case fc_10 => k_is); (case fk_10 => k_is); (case fa_11 => k_is); (case fl_11 => k_is); (case fc_11 => k_is); (case fk_11 => k_is)

