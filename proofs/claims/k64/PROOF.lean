import PyProof.Rows.All
import Wide.All
import OpenK.AllK
import Wide.FinOn
import HandS.ForMost
import HandS.AnyAll
import KE.SortData
import KE.DataMinMax
import KE.DataFind
import HandS.TupAny
import HandS.IsInst
import HandS.Style
import HandS.SetFor
import HandS.Strs
import KE.GoesEnum
import PySem.Challenge.RW_placekeep_k64_whole_orders_or_fans
set_option Elab.async false
set_option linter.all false
set_option maxRecDepth 100000
set_option maxHeartbeats 4000000
/-! G1: data, frozen and owned objects, the abstract environment. -/
namespace Pk
open PySem PySem.Spec PyProof.Rows L2

abbrev Dt := PyData
abbrev Frag := PySem.W.Frag

/-! ### heaps -/
def isTbl : HO → Bool
  | .tbl _ => true
  | _ => false
def isTup : HO → Bool
  | .tup _ => true
  | _ => false
/-- all but code tables stays -/
def Ex (H H' : Hp) : Prop := ∀ a o, H a = some o → isTbl o = false → H' a = some o
theorem Ex.refl (H : Hp) : Ex H H := fun _ _ h _ => h
theorem Ex.trans {H H1 H2 : Hp} (a : Ex H H1) (b : Ex H1 H2) : Ex H H2 := fun x o h t => b x o (a x o h t) t
theorem Ex.new {H : Hp} {p : Addr} {o : HO} (h : H p = none) : Ex H (upd H p o) := fun a u e _ => by
  rw [upd_ne (ne_of_none e h)]
  exact e
/-- a change at p of H', which H does not know -/
theorem Ex.mut {H H' : Hp} {p : Addr} {o : HO} (e : Ex H H') (h : H p = none) : Ex H (upd H' p o) := fun a u ha t => by
  rw [upd_ne (ne_of_none ha h)]
  exact e a u ha t
theorem Ex.back {H H' : Hp} {p : Addr} {o : HO} (e : Ex H H') (h : H' p = none) (hf : H p = some o) (t : isTbl o = false) : False := by
  rw [e p o hf t] at h
  cases h
theorem ex_rd {H H' : Hp} {a : Addr} {u : HO} (e : Ex H H') (t : isTbl u = false) (h : Rd H a u) : Rd H' a u := by
  rcases h with h | ⟨o, h⟩
  · exact Or.inl (e a _ h t)
  · exact Or.inr ⟨o, e a _ h rfl⟩
theorem ex_l {K : Frag} {H H' : Hp} {a : Addr} {xs : List V} (e : Ex H H') (h : SqL K H a xs) : SqL K H' a xs := by
  rcases h with h | h
  · exact Or.inl (ex_rd e rfl h)
  · exact Or.inr h
theorem ex_t {K : Frag} {H H' : Hp} {a : Addr} {xs : List V} (e : Ex H H') (h : SqT K H a xs) : SqT K H' a xs := by
  rcases h with h | h
  · exact Or.inl (ex_rd e rfl h)
  · exact Or.inr h

/-! ### data -/
/-- the greatest length of a list, a tuple, a text -/
def LN : Nat := 1000000
theorem ln_sz {n : Nat} (h : n ≤ LN) : n ≤ sizeLine := Nat.le_trans h (by decide)
theorem ln_lt {n : Nat} (h : n < LN) : n < sizeLine := Nat.lt_of_lt_of_le h (by decide)
def keyD : Key → Dt
  | .inl i => .int i
  | .inr s => .str s
def keysD (k : List Key) : Dt := .tuple (k.map keyD)
mutual
inductive Rep (K : Frag) (H : Hp) : V → Dt → Prop
  | non : Rep K H .non .none
  | bl (b : Bool) : Rep K H (.bl b) (.bool b)
  | int (i : Int) : Rep K H (.int i) (.int i)
  | str (x : Str) : x.length ≤ LN → Rep K H (.str x) (.str x)
  | lst {a : Addr} {xs : List V} {ds : List Dt} : SqL K H a xs → ds.length ≤ LN → RepL K H xs ds → Rep K H (.ref a) (.list ds)
  | tup {a : Addr} {xs : List V} {ds : List Dt} : SqT K H a xs → ds.length ≤ LN → RepL K H xs ds → Rep K H (.ref a) (.tuple ds)
  | dK {a : Addr} {kvs : List (Key × V)} {ps : List (Dt × Dt)} : H a = some (.dK kvs) → RepK K H kvs ps → Rep K H (.ref a) (.dict ps)
  | dT {a : Addr} {kvs : List (List Key × V)} {ps : List (Dt × Dt)} : H a = some (.dT kvs) → RepT K H kvs ps → Rep K H (.ref a) (.dict ps)
inductive RepL (K : Frag) (H : Hp) : List V → List Dt → Prop
  | nil : RepL K H [] []
  | cons {v : V} {vs : List V} {d : Dt} {ds : List Dt} : Rep K H v d → RepL K H vs ds → RepL K H (v :: vs) (d :: ds)
inductive RepK (K : Frag) (H : Hp) : List (Key × V) → List (Dt × Dt) → Prop
  | nil : RepK K H [] []
  | cons {k : Key} {v : V} {kvs : List (Key × V)} {d : Dt} {ps : List (Dt × Dt)} : Rep K H v d → RepK K H kvs ps → RepK K H ((k, v) :: kvs) ((keyD k, d) :: ps)
inductive RepT (K : Frag) (H : Hp) : List (List Key × V) → List (Dt × Dt) → Prop
  | nil : RepT K H [] []
  | cons {k : List Key} {v : V} {kvs : List (List Key × V)} {d : Dt} {ps : List (Dt × Dt)} : Rep K H v d → RepT K H kvs ps → RepT K H ((k, v) :: kvs) ((keysD k, d) :: ps)
end
mutual
theorem Rep.mono {K : Frag} {H H' : Hp} (e : Ex H H') : ∀ {v : V} {d : Dt}, Rep K H v d → Rep K H' v d
  | _, _, .non => .non
  | _, _, .bl b => .bl b
  | _, _, .int i => .int i
  | _, _, .str x l => .str x l
  | _, _, .lst h l r => .lst (ex_l e h) l (RepL.mono e r)
  | _, _, .tup h l r => .tup (ex_t e h) l (RepL.mono e r)
  | _, _, .dK h r => .dK (e _ _ h rfl) (RepK.mono e r)
  | _, _, .dT h r => .dT (e _ _ h rfl) (RepT.mono e r)
theorem RepL.mono {K : Frag} {H H' : Hp} (e : Ex H H') : ∀ {v : List V} {d : List Dt}, RepL K H v d → RepL K H' v d
  | _, _, .nil => .nil
  | _, _, .cons h r => .cons (Rep.mono e h) (RepL.mono e r)
theorem RepK.mono {K : Frag} {H H' : Hp} (e : Ex H H') : ∀ {v : List (Key × V)} {d : List (Dt × Dt)}, RepK K H v d → RepK K H' v d
  | _, _, .nil => .nil
  | _, _, .cons h r => .cons (Rep.mono e h) (RepK.mono e r)
theorem RepT.mono {K : Frag} {H H' : Hp} (e : Ex H H') : ∀ {v : List (List Key × V)} {d : List (Dt × Dt)}, RepT K H v d → RepT K H' v d
  | _, _, .nil => .nil
  | _, _, .cons h r => .cons (Rep.mono e h) (RepT.mono e r)
end
section
variable {K : Frag} {H H' : Hp} {v w : V} {vs ws : List V} {d : Dt} {ds es : List Dt}
theorem RepL.length : ∀ {vs : List V} {ds : List Dt}, RepL K H vs ds → vs.length = ds.length
  | _, _, .nil => rfl
  | _, _, .cons _ r => congrArg (· + 1) (RepL.length r)
theorem RepL.get : ∀ {vs : List V} {ds : List Dt} {i : Nat} {v : V} {d : Dt}, RepL K H vs ds → vs[i]? = some v → ds[i]? = some d → Rep K H v d
  | _, _, _, _, _, .nil, h, _ => by cases h
  | _, _, 0, _, _, .cons r _, h, g => by
    cases h
    cases g
    exact r
  | _, _, i + 1, _, _, .cons _ r, h, g => RepL.get (i := i) r h g
theorem RepL.getV : ∀ {vs : List V} {ds : List Dt} {i : Nat} {v : V}, RepL K H vs ds → vs[i]? = some v → ∃ d, ds[i]? = some d ∧ Rep K H v d
  | _, _, _, _, .nil, h => by cases h
  | _, _, 0, _, .cons r _, h => by
    cases h
    exact ⟨_, rfl, r⟩
  | _, _, i + 1, _, .cons _ r, h => RepL.getV (i := i) r h
theorem RepL.getD : ∀ {vs : List V} {ds : List Dt} {i : Nat} {d : Dt}, RepL K H vs ds → ds[i]? = some d → ∃ v, vs[i]? = some v ∧ Rep K H v d
  | _, _, _, _, .nil, h => by cases h
  | _, _, 0, _, .cons r _, h => by
    cases h
    exact ⟨_, rfl, r⟩
  | _, _, i + 1, _, .cons _ r, h => RepL.getD (i := i) r h
theorem RepL.append : ∀ {vs ws : List V} {ds es : List Dt}, RepL K H vs ds → RepL K H ws es → RepL K H (vs ++ ws) (ds ++ es)
  | _, _, _, _, .nil, s => s
  | _, _, _, _, .cons h r, s => .cons h (RepL.append r s)
theorem RepL.one (h : Rep K H v d) : RepL K H [v] [d] := .cons h .nil
theorem RepL.take : ∀ {vs : List V} {ds : List Dt} (n : Nat), RepL K H vs ds → RepL K H (vs.take n) (ds.take n)
  | _, _, 0, _ => .nil
  | _, _, _ + 1, .nil => .nil
  | _, _, n + 1, .cons h r => .cons h (RepL.take n r)
theorem RepL.drop : ∀ {vs : List V} {ds : List Dt} (n : Nat), RepL K H vs ds → RepL K H (vs.drop n) (ds.drop n)
  | _, _, 0, r => r
  | _, _, _ + 1, .nil => .nil
  | _, _, n + 1, .cons _ r => RepL.drop n r
theorem RepL.set : ∀ {vs : List V} {ds : List Dt} (n : Nat), Rep K H v d → RepL K H vs ds → RepL K H (vs.set n v) (ds.set n d)
  | _, _, _, _, .nil => .nil
  | _, _, 0, h, .cons _ r => .cons h r
  | _, _, n + 1, h, .cons q r => .cons q (RepL.set n h r)
theorem RepL.reverse : ∀ {vs : List V} {ds : List Dt}, RepL K H vs ds → RepL K H vs.reverse ds.reverse
  | _, _, .nil => .nil
  | _, _, .cons h r => by
    rw [List.reverse_cons, List.reverse_cons]
    exact (RepL.reverse r).append (.one h)
theorem RepL.erase : ∀ {vs : List V} {ds : List Dt} (n : Nat), RepL K H vs ds → RepL K H (vs.eraseIdx n) (ds.eraseIdx n)
  | _, _, _, .nil => .nil
  | _, _, 0, .cons _ r => r
  | _, _, n + 1, .cons q r => .cons q (RepL.erase n r)
theorem RepL.dropLast : ∀ {vs : List V} {ds : List Dt}, RepL K H vs ds → RepL K H vs.dropLast ds.dropLast
  | _, _, .nil => .nil
  | _, _, .cons _ .nil => .nil
  | _, _, .cons h (.cons g r) => .cons h (RepL.dropLast (.cons g r))
theorem Rep.int_of (h : Rep K H v (.int i)) : v = .int i := by cases h; rfl
theorem Rep.bl_of {b : Bool} (h : Rep K H v (.bool b)) : v = .bl b := by cases h; rfl
theorem Rep.str_of {s : Str} (h : Rep K H v (.str s)) : v = .str s := by cases h; rfl
theorem Rep.str_len {s : Str} (h : Rep K H v (.str s)) : s.length ≤ LN := by
  cases h with
  | str _ l => exact l
theorem Rep.non_of (h : Rep K H v .none) : v = .non := by cases h; rfl
theorem Rep.tup_of (h : Rep K H v (.tuple ds)) : ∃ a xs, v = .ref a ∧ SqT K H a xs ∧ RepL K H xs ds := by
  cases h with
  | tup a _ b => exact ⟨_, _, rfl, a, b⟩
theorem Rep.tup_len (h : Rep K H v (.tuple ds)) : ds.length ≤ LN := by
  cases h with
  | tup _ l _ => exact l
theorem Rep.lst_len (h : Rep K H v (.list ds)) : ds.length ≤ LN := by
  cases h with
  | lst _ l _ => exact l
theorem Rep.lst_of (h : Rep K H v (.list ds)) : ∃ a xs, v = .ref a ∧ SqL K H a xs ∧ RepL K H xs ds := by
  cases h with
  | lst a _ b => exact ⟨_, _, rfl, a, b⟩
theorem RepL.nil_of (h : RepL K H vs []) : vs = [] := by cases h; rfl
theorem RepL.cons_of (h : RepL K H vs (d :: ds)) : ∃ v r, vs = v :: r ∧ Rep K H v d ∧ RepL K H r ds := by
  cases h with
  | cons a b => exact ⟨_, _, rfl, a, b⟩
theorem RepL.one_of (h : RepL K H vs [d]) : ∃ v, vs = [v] ∧ Rep K H v d := by
  obtain ⟨v, r, rfl, a, b⟩ := h.cons_of
  rw [b.nil_of]
  exact ⟨v, rfl, a⟩
theorem RepL.two_of {d e : Dt} (h : RepL K H vs [d, e]) : ∃ v w, vs = [v, w] ∧ Rep K H v d ∧ Rep K H w e := by
  obtain ⟨v, r, rfl, a, b⟩ := h.cons_of
  obtain ⟨w, rfl, c⟩ := b.one_of
  exact ⟨v, w, rfl, a, c⟩
end
/-! no list and no dict within -/
mutual
def noL : Dt → Bool
  | .none => true
  | .bool _ => true
  | .int _ => true
  | .str _ => true
  | .list _ => false
  | .tuple xs => noLs xs
  | .dict _ => false
def noLs : List Dt → Bool
  | [] => true
  | x :: xs => noL x && noLs xs
end
/-- the frozen part once all tuples of H are frozen -/
def tupsOf (Hf H : Hp) : Hp := fun a => match H a with
  | some (.tup xs) => some (.tup xs)
  | some (.frz o u) => some (.frz o u)
  | _ => Hf a
theorem tupsOf_l {Hf H : Hp} (e : Ex Hf H) : Ex Hf (tupsOf Hf H) := fun a o h t => by
  have q := e a o h t
  unfold tupsOf
  rw [q]
  cases o <;> first | rfl | exact h
theorem tupsOf_r {Hf H : Hp} (e : Ex Hf H) : Ex (tupsOf Hf H) H := fun a o h t => by
  unfold tupsOf at h
  split at h
  · rename_i q
    rw [q]
    exact h
  · rename_i q
    rw [q]
    exact h
  · exact e a o h t
theorem tupsOf_t {K : Frag} {Hf H : Hp} {a : Addr} {xs : List V} (h : SqT K H a xs) : SqT K (tupsOf Hf H) a xs := by
  rcases h with (h | ⟨o, h⟩) | h
  · refine .inl (.inl ?_)
    unfold tupsOf
    rw [h]
  · refine .inl (.inr ⟨o, ?_⟩)
    unfold tupsOf
    rw [h]
  · exact .inr h
mutual
theorem Rep.tups {K : Frag} {Hf H : Hp} : ∀ (d : Dt) {v : V}, noL d = true → Rep K H v d → Rep K (tupsOf Hf H) v d
  | .none, _, _, h => by
    cases h
    exact .non
  | .bool _, _, _, h => by
    cases h
    exact .bl _
  | .int _, _, _, h => by
    cases h
    exact .int _
  | .str _, _, _, h => by
    cases h with
    | str _ l => exact .str _ l
  | .list _, _, n, _ => by
    simp [noL] at n
  | .tuple ds, _, n, h => by
    cases h with
    | tup a l b => exact .tup (tupsOf_t a) l (RepL.tups ds (by simpa [noL] using n) b)
  | .dict _, _, n, _ => by
    simp [noL] at n
theorem RepL.tups {K : Frag} {Hf H : Hp} : ∀ (ds : List Dt) {vs : List V}, noLs ds = true → RepL K H vs ds → RepL K (tupsOf Hf H) vs ds
  | [], _, _, h => by
    cases h
    exact .nil
  | d :: ds, _, n, h => by
    cases h with
    | cons a b =>
      have n' : noL d = true ∧ noLs ds = true := by simpa [noLs] using n
      exact .cons (Rep.tups d n'.1 a) (RepL.tups ds n'.2 b)
end
end Pk

set_option Elab.async false
set_option linter.all false
set_option maxRecDepth 100000
set_option maxHeartbeats 1000000
/-! G2: the judgements and their base. -/
namespace Pk
open PySem PySem.Spec PyProof.Rows L2 GxR

def isMu : HO → Bool
  | .lst _ => true
  | .dK _ => true
  | .dT _ => true
  | .set _ _ => true
  | .ins _ _ _ => true
  | _ => false
theorem mu_tbl {o : HO} (h : isMu o = true) : isTbl o = false := by cases o <;> first | rfl | cases h

/-! ### owned objects -/
inductive Ob where
  | lst (xs : List Dt)
  | dic (ps : List (Dt × Dt))
  | lol (xss : List (List Dt))
inductive LoL (K : Frag) (Hf H : Hp) : List Addr → List (List Dt) → Prop
  | nil : LoL K Hf H [] []
  | cons {q : Addr} {qs : List Addr} {ws : List V} {xs : List Dt} {xss : List (List Dt)} : H q = some (.lst ws) → RepL K Hf ws xs → xs.length ≤ LN → LoL K Hf H qs xss → LoL K Hf H (q :: qs) (xs :: xss)
def Own (K : Frag) (Hf H : Hp) (v : V) : Ob → List Addr → Prop
  | .lst xs, fp => ∃ p vs, v = .ref p ∧ fp = [p] ∧ H p = some (.lst vs) ∧ RepL K Hf vs xs ∧ xs.length ≤ LN
  | .dic ps, fp => ∃ p, v = .ref p ∧ fp = [p] ∧ ((∃ kvs, H p = some (.dK kvs) ∧ RepK K Hf kvs ps) ∨ ∃ kvs, H p = some (.dT kvs) ∧ RepT K Hf kvs ps)
  | .lol xss, fp => ∃ p qs, v = .ref p ∧ fp = p :: qs ∧ H p = some (.lst (qs.map V.ref)) ∧ LoL K Hf H qs xss ∧ xss.length ≤ LN
theorem LoL.mono {K : Frag} {Hf H Hf' H' : Hp} (ef : Ex Hf Hf') : ∀ {qs : List Addr} {xss : List (List Dt)}, (∀ a, a ∈ qs → H' a = H a) → LoL K Hf H qs xss → LoL K Hf' H' qs xss
  | _, _, _, .nil => .nil
  | _, _, h, .cons a b l c => .cons ((h _ List.mem_cons_self).trans a) (b.mono ef) l (LoL.mono ef (fun a ha => h a (List.mem_cons_of_mem _ ha)) c)
theorem LoL.there {K : Frag} {Hf H : Hp} : ∀ {qs : List Addr} {xss : List (List Dt)}, LoL K Hf H qs xss → ∀ a, a ∈ qs → ∃ o, H a = some o ∧ isMu o = true
  | _, _, .nil, a, h => by cases h
  | _, _, .cons x _ _ z, a, h => by
    rcases List.mem_cons.mp h with rfl | h
    · exact ⟨_, x, rfl⟩
    · exact LoL.there z a h
theorem Own.mono {K : Frag} {Hf H Hf' H' : Hp} {v : V} {o : Ob} {fp : List Addr} (ef : Ex Hf Hf') (h : ∀ a, a ∈ fp → H' a = H a) (w : Own K Hf H v o fp) : Own K Hf' H' v o fp := by
  cases o with
  | lst xs =>
    obtain ⟨p, vs, rfl, rfl, a, b, l⟩ := w
    exact ⟨p, vs, rfl, rfl, (h p (by simp)).trans a, b.mono ef, l⟩
  | dic ps =>
    obtain ⟨p, rfl, rfl, w⟩ := w
    refine ⟨p, rfl, rfl, ?_⟩
    rcases w with ⟨kvs, a, b⟩ | ⟨kvs, a, b⟩
    · exact .inl ⟨kvs, (h p (by simp)).trans a, b.mono ef⟩
    · exact .inr ⟨kvs, (h p (by simp)).trans a, b.mono ef⟩
  | lol xss =>
    obtain ⟨p, qs, rfl, rfl, a, b, l⟩ := w
    exact ⟨p, qs, rfl, rfl, (h p (by simp)).trans a, b.mono ef fun a ha => h a (by simp [ha]), l⟩
theorem Own.there {K : Frag} {Hf H : Hp} {v : V} {o : Ob} {fp : List Addr} (w : Own K Hf H v o fp) : ∀ a, a ∈ fp → ∃ u, H a = some u ∧ isMu u = true := by
  intro a ha
  cases o with
  | lst xs =>
    obtain ⟨p, vs, rfl, rfl, x, b, l⟩ := w
    cases List.mem_singleton.mp ha
    exact ⟨_, x, rfl⟩
  | dic ps =>
    obtain ⟨p, rfl, rfl, w⟩ := w
    cases List.mem_singleton.mp ha
    rcases w with ⟨kvs, x, b⟩ | ⟨kvs, x, b⟩ <;> exact ⟨_, x, rfl⟩
  | lol xss =>
    obtain ⟨p, qs, rfl, rfl, x, b, l⟩ := w
    rcases List.mem_cons.mp ha with rfl | ha
    · exact ⟨_, x, rfl⟩
    · exact b.there a ha

/-! ### steps of the heap -/
abbrev Tbs := Addr → Prop
/-- what is frozen stands so in the heap, and is no code table -/
def Le (Hf H : Hp) : Prop := ∀ a o, Hf a = some o → H a = some o ∧ isTbl o = false
theorem Le.ex {Hf H : Hp} (e : Le Hf H) : Ex Hf H := fun a o h _ => (e a o h).1
theorem Le.ext {Hf H H' : Hp} (e : Le Hf H) (x : Ex H H') : Le Hf H' := fun a o h => ⟨x a o (e a o h).1 (e a o h).2, (e a o h).2⟩
theorem Le.free {Hf H : Hp} (e : Le Hf H) {p : Addr} (h : H p = none) : Hf p = none := by
  cases q : Hf p with
  | none => rfl
  | some o =>
    have := (e p o q).1
    rw [h] at this
    cases this
theorem Le.both {Hf H : Hp} (e : Le Hf H) {p : Addr} {o : HO} (t : isTbl o = false) : Le (upd Hf p o) (upd H p o) := fun a u h => by
  by_cases ha : a = p
  · subst ha
    rw [upd_same] at h
    cases h
    exact ⟨upd_same, t⟩
  · rw [upd_ne ha] at h
    rw [upd_ne ha]
    exact e a u h
theorem Le.grow {Hf H : Hp} (e : Le Hf H) {p : Addr} {o : HO} (h : Hf p = none) : Le Hf (upd H p o) := fun a u g => by
  rw [upd_ne (ne_of_none g h)]
  exact e a u g
theorem tab_upd {H : Hp} {p : Addr} {o : HO} {P : Addr} (t : TabG H P) (h : ∀ ps, H p ≠ some (.tbl ps)) : TabG (upd H p o) P := by
  obtain ⟨ps, e, r⟩ := t
  refine ⟨ps, ?_, r⟩
  rw [upd_ne]
  · exact e
  · intro z
    rw [z] at e
    exact h ps e
structure Ext (Tb : Tbs) (Hf H Hf' H' : Hp) : Prop where
  ff : Ex Hf Hf'
  hh : Ex H H'
  fh : Le Hf' H'
  sp : ∀ a o, H a = some o → isMu o = true → Hf a = none → Hf' a = none
  li : ∀ a, H a ≠ none → H' a ≠ none
  tb : ∀ P, Tb P → TabG H' P
theorem Ext.trans {Tb : Tbs} {A B C D E F : Hp} (x : Ext Tb A B C D) (y : Ext Tb C D E F) : Ext Tb A B E F where
  ff := x.ff.trans y.ff
  hh := x.hh.trans y.hh
  fh := y.fh
  sp := fun a o h m n => y.sp a o (x.hh a o h (mu_tbl m)) m (x.sp a o h m n)
  li := fun a h => y.li a (x.li a h)
  tb := y.tb
section
variable {Tb : Tbs} {Hf H : Hp} {p : Addr} {o : HO}
/-- a new object, frozen -/
theorem Ext.fz (e : Le Hf H) (tb : ∀ P, Tb P → TabG H P) (h : H p = none) (t : isTbl o = false) : Ext Tb Hf H (upd Hf p o) (upd H p o) where
  ff := Ex.new (e.free h)
  hh := Ex.new h
  fh := e.both t
  sp := fun a u g m n => by
    rw [upd_ne (ne_of_none g h)]
    exact n
  li := fun a g => by
    unfold upd
    split
    · simp
    · exact g
  tb := fun P q => tab_upd (tb P q) fun ps z => by rw [h] at z; cases z
/-- a new object, owned -/
theorem Ext.ow (e : Le Hf H) (tb : ∀ P, Tb P → TabG H P) (h : H p = none) : Ext Tb Hf H Hf (upd H p o) where
  ff := Ex.refl _
  hh := Ex.new h
  fh := e.grow (e.free h)
  sp := fun a u g m n => n
  li := fun a g => by
    unfold upd
    split
    · simp
    · exact g
  tb := fun P q => tab_upd (tb P q) fun ps z => by rw [h] at z; cases z
end
/-- what a def may rely on: f frozen, h the heap, m what it may change -/
structure Bs where
  f : Hp
  h : Hp
  m : Addr → Prop
structure Bk (Tb : Tbs) (B : Bs) (Hf H : Hp) : Prop where
  fh : Le Hf H
  tb : ∀ P, Tb P → TabG H P
  bf : Ex B.f Hf
  bh : ∀ a o, B.h a = some o → isTbl o = false → ¬ B.m a → H a = some o
  bl : ∀ a, B.h a ≠ none → H a ≠ none
  bs : ∀ a o, B.h a = some o → isMu o = true → ¬ B.m a → B.f a = none → Hf a = none
theorem Bk.refl {Tb : Tbs} {B : Bs} {Hf H : Hp} (b : Bk Tb B Hf H) : Ext Tb Hf H Hf H := ⟨Ex.refl _, Ex.refl _, b.fh, fun _ _ _ _ h => h, fun _ h => h, b.tb⟩

inductive Slot where
  | any
  | fz (d : Dt)
  | ow (o : Ob)
def SlotAt (K : Frag) (Hf H : Hp) (x : Option (Option V)) : Slot → List Addr → Prop
  | .any, _ => True
  | .fz d, _ => ∃ v, x = some (some v) ∧ Rep K Hf v d
  | .ow o, fp => ∃ v, x = some (some v) ∧ Own K Hf H v o fp
structure En (K : Frag) (Tb : Tbs) (B : Bs) (Hf H : Hp) (σ : L2.St) (ds : List Slot) : Prop extends Bk Tb B Hf H where
  ln : σ.length = ds.length
  sl : ∃ fp : Nat → List Addr, (∀ i s, ds[i]? = some s → SlotAt K Hf H σ[i]? s (fp i)) ∧ (∀ i j a, a ∈ fp i → a ∈ fp j → i = j) ∧ (∀ i, (fp i).Nodup) ∧
    ∀ i a, a ∈ fp i → (∃ o, H a = some o ∧ isMu o = true) ∧ Hf a = none ∧ (B.h a = none ∨ B.m a)
section
variable {K : Frag} {Tb : Tbs} {B : Bs} {Hf H Hf' H' : Hp} {σ : L2.St} {ds : List Slot}
/-- the owned addresses of an environment stay out of what is frozen; an evaluation that changes nothing that stood -/
theorem En.ext (E : En K Tb B Hf H σ ds) (x : Ext Tb Hf H Hf' H') : En K Tb B Hf' H' σ ds where
  fh := x.fh
  tb := x.tb
  bf := E.bf.trans x.ff
  bh := fun a o h t m => x.hh a o (E.bh a o h t m) t
  bl := fun a h => x.li a (E.bl a h)
  bs := fun a o h m nm n => x.sp a o (E.bh a o h (mu_tbl m) nm) m (E.bs a o h m nm n)
  ln := E.ln
  sl := by
    obtain ⟨fp, h1, h2, h3, h4⟩ := E.sl
    refine ⟨fp, fun i s hi => ?_, h2, h3, fun i a ha => ?_⟩
    · have q := h1 i s hi
      cases s with
      | any => trivial
      | fz d =>
        obtain ⟨v, e, r⟩ := q
        exact ⟨v, e, r.mono x.ff⟩
      | ow o =>
        obtain ⟨v, e, w⟩ := q
        refine ⟨v, e, w.mono x.ff fun a ha => ?_⟩
        obtain ⟨⟨u, hu, hm⟩, _⟩ := h4 i a ha
        rw [hu, x.hh a u hu (mu_tbl hm)]
    · obtain ⟨⟨u, hu, hm⟩, hn, hb⟩ := h4 i a ha
      exact ⟨⟨u, x.hh a u hu (mu_tbl hm), hm⟩, x.sp a u hu hm hn, hb⟩
end

/-! ### what may be read: frozen, or an object of the heap with frozen items -/
inductive Rs (K : Frag) (Hf H : Hp) : V → Dt → Prop
  | fz {v : V} {d : Dt} : Rep K Hf v d → Rs K Hf H v d
  | lst {a : Addr} {xs : List V} {ds : List Dt} : SqL K H a xs → ds.length ≤ LN → RepL K Hf xs ds → Rs K Hf H (.ref a) (.list ds)
  | dK {a : Addr} {kvs : List (Key × V)} {ps : List (Dt × Dt)} : H a = some (.dK kvs) → RepK K Hf kvs ps → Rs K Hf H (.ref a) (.dict ps)
  | dT {a : Addr} {kvs : List (List Key × V)} {ps : List (Dt × Dt)} : H a = some (.dT kvs) → RepT K Hf kvs ps → Rs K Hf H (.ref a) (.dict ps)
theorem Rs.ext {K : Frag} {Tb : Tbs} {Hf H Hf' H' : Hp} {v : V} {d : Dt} (x : Ext Tb Hf H Hf' H') (r : Rs K Hf H v d) : Rs K Hf' H' v d := by
  cases r with
  | fz h => exact .fz (h.mono x.ff)
  | lst h l r => exact .lst (ex_l x.hh h) l (r.mono x.ff)
  | dK h r => exact .dK (x.hh _ _ h rfl) (r.mono x.ff)
  | dT h r => exact .dT (x.hh _ _ h rfl) (r.mono x.ff)
section
variable {K : Frag} {Hf H : Hp} {v : V}
theorem Rs.int_of {i : Int} (h : Rs K Hf H v (.int i)) : v = .int i := by
  cases h with
  | fz h => exact h.int_of
theorem Rs.bl_of {i : Bool} (h : Rs K Hf H v (.bool i)) : v = .bl i := by
  cases h with
  | fz h => exact h.bl_of
theorem Rs.str_of {i : Str} (h : Rs K Hf H v (.str i)) : v = .str i := by
  cases h with
  | fz h => exact h.str_of
theorem Rs.str_len {i : Str} (h : Rs K Hf H v (.str i)) : i.length ≤ LN := by
  cases h with
  | fz h => exact h.str_len
theorem Rs.tup_len {ds : List Dt} (h : Rs K Hf H v (.tuple ds)) : ds.length ≤ LN := by
  cases h with
  | fz h => exact h.tup_len
theorem Rs.lst_len {ds : List Dt} (h : Rs K Hf H v (.list ds)) : ds.length ≤ LN := by
  cases h with
  | fz h => exact h.lst_len
  | lst _ l _ => exact l
theorem Rs.non_of (h : Rs K Hf H v .none) : v = .non := by
  cases h with
  | fz h => exact h.non_of
theorem Rs.tup_of (e : Le Hf H) {ds : List Dt} (h : Rs K Hf H v (.tuple ds)) : ∃ a xs, v = .ref a ∧ SqT K H a xs ∧ RepL K Hf xs ds := by
  cases h with
  | fz h =>
    obtain ⟨a, xs, rfl, x, y⟩ := h.tup_of
    exact ⟨a, xs, rfl, ex_t e.ex x, y⟩
theorem Rs.lst_of (e : Le Hf H) {ds : List Dt} (h : Rs K Hf H v (.list ds)) : ∃ a xs, v = .ref a ∧ SqL K H a xs ∧ RepL K Hf xs ds := by
  cases h with
  | fz h =>
    obtain ⟨a, xs, rfl, x, y⟩ := h.lst_of
    exact ⟨a, xs, rfl, ex_l e.ex x, y⟩
  | lst x _ y => exact ⟨_, _, rfl, x, y⟩
theorem Rs.dic_of (e : Le Hf H) {ps : List (Dt × Dt)} (h : Rs K Hf H v (.dict ps)) : ∃ a, v = .ref a ∧ ((∃ kvs, H a = some (.dK kvs) ∧ RepK K Hf kvs ps) ∨ ∃ kvs, H a = some (.dT kvs) ∧ RepT K Hf kvs ps) := by
  cases h with
  | fz h =>
    cases h with
    | dK x y => exact ⟨_, rfl, .inl ⟨_, (e _ _ x).1, y⟩⟩
    | dT x y => exact ⟨_, rfl, .inr ⟨_, (e _ _ x).1, y⟩⟩
  | dK x y => exact ⟨_, rfl, .inl ⟨_, x, y⟩⟩
  | dT x y => exact ⟨_, rfl, .inr ⟨_, x, y⟩⟩
/-- over a heap that is frozen as a whole -/
theorem Rs.rep (e : Ex Hf H) (nt : ∀ a ps, H a ≠ some (.tbl ps)) {d : Dt} (h : Rs K Hf H v d) : Rep K H v d := by
  cases h with
  | fz h => exact h.mono e
  | lst x l y => exact .lst x l (y.mono e)
  | dK x y => exact .dK x (y.mono e)
  | dT x y => exact .dT x (y.mono e)
end

/-! ### the judgements -/
def tMax (X : Cx) (e : Expr) : TE := fun σ H Q => ∃ t, PE X e t ∧ t σ H Q
def tMaxT (X : Cx) (e : Expr) : TT := fun σ H Q => ∃ t, PT X e t ∧ t σ H Q
def tMaxW (X : Cx) (e : Expr) : TT := fun σ H Q => ∃ t, PW X e t ∧ t σ H Q
def tMaxA (X : Cx) (es : List Expr) : TA := fun σ H Q => ∃ t, PA X es t ∧ t σ H Q
def tMaxS (X : Cx) (st : Stmt) : TS := fun D σ H => ∃ t, PS X st t ∧ t D σ H
def tMaxB (X : Cx) (sts : List Stmt) : TS := fun D σ H => ∃ t, PSs X sts t ∧ t D σ H
def tMaxI (X : Cx) (tg it : Expr) : TI := fun σ H R => ∃ t, PI X tg it t ∧ t σ H R
def tMaxG (X : Cx) (tg : Expr) : TG := fun v σ H Q => ∃ t, PG X tg t ∧ t v σ H Q
section
variable {X : Cx} {e tg : Expr} {es : List Expr} {st : Stmt} {sts : List Stmt}
theorem pe_max : PE X e (tMax X e) := ⟨fun pins s σ H Q I ⟨_, h, q⟩ => h.run pins s σ H Q I q⟩
theorem pt_max : PT X e (tMaxT X e) := ⟨fun pins s σ H Q I ⟨_, h, q⟩ => h.run pins s σ H Q I q⟩
theorem pw_max : PW X e (tMaxW X e) := ⟨fun wh pins s σ H Q I ⟨_, h, q⟩ => h.run wh pins s σ H Q I q⟩
theorem pa_max : PA X es (tMaxA X es) := ⟨fun pos pins s σ H Q I ⟨_, h, q⟩ => h.run pos pins s σ H Q I q⟩
theorem ps_max : PS X st (tMaxS X st) := ⟨fun pins s σ H Q I ⟨_, h, q⟩ => h.run pins s σ H Q I q⟩
theorem pss_max : PSs X sts (tMaxB X sts) := ⟨fun pins s σ H Q I ⟨_, h, q⟩ => h.run pins s σ H Q I q⟩
theorem pi_max : PI X tg e (tMaxI X tg e) := ⟨fun pins s σ H Q I ⟨_, h, q⟩ => h.run pins s σ H Q I q⟩
theorem pg_max : PG X tg (tMaxG X tg) := ⟨fun pins s σ H v u Q I r ⟨_, h, q⟩ => h.run pins s σ H v u Q I r q⟩
end
/-- a value that stands for d comes, all that stood stands -/
abbrev Vk (Tb : Tbs) (K : Frag) (Hf H : Hp) (d : Dt) (Q : VK) : Prop := ∀ v Hf' H', Ext Tb Hf H Hf' H' → Rep K Hf' v d → Q v H'
abbrev Vr (Tb : Tbs) (K : Frag) (Hf H : Hp) (d : Dt) (Q : VK) : Prop := ∀ v Hf' H', Ext Tb Hf H Hf' H' → Rs K Hf' H' v d → Q v H'
abbrev Vo (Tb : Tbs) (K : Frag) (Hf H : Hp) (o : Ob) (Q : VK) : Prop := ∀ v Hf' H' fp, Ext Tb Hf H Hf' H' → Own K Hf' H' v o fp → fp.Nodup → (∀ a, a ∈ fp → H a = none ∧ Hf' a = none) → Q v H'
def XP (Tb : Tbs) (X : Cx) (e : Expr) (ds : List Slot) (d : Dt) : Prop := ∀ B σ Hf H, En X.K Tb B Hf H σ ds → ∀ Q : VK, Vk Tb X.K Hf H d Q → tMax X e σ H Q
def XR (Tb : Tbs) (X : Cx) (e : Expr) (ds : List Slot) (d : Dt) : Prop := ∀ B σ Hf H, En X.K Tb B Hf H σ ds → ∀ Q : VK, Vr Tb X.K Hf H d Q → tMax X e σ H Q
def XO (Tb : Tbs) (X : Cx) (e : Expr) (ds : List Slot) (o : Ob) : Prop := ∀ B σ Hf H, En X.K Tb B Hf H σ ds → ∀ Q : VK, Vo Tb X.K Hf H o Q → tMax X e σ H Q
def XT (Tb : Tbs) (X : Cx) (e : Expr) (ds : List Slot) (b : Bool) : Prop := ∀ B σ Hf H, En X.K Tb B Hf H σ ds → ∀ Q : Bool → Hp → Prop, (∀ Hf' H', Ext Tb Hf H Hf' H' → Q b H') → tMaxT X e σ H Q
def XW (Tb : Tbs) (X : Cx) (e : Expr) (ds : List Slot) (b : Bool) : Prop := ∀ B σ Hf H, En X.K Tb B Hf H σ ds → ∀ Q : Bool → Hp → Prop, (∀ Hf' H', Ext Tb Hf H Hf' H' → Q b H') → tMaxW X e σ H Q
def XA (Tb : Tbs) (X : Cx) (es : List Expr) (ds : List Slot) (ys : List Dt) : Prop := ∀ B σ Hf H, En X.K Tb B Hf H σ ds → ∀ Q : List V → Hp → Prop, (∀ vs Hf' H', Ext Tb Hf H Hf' H' → RepL X.K Hf' vs ys → Q vs H') → tMaxA X es σ H Q
inductive RsL (K : Frag) (Hf H : Hp) : List V → List Dt → Prop
  | nil : RsL K Hf H [] []
  | cons {v : V} {vs : List V} {d : Dt} {ds : List Dt} : Rs K Hf H v d → RsL K Hf H vs ds → RsL K Hf H (v :: vs) (d :: ds)
theorem RsL.ext {K : Frag} {Tb : Tbs} {Hf H Hf' H' : Hp} (x : Ext Tb Hf H Hf' H') : ∀ {vs : List V} {ds : List Dt}, RsL K Hf H vs ds → RsL K Hf' H' vs ds
  | _, _, .nil => .nil
  | _, _, .cons a b => .cons (a.ext x) (RsL.ext x b)
def XAR (Tb : Tbs) (X : Cx) (es : List Expr) (ds : List Slot) (ys : List Dt) : Prop := ∀ B σ Hf H, En X.K Tb B Hf H σ ds → ∀ Q : List V → Hp → Prop, (∀ vs Hf' H', Ext Tb Hf H Hf' H' → RsL X.K Hf' H' vs ys → Q vs H') → tMaxA X es σ H Q

inductive Ro where
  | fz (d : Dt)
  | ow (o : Ob)
/-- how a result stands -/
def RetV (K : Frag) (Hf H : Hp) (B : Bs) (v : V) : Ro → Prop
  | .fz d => Rep K Hf v d
  | .ow o => ∃ fp, Own K Hf H v o fp ∧ fp.Nodup ∧ ∀ a, a ∈ fp → (B.h a = none ∨ B.m a) ∧ Hf a = none
structure Po where
  nx : List Slot → Prop
  rt : Ro → Prop
  bk : List Slot → Prop
  ct : List Slot → Prop
structure Acc (K : Frag) (Tb : Tbs) (B : Bs) (Kf : Hp) (P : Po) (D : Ends) : Prop where
  nx : ∀ ds σ Hf H, P.nx ds → En K Tb B Hf H σ ds → Ex Kf Hf → D.nx σ H
  bk : ∀ ds σ Hf H, P.bk ds → En K Tb B Hf H σ ds → Ex Kf Hf → D.bk σ H
  ct : ∀ ds σ Hf H, P.ct ds → En K Tb B Hf H σ ds → Ex Kf Hf → D.ct σ H
  rt : ∀ r v Hf H, P.rt r → Bk Tb B Hf H → RetV K Hf H B v r → D.rt v H
def XS (Tb : Tbs) (X : Cx) (st : Stmt) (ds : List Slot) (P : Po) : Prop := ∀ B Kf σ Hf H D, En X.K Tb B Hf H σ ds → Ex Kf Hf → Acc X.K Tb B Kf P D → tMaxS X st D σ H
def XB (Tb : Tbs) (X : Cx) (sts : List Stmt) (ds : List Slot) (P : Po) : Prop := ∀ B Kf σ Hf H D, En X.K Tb B Hf H σ ds → Ex Kf Hf → Acc X.K Tb B Kf P D → tMaxB X sts D σ H
end Pk

set_option Elab.async false
set_option linter.all false
set_option maxRecDepth 100000
set_option maxHeartbeats 1000000
/-! G3: expressions. -/
namespace Pk
open PySem PySem.Spec PyProof.Rows L2 GxR

structure Kp (Tb : Tbs) (Hf H : Hp) : Prop where
  le : Le Hf H
  tb : ∀ P, Tb P → TabG H P
theorem Kp.refl {Tb : Tbs} {Hf H : Hp} (k : Kp Tb Hf H) : Ext Tb Hf H Hf H := ⟨Ex.refl _, Ex.refl _, k.le, fun _ _ _ _ h => h, fun _ h => h, k.tb⟩
theorem Ext.kp {Tb : Tbs} {A B Hf H : Hp} (x : Ext Tb A B Hf H) : Kp Tb Hf H := ⟨x.fh, x.tb⟩
theorem En.kp {K : Frag} {Tb : Tbs} {B : Bs} {Hf H : Hp} {σ : L2.St} {ds : List Slot} (E : En K Tb B Hf H σ ds) : Kp Tb Hf H := ⟨E.fh, E.tb⟩
theorem Kp.fz {Tb : Tbs} {Hf H : Hp} (k : Kp Tb Hf H) {p : Addr} {o : HO} (h : H p = none) (t : isTbl o = false) : Ext Tb Hf H (upd Hf p o) (upd H p o) := Ext.fz k.le k.tb h t
theorem Kp.ow {Tb : Tbs} {Hf H : Hp} (k : Kp Tb Hf H) {p : Addr} {o : HO} (h : H p = none) : Ext Tb Hf H Hf (upd H p o) := Ext.ow k.le k.tb h
theorem sz_of {n : Nat} (h : n ≤ LN) : n ≤ sizeLine := ln_sz h
theorem sz_lt {n : Nat} (h : n < LN) : n < sizeLine := ln_lt h

section
variable {Tb : Tbs} {X : Cx} {e a b c : Expr} {es rest : List Expr} {ds : List Slot} {d d1 d2 : Dt} {o : Ob} {pos : Pos} {ys : List Dt} {k k1 k2 : Bool}

/-! ### from one judgement to another -/
theorem XP.r (h : XP Tb X e ds d) : XR Tb X e ds d := fun B σ Hf H E Q q => h B σ Hf H E Q fun v Hf' H' x r => q v Hf' H' x (.fz r)
theorem XP.is {d' : Dt} (h : XP Tb X e ds d) (z : d = d') : XP Tb X e ds d' := z ▸ h
theorem XR.is {d' : Dt} (h : XR Tb X e ds d) (z : d = d') : XR Tb X e ds d' := z ▸ h
theorem XT.is {k' : Bool} (h : XT Tb X e ds k) (z : k = k') : XT Tb X e ds k' := z ▸ h
/-- what is read and has no list is frozen -/
theorem Rs.rp {K : Frag} {Hf H : Hp} {v : V} (n : noL d = true) (r : Rs K Hf H v d) : Rep K Hf v d := by
  cases r with
  | fz h => exact h
  | lst _ _ _ => simp [noL] at n
  | dK _ _ => simp [noL] at n
  | dT _ _ => simp [noL] at n
theorem XR.p (n : noL d = true) (h : XR Tb X e ds d) : XP Tb X e ds d := fun B σ Hf H E Q q => h B σ Hf H E Q fun v Hf' H' x r => q v Hf' H' x (r.rp n)
/-- a new list, frozen at once -/
theorem XO.p {xs : List Dt} (h : XO Tb X e ds (.lst xs)) : XP Tb X e ds (.list xs) := fun B σ Hf H E Q q => h B σ Hf H E Q fun v Hf' H' fp x w nd fr => by
  obtain ⟨p, vs, rfl, rfl, hp, r, l⟩ := w
  have hn := fr p (List.mem_singleton.mpr rfl)
  refine q (.ref p) (upd Hf' p (.lst vs)) H' ⟨fun a u g t => ?_, x.hh, fun a u g => ?_, fun a u g m n => ?_, x.li, x.tb⟩ (.lst (.inl (.inl upd_same)) l (r.mono (Ex.new hn.2)))
  · rw [upd_ne (ne_of_none (x.ff a u g t) hn.2)]
    exact x.ff a u g t
  · by_cases ha : a = p
    · subst ha
      rw [upd_same] at g
      cases g
      exact ⟨hp, rfl⟩
    · rw [upd_ne ha] at g
      exact x.fh a u g
  · rw [upd_ne (ne_of_none g hn.1)]
    exact x.sp a u g m n
/-- a new list, read -/
theorem XO.r {xs : List Dt} (h : XO Tb X e ds (.lst xs)) : XR Tb X e ds (.list xs) := h.p.r

/-! ### names -/
structure At (X : Cx) (x : Str) (i : Nat) : Prop where
  n : X.N[i]? = some x
  v : Vis X.env.scope x
  d : (x == ("__debug__" : Str)) = false
  c : (x == ("__classdict__" : Str)) = false
theorem At.pe {x : Str} {i : Nat} (h : At X x i) : PE X (.Name x pos) (tVar i) := pe_var h.n h.v h.d h.c
theorem xp_var {x : Str} {i : Nat} (h : At X x i) (g : ds[i]? = some (.fz d)) : XP Tb X (.Name x pos) ds d := fun B σ Hf H E Q q => by
  obtain ⟨fp, h1, _⟩ := E.sl
  obtain ⟨v, hv, r⟩ := h1 i _ g
  exact ⟨_, h.pe, v, hv, q v Hf H E.kp.refl r⟩
theorem xr_own {x : Str} {i : Nat} {xs : List Dt} (h : At X x i) (g : ds[i]? = some (.ow (.lst xs))) : XR Tb X (.Name x pos) ds (.list xs) := fun B σ Hf H E Q q => by
  obtain ⟨fp, h1, _⟩ := E.sl
  obtain ⟨v, hv, p, vs, rfl, _, hp, r, l⟩ := h1 i _ g
  exact ⟨_, h.pe, _, hv, q _ Hf H E.kp.refl (.lst (.inl (.inl hp)) l r)⟩
theorem xr_dic {x : Str} {i : Nat} {ps : List (Dt × Dt)} (h : At X x i) (g : ds[i]? = some (.ow (.dic ps))) : XR Tb X (.Name x pos) ds (.dict ps) := fun B σ Hf H E Q q => by
  obtain ⟨fp, h1, _⟩ := E.sl
  obtain ⟨v, hv, p, rfl, _, w⟩ := h1 i _ g
  rcases w with ⟨kvs, hp, r⟩ | ⟨kvs, hp, r⟩
  · exact ⟨_, h.pe, _, hv, q _ Hf H E.kp.refl (.dK hp r)⟩
  · exact ⟨_, h.pe, _, hv, q _ Hf H E.kp.refl (.dT hp r)⟩
theorem xp_int {i : Int} {j : Nat} : XP Tb X (.Constant (.int i) j pos) ds (.int i) := fun B σ Hf H E Q q => ⟨_, pe_int, q _ Hf H E.kp.refl (.int i)⟩
theorem xp_bl {i : Bool} {j : Nat} : XP Tb X (.Constant (.bool i) j pos) ds (.bool i) := fun B σ Hf H E Q q => ⟨_, pe_bl, q _ Hf H E.kp.refl (.bl i)⟩
theorem xp_non {j : Nat} : XP Tb X (.Constant .none j pos) ds .none := fun B σ Hf H E Q q => ⟨_, pe_non, q _ Hf H E.kp.refl .non⟩
theorem xp_str {i : Str} {j : Nat} (l : i.length ≤ LN) : XP Tb X (.Constant (.str i) j pos) ds (.str i) := fun B σ Hf H E Q q => ⟨_, pe_str, q _ Hf H E.kp.refl (.str i l)⟩

/-! ### operators -/
def OpD (Tb : Tbs) (X : Cx) (f : Value → Value → Sem Value) (d1 d2 d : Dt) : Prop := ∃ r, OpR X f r ∧ ∀ x y Hf H, Kp Tb Hf H → Rs X.K Hf H x d1 → Rs X.K Hf H y d2 → ∀ Q : VK, Vk Tb X.K Hf H d Q → r x y H Q
def OpO (Tb : Tbs) (X : Cx) (f : Value → Value → Sem Value) (d1 d2 : Dt) (o : Ob) : Prop := ∃ r, OpR X f r ∧ ∀ x y Hf H, Kp Tb Hf H → Rs X.K Hf H x d1 → Rs X.K Hf H y d2 → ∀ Q : VK, Vo Tb X.K Hf H o Q → r x y H Q
theorem xp_bin {op : Operator} (ho : OpD Tb X (binaryOp op) d1 d2 d) (ha : XR Tb X a ds d1) (hb : XR Tb X b ds d2) : XP Tb X (.BinOp a op b pos) ds d := fun B σ Hf H E Q q => by
  obtain ⟨r, hr, hv⟩ := ho
  refine ⟨_, pe_op hr pe_max pe_max, ?_⟩
  refine ha B σ Hf H E _ fun x Hf1 H1 x1 r1 => ?_
  refine hb B σ Hf1 H1 (E.ext x1) _ fun y Hf2 H2 x2 r2 => ?_
  exact hv x y Hf2 H2 x2.kp (r1.ext x2) r2 Q fun v Hf' H' x3 r3 => q v Hf' H' ((x1.trans x2).trans x3) r3
theorem xo_bin {op : Operator} (ho : OpO Tb X (binaryOp op) d1 d2 o) (ha : XR Tb X a ds d1) (hb : XR Tb X b ds d2) : XO Tb X (.BinOp a op b pos) ds o := fun B σ Hf H E Q q => by
  obtain ⟨r, hr, hv⟩ := ho
  refine ⟨_, pe_op hr pe_max pe_max, ?_⟩
  refine ha B σ Hf H E _ fun x Hf1 H1 x1 r1 => ?_
  refine hb B σ Hf1 H1 (E.ext x1) _ fun y Hf2 H2 x2 r2 => ?_
  refine hv x y Hf2 H2 x2.kp (r1.ext x2) r2 Q fun v Hf' H' fp x3 w nd fr => q v Hf' H' fp ((x1.trans x2).trans x3) w nd fun p hp => ⟨?_, (fr p hp).2⟩
  cases z : H p with
  | none => rfl
  | some u => exact absurd (fr p hp).1 ((x1.trans x2).li p (by rw [z]; simp))
theorem xp_cmp {op : CmpOp} (ho : OpD Tb X (compareOp op) d1 d2 d) (ha : XR Tb X a ds d1) (hb : XR Tb X b ds d2) (hm : behindInMarks op b = false) : XP Tb X (.Compare a [op] [b] pos) ds d := fun B σ Hf H E Q q => by
  obtain ⟨r, hr, hv⟩ := ho
  refine ⟨_, pe_cmpR hr pe_max pe_max hm, ?_⟩
  refine ha B σ Hf H E _ fun x Hf1 H1 x1 r1 => ?_
  refine hb B σ Hf1 H1 (E.ext x1) _ fun y Hf2 H2 x2 r2 => ?_
  exact hv x y Hf2 H2 x2.kp (r1.ext x2) r2 Q fun v Hf' H' x3 r3 => q v Hf' H' ((x1.trans x2).trans x3) r3
theorem xt_cmp {op : CmpOp} (ho : OpD Tb X (compareOp op) d1 d2 (.bool k)) (ha : XR Tb X a ds d1) (hb : XR Tb X b ds d2) (hm : behindInMarks op b = false) : XT Tb X (.Compare a [op] [b] pos) ds k := fun B σ Hf H E Q q => by
  obtain ⟨r, hr, hv⟩ := ho
  refine ⟨_, pt_cmpR hr pe_max pe_max hm, ?_⟩
  refine ha B σ Hf H E _ fun x Hf1 H1 x1 r1 => ?_
  refine hb B σ Hf1 H1 (E.ext x1) _ fun y Hf2 H2 x2 r2 => ?_
  exact hv x y Hf2 H2 x2.kp (r1.ext x2) r2 _ fun v Hf' H' x3 r3 => ⟨k, r3.bl_of, q Hf' H' ((x1.trans x2).trans x3)⟩
/-- a op b op c -/
theorem xp_chain {op op' : CmpOp} (ho : OpD Tb X (compareOp op) d1 d2 (.bool k1)) (ho' : OpD Tb X (compareOp op') d2 d (.bool k2)) (ha : XR Tb X a ds d1) (hb : XR Tb X b ds d2) (hc : k1 = true → XR Tb X c ds d)
    (hm : behindInMarks op b = false) (hm' : behindInMarks op' c = false) (hp : ∀ {r r' : R2}, OpR X (compareOp op) r → OpR X (compareOp op') r' → PE X (.Compare a [op, op'] [b, c] pos) (tChain r r' (tMax X a) (tMax X b) (tMax X c))) :
    XP Tb X (.Compare a [op, op'] [b, c] pos) ds (.bool (k1 && k2)) := fun B σ Hf H E Q q => by
  obtain ⟨r, hr, hv⟩ := ho
  obtain ⟨r', hr', hv'⟩ := ho'
  refine ⟨_, hp hr hr', ?_⟩
  refine ha B σ Hf H E _ fun x Hf1 H1 x1 r1 => ?_
  refine hb B σ Hf1 H1 (E.ext x1) _ fun y Hf2 H2 x2 r2 => ?_
  refine hv x y Hf2 H2 x2.kp (r1.ext x2) r2 _ fun v Hf3 H3 x3 r3 => ⟨k1, r3.bl_of, ?_⟩
  cases k1 with
  | true =>
    rw [if_pos rfl]
    refine hc rfl B σ Hf3 H3 (E.ext ((x1.trans x2).trans x3)) _ fun z Hf4 H4 x4 r4 => ?_
    exact hv' y z Hf4 H4 x4.kp (r2.ext (x3.trans x4)) r4 _ fun v Hf' H' x5 r5 => q v Hf' H' ((((x1.trans x2).trans x3).trans x4).trans x5) r5
  | false =>
    rw [if_neg Bool.false_ne_true]
    exact q _ Hf3 H3 ((x1.trans x2).trans x3) (.bl _)
def UnD (Tb : Tbs) (X : Cx) (f : Value → Sem Value) (d1 d : Dt) : Prop := ∃ r, UnR X f r ∧ ∀ x Hf H, Kp Tb Hf H → Rs X.K Hf H x d1 → ∀ Q : VK, Vk Tb X.K Hf H d Q → r x H Q
theorem xp_un {op : UnaryOp} (ho : UnD Tb X (unaryOp op) d1 d) (ha : XR Tb X a ds d1) : XP Tb X (.UnaryOp op a pos) ds d := fun B σ Hf H E Q q => by
  obtain ⟨r, hr, hv⟩ := ho
  refine ⟨_, pe_un hr pe_max, ?_⟩
  refine ha B σ Hf H E _ fun x Hf1 H1 x1 r1 => ?_
  exact hv x Hf1 H1 x1.kp r1 Q fun v Hf' H' x3 r3 => q v Hf' H' (x1.trans x3) r3
theorem und_neg {i : Int} : UnD Tb X (unaryOp .USub) (.int i) (.int (-i)) := ⟨_, un_neg, fun x Hf H kp hx Q q => by
  cases hx.int_of
  exact ⟨i, rfl, q _ Hf H kp.refl (.int _)⟩⟩
section
variable {i j : Int}
theorem opd_I0 {f : Value → Value → Sem Value} {g : Int → Int → Int} (ho : OpR X f (rI0 fun i j => .int (g i j))) : OpD Tb X f (.int i) (.int j) (.int (g i j)) := ⟨_, ho, fun x y Hf H kp hx hy Q q => by
  cases hx.int_of
  cases hy.int_of
  exact ⟨i, j, rfl, rfl, q _ Hf H kp.refl (.int _)⟩⟩
theorem opd_B0 {f : Value → Value → Sem Value} {g : Int → Int → Bool} (ho : OpR X f (rI0 fun i j => .bl (g i j))) : OpD Tb X f (.int i) (.int j) (.bool (g i j)) := ⟨_, ho, fun x y Hf H kp hx hy Q q => by
  cases hx.int_of
  cases hy.int_of
  exact ⟨i, j, rfl, rfl, q _ Hf H kp.refl (.bl _)⟩⟩
theorem opd_I {f : Value → Value → Sem Value} {C : Int → Int → Prop} {g : Int → Int → Int} (ho : OpR X f (rI C fun i j => .int (g i j))) (hc : C i j) : OpD Tb X f (.int i) (.int j) (.int (g i j)) := ⟨_, ho, fun x y Hf H kp hx hy Q q => by
  cases hx.int_of
  cases hy.int_of
  exact ⟨i, j, rfl, rfl, hc, q _ Hf H kp.refl (.int _)⟩⟩
theorem opd_add : OpD Tb X (binaryOp .Add) (.int i) (.int j) (.int (i + j)) := opd_I0 op_add
theorem opd_sub : OpD Tb X (binaryOp .Sub) (.int i) (.int j) (.int (i - j)) := opd_I0 op_sub
/-- one factor is small -/
def mulOk (i j : Int) : Bool := (decide (-(2 ^ 64) < i) && decide (i < 2 ^ 64)) || (decide (-(2 ^ 64) < j) && decide (j < 2 ^ 64))
theorem mulOk_c (h : mulOk i j = true) : CMul i j := by
  unfold mulOk at h
  simp only [Bool.or_eq_true, Bool.and_eq_true, decide_eq_true_eq] at h
  exact h
theorem opd_mul (h : mulOk i j = true) : OpD Tb X (binaryOp .Mult) (.int i) (.int j) (.int (i * j)) := opd_I op_mul (mulOk_c h)
/-- floor division and rest by a positive number; the divisor of a division below 2 ^ 30 -/
theorem opd_fdiv (h : (decide (0 < j) && decide (j < 1073741824)) = true) : OpD Tb X (binaryOp .FloorDiv) (.int i) (.int j) (.int (i / j)) := opd_I op_fdiv (by
  simp only [Bool.and_eq_true, decide_eq_true_eq] at h
  exact h)
theorem opd_mod (h : decide (0 < j) = true) : OpD Tb X (binaryOp .Mod) (.int i) (.int j) (.int (i % j)) := opd_I op_mod (of_decide_eq_true h)
theorem opd_pow (h : (decide (0 ≤ j) && (decide (j ≤ 1000) && decide (i.natAbs < 2 ^ 64))) = true) : OpD Tb X (binaryOp .Pow) (.int i) (.int j) (.int (i ^ j.toNat)) := opd_I op_pow (by
  simp only [Bool.and_eq_true, decide_eq_true_eq] at h
  exact ⟨h.1, by omega, h.2.2⟩)
theorem opd_lt : OpD Tb X (compareOp .Lt) (.int i) (.int j) (.bool (decide (i < j))) := opd_B0 op_lt
theorem opd_le : OpD Tb X (compareOp .LtE) (.int i) (.int j) (.bool (decide (i ≤ j))) := opd_B0 op_le
theorem opd_gt : OpD Tb X (compareOp .Gt) (.int i) (.int j) (.bool (decide (j < i))) := opd_B0 op_gt
theorem opd_ge : OpD Tb X (compareOp .GtE) (.int i) (.int j) (.bool (decide (j ≤ i))) := opd_B0 op_ge
theorem opd_eqI : OpD Tb X (compareOp .Eq) (.int i) (.int j) (.bool (decide (i = j))) := ⟨_, op_eq, fun x y Hf H kp hx hy Q q => by
  cases hx.int_of
  cases hy.int_of
  refine ⟨rfl, ?_⟩
  have z : decide (V.int i = V.int j) = decide (i = j) := by
    by_cases h : i = j
    · subst h
      simp
    · rw [decide_eq_false h, decide_eq_false fun q => h (V.int.inj q)]
  rw [z]
  exact q _ Hf H kp.refl (.bl _)⟩
theorem opd_neI : OpD Tb X (compareOp .NotEq) (.int i) (.int j) (.bool (!decide (i = j))) := ⟨_, op_ne, fun x y Hf H kp hx hy Q q => by
  cases hx.int_of
  cases hy.int_of
  refine ⟨rfl, ?_⟩
  have z : decide (V.int i = V.int j) = decide (i = j) := by
    by_cases h : i = j
    · subst h
      simp
    · rw [decide_eq_false h, decide_eq_false fun q => h (V.int.inj q)]
  rw [z]
  exact q _ Hf H kp.refl (.bl _)⟩
end
/-- None or not -/
def isN : Dt → Bool
  | .none => true
  | _ => false
theorem Rs.nonB {K : Frag} {Hf H : Hp} {v : V} (r : Rs K Hf H v d) : decide (v = .non) = isN d := by
  cases r with
  | fz h => cases h <;> first | rfl | simp [isN]
  | lst _ _ _ => simp [isN]
  | dK _ _ => simp [isN]
  | dT _ _ => simp [isN]
theorem opd_is : OpD Tb X (compareOp .Is) d .none (.bool (isN d)) := ⟨_, op_isN, fun x y Hf H kp hx hy Q q => by
  cases hy.non_of
  refine ⟨rfl, ?_⟩
  rw [hx.nonB]
  exact q _ Hf H kp.refl (.bl _)⟩
theorem opd_isnt : OpD Tb X (compareOp .IsNot) d .none (.bool (!isN d)) := ⟨_, op_notN, fun x y Hf H kp hx hy Q q => by
  cases hy.non_of
  refine ⟨rfl, ?_⟩
  rw [hx.nonB]
  exact q _ Hf H kp.refl (.bl _)⟩

/-! ### tests -/
theorem xt_val (h : XP Tb X e ds (.bool k)) (he : ∀ whole, isTrue e X.env whole = (do let v ← whole; standAt e.pos; holding [v] (truthy v)) := by intro _; rfl) : XT Tb X e ds k := fun B σ Hf H E Q q =>
  ⟨_, pt_val pe_max he, h B σ Hf H E _ fun v Hf' H' x r => ⟨k, r.bl_of, q Hf' H' x⟩⟩
theorem xt_not (h : XT Tb X e ds k) : XT Tb X (.UnaryOp .Not e pos) ds (!k) := fun B σ Hf H E Q q => ⟨_, pt_not pt_max, h B σ Hf H E _ fun Hf' H' x => q Hf' H' x⟩
theorem xt_w (h : XW Tb X e ds k) : XT Tb X e ds k := fun B σ Hf H E Q q => ⟨_, pw_max.pt, h B σ Hf H E _ q⟩
theorem xw_and1 (h : XT Tb X a ds k) : XW Tb X (.BoolOp .And [a] pos) ds k := fun B σ Hf H E Q q => ⟨_, pw_and1 pt_max, h B σ Hf H E _ q⟩
theorem xw_or1 (h : XT Tb X a ds k) : XW Tb X (.BoolOp .Or [a] pos) ds k := fun B σ Hf H E Q q => ⟨_, pw_or1 pt_max, h B σ Hf H E _ q⟩
theorem xw_and (h : XT Tb X a ds k1) (g : k1 = true → XW Tb X (.BoolOp .And (b :: rest) pos) ds k2) : XW Tb X (.BoolOp .And (a :: b :: rest) pos) ds (k1 && k2) := fun B σ Hf H E Q q => by
  refine ⟨_, pw_and pt_max pw_max, ?_⟩
  refine h B σ Hf H E _ fun Hf1 H1 x1 => ?_
  cases k1 with
  | true =>
    rw [if_pos rfl]
    exact g rfl B σ Hf1 H1 (E.ext x1) _ fun Hf2 H2 x2 => q Hf2 H2 (x1.trans x2)
  | false =>
    rw [if_neg Bool.false_ne_true]
    exact q Hf1 H1 x1
theorem xw_or (h : XT Tb X a ds k1) (g : k1 = false → XW Tb X (.BoolOp .Or (b :: rest) pos) ds k2) : XW Tb X (.BoolOp .Or (a :: b :: rest) pos) ds (k1 || k2) := fun B σ Hf H E Q q => by
  refine ⟨_, pw_or pt_max pw_max, ?_⟩
  refine h B σ Hf H E _ fun Hf1 H1 x1 => ?_
  cases k1 with
  | true =>
    rw [if_pos rfl]
    exact q Hf1 H1 x1
  | false =>
    rw [if_neg Bool.false_ne_true]
    exact g rfl B σ Hf1 H1 (E.ext x1) _ fun Hf2 H2 x2 => q Hf2 H2 (x1.trans x2)
/-! .. as values -/
theorem xp_one {op : BoolOp} (h : XP Tb X a ds d) : XP Tb X (.BoolOp op [a] pos) ds d := fun B σ Hf H E Q q => ⟨_, pe_one pe_max, h B σ Hf H E _ q⟩
theorem xp_and (h : XP Tb X a ds (.bool k1)) (g : k1 = true → XP Tb X (.BoolOp .And (b :: rest) pos) ds (.bool k2)) : XP Tb X (.BoolOp .And (a :: b :: rest) pos) ds (.bool (k1 && k2)) := fun B σ Hf H E Q q => by
  refine ⟨_, pe_and pe_max pe_max, ?_⟩
  refine h B σ Hf H E _ fun v Hf1 H1 x1 r => ⟨k1, r.bl_of, ?_⟩
  cases k1 with
  | true =>
    rw [if_pos rfl]
    exact g rfl B σ Hf1 H1 (E.ext x1) _ fun v Hf2 H2 x2 r => q v Hf2 H2 (x1.trans x2) r
  | false =>
    rw [if_neg Bool.false_ne_true]
    exact q _ Hf1 H1 x1 (.bl _)
theorem xp_or (h : XP Tb X a ds (.bool k1)) (g : k1 = false → XP Tb X (.BoolOp .Or (b :: rest) pos) ds (.bool k2)) : XP Tb X (.BoolOp .Or (a :: b :: rest) pos) ds (.bool (k1 || k2)) := fun B σ Hf H E Q q => by
  refine ⟨_, pe_or pe_max pe_max, ?_⟩
  refine h B σ Hf H E _ fun v Hf1 H1 x1 r => ⟨k1, r.bl_of, ?_⟩
  cases k1 with
  | true =>
    rw [if_pos rfl]
    exact q _ Hf1 H1 x1 (.bl _)
  | false =>
    rw [if_neg Bool.false_ne_true]
    exact g rfl B σ Hf1 H1 (E.ext x1) _ fun v Hf2 H2 x2 r => q v Hf2 H2 (x1.trans x2) r
theorem xp_not (h : XP Tb X a ds (.bool k)) : XP Tb X (.UnaryOp .Not a pos) ds (.bool (!k)) := fun B σ Hf H E Q q => ⟨_, pe_not pe_max, h B σ Hf H E _ fun v Hf' H' x r => ⟨k, r.bl_of, q _ Hf' H' x (.bl _)⟩⟩
theorem xp_if (h : XT Tb X c ds k) (h1 : k = true → XP Tb X a ds d) (h2 : k = false → XP Tb X b ds d) : XP Tb X (.IfExp c a b pos) ds d := fun B σ Hf H E Q q => by
  refine ⟨_, pe_ifExp pt_max pe_max pe_max, ?_⟩
  refine h B σ Hf H E _ fun Hf1 H1 x1 => ?_
  cases k with
  | true =>
    rw [if_pos rfl]
    exact h1 rfl B σ Hf1 H1 (E.ext x1) _ fun v Hf2 H2 x2 r => q v Hf2 H2 (x1.trans x2) r
  | false =>
    rw [if_neg Bool.false_ne_true]
    exact h2 rfl B σ Hf1 H1 (E.ext x1) _ fun v Hf2 H2 x2 r => q v Hf2 H2 (x1.trans x2) r

/-! ### arguments, displays -/
theorem xa_nil : XA Tb X [] ds [] := fun B σ Hf H E Q q => ⟨_, pa_nil, q [] Hf H E.kp.refl .nil⟩
theorem xa_cons (h : XP Tb X e ds d) (g : XA Tb X es ds ys) (hs : starEach (e :: es) X.env = (false, eval e X.env) :: starEach es X.env := by rfl) : XA Tb X (e :: es) ds (d :: ys) := fun B σ Hf H E Q q => by
  refine ⟨_, pa_cons pe_max pa_max hs, ?_⟩
  refine h B σ Hf H E _ fun v Hf1 H1 x1 r1 => ?_
  exact g B σ Hf1 H1 (E.ext x1) _ fun vs Hf2 H2 x2 r2 => q (v :: vs) Hf2 H2 (x1.trans x2) (.cons (r1.mono x2.ff) r2)
theorem xar_nil : XAR Tb X [] ds [] := fun B σ Hf H E Q q => ⟨_, pa_nil, q [] Hf H E.kp.refl .nil⟩
theorem xar_cons (h : XR Tb X e ds d) (g : XAR Tb X es ds ys) (hs : starEach (e :: es) X.env = (false, eval e X.env) :: starEach es X.env := by rfl) : XAR Tb X (e :: es) ds (d :: ys) := fun B σ Hf H E Q q => by
  refine ⟨_, pa_cons pe_max pa_max hs, ?_⟩
  refine h B σ Hf H E _ fun v Hf1 H1 x1 r1 => ?_
  exact g B σ Hf1 H1 (E.ext x1) _ fun vs Hf2 H2 x2 r2 => q (v :: vs) Hf2 H2 (x1.trans x2) (.cons (r1.ext x2) r2)
theorem xp_tup {j : Nat} (h : XA Tb X es ds ys) (hl : ys.length ≤ LN) : XP Tb X (.Tuple es j pos) ds (.tuple ys) := fun B σ Hf H E Q q => by
  refine ⟨_, pe_tup pa_max, ?_⟩
  refine h B σ Hf H E _ fun vs Hf1 H1 x1 r1 => ⟨by rw [r1.length]; exact sz_of hl, fun p hp => ?_⟩
  exact q _ (upd Hf1 p (.tup vs)) _ (x1.trans (x1.kp.fz hp rfl)) (.tup (.inl (.inl upd_same)) hl (r1.mono (Ex.new (x1.kp.le.free hp))))
theorem xo_lst (h : XA Tb X es ds ys) (hl : ys.length ≤ LN) : XO Tb X (.List es pos) ds (.lst ys) := fun B σ Hf H E Q q => by
  refine ⟨_, pe_lst pa_max, ?_⟩
  refine h B σ Hf H E _ fun vs Hf1 H1 x1 r1 => ⟨by rw [r1.length]; exact sz_of hl, fun p hp => ?_⟩
  refine q _ Hf1 _ [p] (x1.trans (x1.kp.ow hp)) ⟨p, vs, rfl, rfl, upd_same, r1, hl⟩ (List.nodup_cons.mpr ⟨by simp, .nil⟩) fun a ha => ?_
  cases List.mem_singleton.mp ha
  refine ⟨?_, x1.kp.le.free hp⟩
  cases z : H p with
  | none => rfl
  | some u => exact absurd hp (x1.li p (by rw [z]; simp))

/-! ### subscripts -/
/-- an item, by its place -/
theorem xp_ixT {i : Int} (ha : XR Tb X a ds (.tuple ys)) (hb : XP Tb X b ds (.int i)) (hi : atI ys i = some d) (hs : PlainIx b := by exact fun _ _ => rfl) : XP Tb X (.Subscript a b pos) ds d := fun B σ Hf H E Q q => by
  refine ⟨_, pe_ix ix_tup pe_max pe_max hs, ?_⟩
  refine ha B σ Hf H E _ fun x Hf1 H1 x1 r1 => ?_
  refine hb B σ Hf1 H1 (E.ext x1) _ fun y Hf2 H2 x2 r2 => ?_
  obtain ⟨p, vs, rfl, hp, r⟩ := (r1.ext x2).tup_of x2.fh
  cases r2.int_of
  obtain ⟨j, h1, h2⟩ : ∃ j, ixN ys.length i = some j ∧ ys[j]? = some d := by
    unfold atI at hi
    cases z : ixN ys.length i with
    | none => rw [z] at hi; cases hi
    | some j => rw [z] at hi; exact ⟨j, rfl, hi⟩
  obtain ⟨v, hv, rv⟩ := r.getD h2
  refine ⟨p, vs, i, v, rfl, rfl, hp, ?_, q v Hf2 H2 (x1.trans x2) rv⟩
  unfold atI
  rw [r.length, h1]
  exact hv
theorem xp_ixL {i : Int} (ha : XR Tb X a ds (.list ys)) (hb : XP Tb X b ds (.int i)) (hi : atI ys i = some d) (hs : PlainIx b := by exact fun _ _ => rfl) : XP Tb X (.Subscript a b pos) ds d := fun B σ Hf H E Q q => by
  refine ⟨_, pe_ix ix_list pe_max pe_max hs, ?_⟩
  refine ha B σ Hf H E _ fun x Hf1 H1 x1 r1 => ?_
  refine hb B σ Hf1 H1 (E.ext x1) _ fun y Hf2 H2 x2 r2 => ?_
  obtain ⟨p, vs, rfl, hp, r⟩ := (r1.ext x2).lst_of x2.fh
  cases r2.int_of
  obtain ⟨j, h1, h2⟩ : ∃ j, ixN ys.length i = some j ∧ ys[j]? = some d := by
    unfold atI at hi
    cases z : ixN ys.length i with
    | none => rw [z] at hi; cases hi
    | some j => rw [z] at hi; exact ⟨j, rfl, hi⟩
  obtain ⟨v, hv, rv⟩ := r.getD h2
  refine ⟨p, vs, i, v, rfl, rfl, hp, ?_, q v Hf2 H2 (x1.trans x2) rv⟩
  unfold atI
  rw [r.length, h1]
  exact hv
theorem xp_ixS {i : Int} {z : Str} {n : Nat} (ha : XR Tb X a ds (.str z)) (hb : XP Tb X b ds (.int i)) (hi : atI z.cps.toList i = some n) (hs : PlainIx b := by exact fun _ _ => rfl) : XP Tb X (.Subscript a b pos) ds (.str ⟨#[n]⟩) := fun B σ Hf H E Q q => by
  refine ⟨_, pe_ix ix_str pe_max pe_max hs, ?_⟩
  refine ha B σ Hf H E _ fun x Hf1 H1 x1 r1 => ?_
  refine hb B σ Hf1 H1 (E.ext x1) _ fun y Hf2 H2 x2 r2 => ?_
  have hl := r1.str_len
  cases r1.str_of
  cases r2.int_of
  exact ⟨z, i, n, rfl, rfl, sz_of hl, hi, q _ Hf2 H2 (x1.trans x2) (.str _ (show (1 : Nat) ≤ LN by decide))⟩

/-! ### calls of built-ins -/
def CaD (Tb : Tbs) (X : Cx) (f : Value) (ys : List Dt) (d : Dt) : Prop := ∃ r, CallR X f r ∧ ∀ vs Hf H, Kp Tb Hf H → RsL X.K Hf H vs ys → ∀ Q : VK, Vk Tb X.K Hf H d Q → r vs H Q
def CaO (Tb : Tbs) (X : Cx) (f : Value) (ys : List Dt) (o : Ob) : Prop := ∃ r, CallR X f r ∧ ∀ vs Hf H, Kp Tb Hf H → RsL X.K Hf H vs ys → ∀ Q : VK, Vo Tb X.K Hf H o Q → r vs H Q
/-- a built-in's name here -/
structure Bn (X : Cx) (x : Str) (f : Value) : Prop where
  g : Gl X x
  m : X.mg x = none
  v : bootBuiltins x = some f
  n : x ≠ "__name__"
  d : (x == ("__debug__" : Str)) = false
theorem xp_callB {x : Str} {id : String} {p : Pos} (n : Bn X x (.builtin id)) (hc : CaD Tb X (.builtin id) ys d) (ha : XAR Tb X (e :: es) ds ys) (he : starEach (e :: es) X.env = (false, eval e X.env) :: starEach es X.env := by rfl) (hpl : (backTo pos (starEach es X.env)).any (·.1) = false := by rfl) :
    XP Tb X (.Call (.Name x p) (e :: es) [] pos) ds d := fun B σ Hf H E Q q => by
  obtain ⟨r, hr, hv⟩ := hc
  refine ⟨_, pe_callB hr n.g n.m n.v pa_max n.n n.d he hpl, ?_⟩
  exact ha B σ Hf H E _ fun vs Hf1 H1 x1 r1 => hv vs Hf1 H1 x1.kp r1 Q fun v Hf2 H2 x2 r2 => q v Hf2 H2 (x1.trans x2) r2
theorem xp_callTy {x : Str} {id : String} {p : Pos} (n : Bn X x (.type id)) (hc : CaD Tb X (.type id) ys d) (ha : XAR Tb X (e :: es) ds ys) (he : starEach (e :: es) X.env = (false, eval e X.env) :: starEach es X.env := by rfl) (hpl : (backTo pos (starEach es X.env)).any (·.1) = false := by rfl) :
    XP Tb X (.Call (.Name x p) (e :: es) [] pos) ds d := fun B σ Hf H E Q q => by
  obtain ⟨r, hr, hv⟩ := hc
  refine ⟨_, pe_callTy hr n.g n.m n.v pa_max n.n n.d he hpl, ?_⟩
  exact ha B σ Hf H E _ fun vs Hf1 H1 x1 r1 => hv vs Hf1 H1 x1.kp r1 Q fun v Hf2 H2 x2 r2 => q v Hf2 H2 (x1.trans x2) r2
theorem xo_callB {x : Str} {id : String} {p : Pos} (n : Bn X x (.builtin id)) (hc : CaO Tb X (.builtin id) ys o) (ha : XAR Tb X (e :: es) ds ys) (he : starEach (e :: es) X.env = (false, eval e X.env) :: starEach es X.env := by rfl) (hpl : (backTo pos (starEach es X.env)).any (·.1) = false := by rfl) :
    XO Tb X (.Call (.Name x p) (e :: es) [] pos) ds o := fun B σ Hf H E Q q => by
  obtain ⟨r, hr, hv⟩ := hc
  refine ⟨_, pe_callB hr n.g n.m n.v pa_max n.n n.d he hpl, ?_⟩
  refine ha B σ Hf H E _ fun vs Hf1 H1 x1 r1 => hv vs Hf1 H1 x1.kp r1 Q fun v Hf2 H2 fp x2 w nd fr => q v Hf2 H2 fp (x1.trans x2) w nd fun p hp => ⟨?_, (fr p hp).2⟩
  cases z : H p with
  | none => rfl
  | some u => exact absurd (fr p hp).1 (x1.li p (by rw [z]; simp))
theorem xo_callTy {x : Str} {id : String} {p : Pos} (n : Bn X x (.type id)) (hc : CaO Tb X (.type id) ys o) (ha : XAR Tb X (e :: es) ds ys) (he : starEach (e :: es) X.env = (false, eval e X.env) :: starEach es X.env := by rfl) (hpl : (backTo pos (starEach es X.env)).any (·.1) = false := by rfl) :
    XO Tb X (.Call (.Name x p) (e :: es) [] pos) ds o := fun B σ Hf H E Q q => by
  obtain ⟨r, hr, hv⟩ := hc
  refine ⟨_, pe_callTy hr n.g n.m n.v pa_max n.n n.d he hpl, ?_⟩
  refine ha B σ Hf H E _ fun vs Hf1 H1 x1 r1 => hv vs Hf1 H1 x1.kp r1 Q fun v Hf2 H2 fp x2 w nd fr => q v Hf2 H2 fp (x1.trans x2) w nd fun p hp => ⟨?_, (fr p hp).2⟩
  cases z : H p with
  | none => rfl
  | some u => exact absurd (fr p hp).1 (x1.li p (by rw [z]; simp))
end
end Pk

set_option Elab.async false
set_option linter.all false
set_option maxRecDepth 100000
set_option maxHeartbeats 1000000
/-! G4: statements. -/
namespace Pk
open PySem PySem.Spec PyProof.Rows L2 GxR

def upF (fp : Nat → List Addr) (i : Nat) (fq : List Addr) : Nat → List Addr := fun j => if j = i then fq else fp j
theorem upF_same {fp : Nat → List Addr} {i : Nat} {fq : List Addr} : upF fp i fq i = fq := if_pos rfl
theorem upF_ne {fp : Nat → List Addr} {i j : Nat} {fq : List Addr} (h : ¬ j = i) : upF fp i fq j = fp j := if_neg h
section
variable {K : Frag} {Tb : Tbs} {B : Bs} {Hf H Hf' H' : Hp} {σ σ' : L2.St} {ds ds' : List Slot} {v : V} {d : Dt} {o : Ob} {i : Nat} {fq : List Addr}
/-- slot i holds a frozen value -/
theorem En.setF (E : En K Tb B Hf H σ ds) (r : Rep K Hf v d) : En K Tb B Hf H (σ.set i (some v)) (ds.set i (.fz d)) where
  toBk := E.toBk
  ln := by rw [List.length_set, List.length_set]; exact E.ln
  sl := by
    obtain ⟨fp, h1, h2, h3, h4⟩ := E.sl
    refine ⟨fp, fun j s hj => ?_, h2, h3, h4⟩
    by_cases hij : i = j
    · subst hij
      have hl : i < ds.length := by
        have := (List.getElem?_eq_some_iff.mp hj).1
        rwa [List.length_set] at this
      rw [List.getElem?_set_self hl] at hj
      cases hj
      exact ⟨v, List.getElem?_set_self (by rw [E.ln]; exact hl), r⟩
    · rw [List.getElem?_set_ne hij] at hj
      rw [List.getElem?_set_ne hij]
      exact h1 j s hj
theorem En.setO (E : En K Tb B Hf H σ ds) (w : Own K Hf H v o fq) (nd : fq.Nodup) (hn : ∀ a, a ∈ fq → Hf a = none ∧ (B.h a = none ∨ B.m a)) (hd : ∀ (fp : Nat → List Addr), (∀ i a, a ∈ fp i → (∃ o, H a = some o ∧ isMu o = true) ∧ Hf a = none ∧ (B.h a = none ∨ B.m a)) → ∀ j a, a ∈ fq → a ∈ fp j → False) :
    En K Tb B Hf H (σ.set i (some v)) (ds.set i (.ow o)) where
  toBk := E.toBk
  ln := by rw [List.length_set, List.length_set]; exact E.ln
  sl := by
    obtain ⟨fp, h1, h2, h3, h4⟩ := E.sl
    have dj := hd fp h4
    refine ⟨upF fp i fq, fun j s hj => ?_, fun j k a hj hk => ?_, fun j => ?_, fun j a ha => ?_⟩
    · by_cases hij : i = j
      · subst hij
        have hl : i < ds.length := by
          have := (List.getElem?_eq_some_iff.mp hj).1
          rwa [List.length_set] at this
        rw [List.getElem?_set_self hl] at hj
        cases hj
        rw [upF_same]
        exact ⟨v, List.getElem?_set_self (by rw [E.ln]; exact hl), w⟩
      · rw [List.getElem?_set_ne hij] at hj
        rw [List.getElem?_set_ne hij, upF_ne (Ne.symm hij)]
        exact h1 j s hj
    · by_cases h5 : j = i
      · subst h5
        by_cases h6 : k = j
        · exact h6.symm
        · rw [upF_same] at hj
          rw [upF_ne h6] at hk
          exact (dj k a hj hk).elim
      · rw [upF_ne h5] at hj
        by_cases h6 : k = i
        · rw [h6, upF_same] at hk
          exact (dj j a hk hj).elim
        · rw [upF_ne h6] at hk
          exact h2 j k a hj hk
    · by_cases h5 : j = i
      · rw [h5, upF_same]; exact nd
      · rw [upF_ne h5]; exact h3 j
    · by_cases h5 : j = i
      · rw [h5, upF_same] at ha
        exact ⟨w.there a ha, hn a ha⟩
      · rw [upF_ne h5] at ha
        exact h4 j a ha
/-- a new own object goes to slot i -/
theorem En.setN (E : En K Tb B Hf H σ ds) (x : Ext Tb Hf H Hf' H') (w : Own K Hf' H' v o fq) (nd : fq.Nodup) (fr : ∀ a, a ∈ fq → H a = none ∧ Hf' a = none) : En K Tb B Hf' H' (σ.set i (some v)) (ds.set i (.ow o)) := by
  have hb : ∀ a, a ∈ fq → B.h a = none := fun a ha => by
    cases z : B.h a with
    | none => rfl
    | some u => exact absurd (fr a ha).1 (E.bl a (by rw [z]; simp))
  obtain ⟨fp, h1, h2, h3, h4⟩ := E.sl
  -- the footprints are those from before
  have E' := E.ext x
  refine ⟨E'.toBk, by rw [List.length_set, List.length_set]; exact E.ln, upF fp i fq, fun j s hj => ?_, fun j k a hj hk => ?_, fun j => ?_, fun j a ha => ?_⟩
  · by_cases hij : i = j
    · subst hij
      have hl : i < ds.length := by
        have := (List.getElem?_eq_some_iff.mp hj).1
        rwa [List.length_set] at this
      rw [List.getElem?_set_self hl] at hj
      cases hj
      rw [upF_same]
      exact ⟨v, List.getElem?_set_self (by rw [E.ln]; exact hl), w⟩
    · rw [List.getElem?_set_ne hij] at hj
      rw [List.getElem?_set_ne hij, upF_ne (Ne.symm hij)]
      have q := h1 j s hj
      cases s with
      | any => trivial
      | fz d =>
        obtain ⟨v, e, r⟩ := q
        exact ⟨v, e, r.mono x.ff⟩
      | ow o =>
        obtain ⟨v, e, w⟩ := q
        refine ⟨v, e, w.mono x.ff fun a ha => ?_⟩
        obtain ⟨⟨u, hu, hm⟩, _⟩ := h4 j a ha
        rw [hu, x.hh a u hu (mu_tbl hm)]
  · have dj : ∀ j a, a ∈ fq → a ∈ fp j → False := fun j a ha hb => by
      obtain ⟨⟨u, hu, _⟩, _⟩ := h4 j a hb
      rw [(fr a ha).1] at hu
      cases hu
    by_cases h5 : j = i
    · subst h5
      by_cases h6 : k = j
      · exact h6.symm
      · rw [upF_same] at hj
        rw [upF_ne h6] at hk
        exact (dj k a hj hk).elim
    · rw [upF_ne h5] at hj
      by_cases h6 : k = i
      · rw [h6, upF_same] at hk
        exact (dj j a hk hj).elim
      · rw [upF_ne h6] at hk
        exact h2 j k a hj hk
  · by_cases h5 : j = i
    · rw [h5, upF_same]; exact nd
    · rw [upF_ne h5]; exact h3 j
  · by_cases h5 : j = i
    · rw [h5, upF_same] at ha
      exact ⟨w.there a ha, (fr a ha).2, .inl (hb a ha)⟩
    · rw [upF_ne h5] at ha
      obtain ⟨⟨u, hu, hm⟩, hn, hb⟩ := h4 j a ha
      exact ⟨⟨u, x.hh a u hu (mu_tbl hm), hm⟩, x.sp a u hu hm hn, hb⟩
/-- what a slot's own object is; another content may be put there (at the same addresses) -/
theorem En.own (E : En K Tb B Hf H σ ds) (h : ds[i]? = some (.ow o)) : ∃ v fq, σ[i]? = some (some v) ∧ Own K Hf H v o fq ∧ fq.Nodup ∧ (∀ a, a ∈ fq → (∃ u, H a = some u ∧ isMu u = true) ∧ Hf a = none ∧ (B.h a = none ∨ B.m a)) ∧
    ∀ (H' : Hp) (o' : Ob), (∀ a, a ∉ fq → H' a = H a) → (∀ a, a ∈ fq → ∃ u, H' a = some u ∧ isMu u = true) → Own K Hf H' v o' fq → En K Tb B Hf H' σ (ds.set i (.ow o')) := by
  obtain ⟨fp, h1, h2, h3, h4⟩ := E.sl
  obtain ⟨v, hv, w⟩ := h1 i _ h
  refine ⟨v, fp i, hv, w, h3 i, h4 i, fun H' o' k1 k2 w' => ?_⟩
  have hl : i < ds.length := (List.getElem?_eq_some_iff.mp h).1
  have ne : ∀ a o, Hf a = some o → a ∉ fp i := fun a o g z => by
    have := (h4 i a z).2.1
    rw [g] at this
    cases this
  refine ⟨⟨fun a o g => ?_, fun P hP => ?_, E.bf, fun a o g t m => ?_, fun a g => ?_, E.bs⟩, by rw [List.length_set]; exact E.ln, fp, fun j s hj => ?_, h2, h3, fun j a ha => ?_⟩
  · rw [k1 a (ne a o g)]
    exact E.fh a o g
  · obtain ⟨ps, e, r⟩ := E.tb P hP
    refine ⟨ps, ?_, r⟩
    rw [k1 P]
    · exact e
    · intro z
      obtain ⟨⟨u, hu, hm⟩, _⟩ := h4 i P z
      rw [e] at hu
      cases hu
      cases hm
  · rw [k1 a]
    · exact E.bh a o g t m
    · intro z
      rcases (h4 i a z).2.2 with q | q
      · rw [g] at q; cases q
      · exact m q
  · by_cases z : a ∈ fp i
    · obtain ⟨u, hu, _⟩ := k2 a z
      rw [hu]
      simp
    · rw [k1 a z]
      exact E.bl a g
  · by_cases hij : i = j
    · subst hij
      rw [List.getElem?_set_self hl] at hj
      cases hj
      exact ⟨v, hv, w'⟩
    · rw [List.getElem?_set_ne hij] at hj
      have q := h1 j s hj
      cases s with
      | any => trivial
      | fz d => exact q
      | ow o =>
        obtain ⟨v, e, w⟩ := q
        exact ⟨v, e, w.mono (Ex.refl _) fun a ha => k1 a fun z => hij (h2 i j a z ha)⟩
  · obtain ⟨hu, hn, hb⟩ := h4 j a ha
    by_cases z : a ∈ fp i
    · exact ⟨k2 a z, hn, hb⟩
    · exact ⟨by rw [k1 a z]; exact hu, hn, hb⟩
/-- slots forgotten -/
inductive Sub : List Slot → List Slot → Prop
  | n : Sub [] []
  | s {x : Slot} {a b : List Slot} : Sub a b → Sub (x :: a) (x :: b)
  | a {x : Slot} {a b : List Slot} : Sub a b → Sub (x :: a) (.any :: b)
theorem Sub.len : ∀ {a b : List Slot}, Sub a b → a.length = b.length
  | _, _, .n => rfl
  | _, _, .s h => congrArg (· + 1) h.len
  | _, _, .a h => congrArg (· + 1) h.len
theorem Sub.at : ∀ {a b : List Slot} {i : Nat} {s : Slot}, Sub a b → b[i]? = some s → s = .any ∨ a[i]? = some s
  | _, _, _, _, .n, h => by cases h
  | _, _, 0, _, .s _, h => .inr h
  | _, _, i + 1, _, .s g, h => Sub.at (i := i) g h
  | _, _, 0, _, .a _, h => by
    cases h
    exact .inl rfl
  | _, _, i + 1, _, .a g, h => Sub.at (i := i) g h
theorem Sub.refl : ∀ (a : List Slot), Sub a a
  | [] => .n
  | _ :: r => .s (Sub.refl r)
theorem En.weak (E : En K Tb B Hf H σ ds) (z : Sub ds ds') : En K Tb B Hf H σ ds' where
  toBk := E.toBk
  ln := E.ln.trans z.len
  sl := by
    obtain ⟨fp, h1, h2⟩ := E.sl
    refine ⟨fp, fun i s hi => ?_, h2⟩
    rcases z.at hi with rfl | q
    · trivial
    · exact h1 i s q
/-- a list is frozen from here on -/
theorem En.freeze {xs : List Dt} (E : En K Tb B Hf H σ ds) (h : ds[i]? = some (.ow (.lst xs))) : ∃ Hf', Ex Hf Hf' ∧ En K Tb B Hf' H σ (ds.set i (.fz (.list xs))) := by
  obtain ⟨fp, h1, h2, h3, h4⟩ := E.sl
  obtain ⟨v, hv, p, vs, rfl, e, hp, r, l⟩ := h1 i _ h
  have hl : i < ds.length := (List.getElem?_eq_some_iff.mp h).1
  have hpi : p ∈ fp i := by rw [e]; exact List.mem_singleton.mpr rfl
  obtain ⟨_, hn, hb⟩ := h4 i p hpi
  have ef : Ex Hf (upd Hf p (.lst vs)) := Ex.new hn
  refine ⟨upd Hf p (.lst vs), ef, ⟨fun a o g => ?_, E.tb, E.bf.trans ef, E.bh, E.bl, fun a o g m nm n => ?_⟩, by rw [List.length_set]; exact E.ln, upF fp i [], fun j s hj => ?_, fun j k a hj hk => ?_, fun j => ?_, fun j a ha => ?_⟩
  · by_cases ha : a = p
    · subst ha
      rw [upd_same] at g
      cases g
      exact ⟨hp, rfl⟩
    · rw [upd_ne ha] at g
      exact E.fh a o g
  · have ne : a ≠ p := fun z => by
      rw [z] at g nm
      rcases hb with q | q
      · rw [g] at q; cases q
      · exact nm q
    rw [upd_ne ne]
    exact E.bs a o g m nm n
  · by_cases hij : i = j
    · subst hij
      rw [List.getElem?_set_self hl] at hj
      cases hj
      exact ⟨_, hv, .lst (.inl (.inl upd_same)) l (r.mono ef)⟩
    · rw [List.getElem?_set_ne hij] at hj
      rw [upF_ne (Ne.symm hij)]
      have q := h1 j s hj
      cases s with
      | any => trivial
      | fz d =>
        obtain ⟨v, e, r⟩ := q
        exact ⟨v, e, r.mono ef⟩
      | ow o =>
        obtain ⟨v, e, w⟩ := q
        exact ⟨v, e, w.mono ef fun _ _ => rfl⟩
  · by_cases h5 : j = i
    · rw [h5, upF_same] at hj; cases hj
    · rw [upF_ne h5] at hj
      by_cases h6 : k = i
      · rw [h6, upF_same] at hk; cases hk
      · rw [upF_ne h6] at hk
        exact h2 j k a hj hk
  · by_cases h5 : j = i
    · rw [h5, upF_same]; exact .nil
    · rw [upF_ne h5]; exact h3 j
  · by_cases h5 : j = i
    · rw [h5, upF_same] at ha; cases ha
    · rw [upF_ne h5] at ha
      obtain ⟨q1, q2, q3⟩ := h4 j a ha
      refine ⟨q1, ?_, q3⟩
      rw [upd_ne]
      · exact q2
      · intro z
        rw [z] at ha
        exact h5 (h2 j i p ha hpi)
end

section
variable {Tb : Tbs} {X : Cx} {e a b c : Expr} {es : List Expr} {st : Stmt} {sts rest A1 A2 : List Stmt} {ds ds' : List Slot} {d d1 d2 : Dt} {o : Ob} {pos : Pos} {ys : List Dt} {k : Bool} {P : Po}
theorem xb_nil (h : P.nx ds) : XB Tb X [] ds P := fun B Kf σ Hf H D E kf A => ⟨_, pss_nil, A.nx ds σ Hf H h E kf⟩
theorem xb_cons (h : XS Tb X st ds { P with nx := fun ds' => XB Tb X rest ds' P }) : XB Tb X (st :: rest) ds P := fun B Kf σ Hf H D E kf A =>
  ⟨_, pss_cons ps_max pss_max, h B Kf σ Hf H { D with nx := tMaxB X rest D } E kf ⟨fun ds1 σ1 Hf1 H1 q E1 kf1 => q B Kf σ1 Hf1 H1 D E1 kf1 A, A.bk, A.ct, A.rt⟩⟩
theorem xb_one (h : XS Tb X st ds P) : XB Tb X [st] ds P := fun B Kf σ Hf H D E kf A => ⟨_, pss_one ps_max, h B Kf σ Hf H D E kf A⟩
theorem xb_sub (z : Sub ds ds') (h : XB Tb X sts ds' P) : XB Tb X sts ds P := fun B Kf σ Hf H D E kf A => h B Kf σ Hf H D (E.weak z) kf A
theorem xb_frz {i : Nat} {xs : List Dt} (g : ds[i]? = some (.ow (.lst xs))) (h : XB Tb X sts (ds.set i (.fz (.list xs))) P) : XB Tb X sts ds P := fun B Kf σ Hf H D E kf A => by
  obtain ⟨Hf', ef, E'⟩ := E.freeze g
  exact h B Kf σ Hf' H D E' (kf.trans ef) A
theorem xb_imp {P' : Po} (h : XB Tb X sts ds P) (h1 : ∀ ds, P.nx ds → P'.nx ds) (h2 : ∀ r, P.rt r → P'.rt r) (h3 : ∀ ds, P.bk ds → P'.bk ds) (h4 : ∀ ds, P.ct ds → P'.ct ds) : XB Tb X sts ds P' := fun B Kf σ Hf H D E kf A =>
  h B Kf σ Hf H D E kf ⟨fun ds σ Hf H q => A.nx ds σ Hf H (h1 ds q), fun ds σ Hf H q => A.bk ds σ Hf H (h3 ds q), fun ds σ Hf H q => A.ct ds σ Hf H (h4 ds q), fun r v Hf H q => A.rt r v Hf H (h2 r q)⟩
theorem xs_if (h : XT Tb X c ds k) (h1 : k = true → XB Tb X A1 ds P) (h2 : k = false → XB Tb X A2 ds P) : XS Tb X (.If c A1 A2 pos) ds P := fun B Kf σ Hf H D E kf A => by
  refine ⟨_, ps_if pt_max pss_max pss_max, ?_⟩
  refine h B σ Hf H E _ fun Hf1 H1 x1 => ?_
  cases k with
  | true =>
    rw [if_pos rfl]
    exact h1 rfl B Kf σ Hf1 H1 D (E.ext x1) (kf.trans x1.ff) A
  | false =>
    rw [if_neg Bool.false_ne_true]
    exact h2 rfl B Kf σ Hf1 H1 D (E.ext x1) (kf.trans x1.ff) A
theorem xs_ret (h : XP Tb X e ds d) (q : P.rt (.fz d)) : XS Tb X (.Return (some e) pos) ds P := fun B Kf σ Hf H D E kf A =>
  ⟨_, ps_ret pe_max, h B σ Hf H E _ fun v Hf1 H1 x1 r => A.rt _ v Hf1 H1 q (E.ext x1).toBk r⟩
theorem xs_retO (h : XO Tb X e ds o) (q : P.rt (.ow o)) : XS Tb X (.Return (some e) pos) ds P := fun B Kf σ Hf H D E kf A =>
  ⟨_, ps_ret pe_max, h B σ Hf H E _ fun v Hf1 H1 fp x1 w nd fr => A.rt _ v Hf1 H1 q (E.ext x1).toBk ⟨fp, w, nd, fun a ha => ⟨.inl (by
    cases z : B.h a with
    | none => rfl
    | some u => exact absurd (fr a ha).1 (E.bl a (by rw [z]; simp))), (fr a ha).2⟩⟩⟩
theorem xs_retN (q : P.rt (.fz .none)) : XS Tb X (.Return none pos) ds P := fun B Kf σ Hf H D E kf A => ⟨_, ps_retN, A.rt _ _ Hf H q E.toBk .non⟩
/-- an own object is handed back -/
theorem xs_retV {x : Str} {i : Nat} {p : Pos} (h : At X x i) (g : ds[i]? = some (.ow o)) (q : P.rt (.ow o)) : XS Tb X (.Return (some (.Name x p)) pos) ds P := fun B Kf σ Hf H D E kf A => by
  obtain ⟨v, fq, hv, w, nd, hn, _⟩ := E.own g
  exact ⟨_, ps_ret h.pe, v, hv, A.rt _ v Hf H q E.toBk ⟨fq, w, nd, fun a ha => ⟨(hn a ha).2.2, (hn a ha).2.1⟩⟩⟩
theorem xs_pass (q : P.nx ds) : XS Tb X (.Pass pos) ds P := fun B Kf σ Hf H D E kf A => ⟨_, ps_pass, A.nx _ _ _ _ q E kf⟩
theorem xs_break (q : P.bk ds) : XS Tb X (.Break pos) ds P := fun B Kf σ Hf H D E kf A => ⟨_, ps_break, A.bk _ _ _ _ q E kf⟩
theorem xs_continue (q : P.ct ds) : XS Tb X (.Continue pos) ds P := fun B Kf σ Hf H D E kf A => ⟨_, ps_continue, A.ct _ _ _ _ q E kf⟩
theorem xs_imp {P' : Po} (h : XS Tb X st ds P) (h1 : ∀ ds, P.nx ds → P'.nx ds) (h2 : ∀ r, P.rt r → P'.rt r) (h3 : ∀ ds, P.bk ds → P'.bk ds) (h4 : ∀ ds, P.ct ds → P'.ct ds) : XS Tb X st ds P' := fun B Kf σ Hf H D E kf A =>
  h B Kf σ Hf H D E kf ⟨fun ds σ Hf H q => A.nx ds σ Hf H (h1 ds q), fun ds σ Hf H q => A.bk ds σ Hf H (h3 ds q), fun ds σ Hf H q => A.ct ds σ Hf H (h4 ds q), fun r v Hf H q => A.rt r v Hf H (h2 r q)⟩
theorem xs_sub (z : Sub ds ds') (h : XS Tb X st ds' P) : XS Tb X st ds P := fun B Kf σ Hf H D E kf A => h B Kf σ Hf H D (E.weak z) kf A

/-! ### targets -/
structure Tg (X : Cx) (x : Str) (i : Nat) : Prop where
  nd : X.N.Nodup
  n : X.N[i]? = some x
  l : Loc X.env.scope x
  f : X.fn x = true ∨ X.env.scope.names.lookup x = some .local
/-- js: the slots that change -/
def XG (Tb : Tbs) (X : Cx) (tg : Expr) (d : Dt) (ds ds' : List Slot) (js : List Nat) : Prop := ∀ B σ Hf H v, En X.K Tb B Hf H σ ds → Rep X.K Hf v d → ∀ Q : L2.St → Hp → Prop,
  (∀ σ', En X.K Tb B Hf H σ' ds' → σ'.length = σ.length → (∀ k, k ∉ js → σ'[k]? = σ[k]?) → Q σ' H) → tMaxG X tg v σ H Q
def tMaxGs (X : Cx) (ts : List Expr) : TGs := fun vs σ H Q => ∃ t, PGs X ts t ∧ t vs σ H Q
theorem pgs_max {ts : List Expr} : PGs X ts (tMaxGs X ts) := ⟨fun pins s σ H v u Q I r ⟨_, h, q⟩ => h.run pins s σ H v u Q I r q⟩
def XGs (Tb : Tbs) (X : Cx) (ts : List Expr) (dl : List Dt) (ds ds' : List Slot) (js : List Nat) : Prop := ∀ B σ Hf H vs, En X.K Tb B Hf H σ ds → RepL X.K Hf vs dl → ∀ Q : L2.St → Hp → Prop,
  (∀ σ', En X.K Tb B Hf H σ' ds' → σ'.length = σ.length → (∀ k, k ∉ js → σ'[k]? = σ[k]?) → Q σ' H) → tMaxGs X ts vs σ H Q
theorem xg_name {x : Str} {i : Nat} (t : Tg X x i) : XG Tb X (.Name x pos) d ds (ds.set i (.fz d)) [i] := fun B σ Hf H v E r Q q =>
  ⟨_, pg_name t.nd t.n t.l t.f, q _ (E.setF r) (by rw [List.length_set]) fun k hk => List.getElem?_set_ne (fun z => hk (by rw [z]; exact List.mem_singleton.mpr rfl))⟩
theorem xgs_nil : XGs Tb X [] [] ds ds [] := fun B σ Hf H vs E r Q q => ⟨_, pgs_nil, r.nil_of, q σ E rfl fun _ _ => rfl⟩
theorem xgs_cons {t : Expr} {ts : List Expr} {dl : List Dt} {ds1 ds2 : List Slot} {js ks : List Nat} (h : XG Tb X t d ds ds1 js) (g : XGs Tb X ts dl ds1 ds2 ks) (hs : (assignEach (t :: ts) X.env).map (·.2) = assign t X.env :: (assignEach ts X.env).map (·.2) := by rfl) :
    XGs Tb X (t :: ts) (d :: dl) ds ds2 (js ++ ks) := fun B σ Hf H vs E r Q q => by
  obtain ⟨v, w, rfl, r1, r2⟩ := r.cons_of
  refine ⟨_, pgs_cons pg_max pgs_max hs, v, w, rfl, ?_⟩
  refine h B σ Hf H v E r1 _ fun σ1 E1 l1 k1 => ?_
  exact g B σ1 Hf H w E1 r2 _ fun σ2 E2 l2 k2 => q σ2 E2 (l2.trans l1) fun k hk => (k2 k fun z => hk (List.mem_append_right _ z)).trans (k1 k fun z => hk (List.mem_append_left _ z))
theorem xg_tup {ts : List Expr} {dl : List Dt} {j : Nat} {js : List Nat} (hc : X.calm = true) (g : XGs Tb X ts dl ds ds' js)
    (hn : (assignEach ts X.env).length = dl.length := by rfl) (hst : (assignEach ts X.env).findIdx? (·.1) = none := by rfl) : XG Tb X (.Tuple ts j pos) (.tuple dl) ds ds' js := fun B σ Hf H v E r Q q => by
  obtain ⟨a, xs, rfl, h1, h2⟩ := r.tup_of
  refine ⟨_, pg_tup hc pgs_max hn hst, a, xs, rfl, ex_t E.fh.ex h1, h2.length, ?_⟩
  exact g B σ Hf H xs E h2 Q q

/-! ### assignments -/
theorem xs_set {x : Str} {i : Nat} {p' : Pos} (t : Tg X x i) (h : XP Tb X e ds d) (q : P.nx (ds.set i (.fz d))) (hs : swapsWith e (some (.Name x p')) pos.line X.env = pure false := by rfl) : XS Tb X (.Assign [.Name x p'] e pos) ds P := fun B Kf σ Hf H D E kf A =>
  ⟨_, ps_set t.nd t.n t.l pe_max hs t.f, h B σ Hf H E _ fun v Hf1 H1 x1 r => A.nx _ _ Hf1 H1 q ((E.ext x1).setF r) (kf.trans x1.ff)⟩
theorem xs_setO {x : Str} {i : Nat} {p' : Pos} (t : Tg X x i) (h : XO Tb X e ds o) (q : P.nx (ds.set i (.ow o))) (hs : swapsWith e (some (.Name x p')) pos.line X.env = pure false := by rfl) : XS Tb X (.Assign [.Name x p'] e pos) ds P := fun B Kf σ Hf H D E kf A =>
  ⟨_, ps_set t.nd t.n t.l pe_max hs t.f, h B σ Hf H E _ fun v Hf1 H1 fp x1 w nd fr => A.nx _ _ Hf1 H1 q (E.setN x1 w nd fr) (kf.trans x1.ff)⟩
theorem xs_asg {tg : Expr} {js : List Nat} (h : XP Tb X e ds d) (g : XG Tb X tg d ds ds' js) (q : P.nx ds') (hs : swapsWithSole [tg] e pos.line X.env = pure false := by rfl) (hw : swappedStores [tg] e X.env = pure none := by rfl)
    (h1 : (assignEach [tg] X.env).map (·.2) = [assign tg X.env] := by rfl) : XS Tb X (.Assign [tg] e pos) ds P := fun B Kf σ Hf H D E kf A =>
  ⟨_, ps_asg pe_max pg_max hs hw h1, h B σ Hf H E _ fun v Hf1 H1 x1 r => g B σ Hf1 H1 v (E.ext x1) r _ fun σ' E' _ _ => A.nx _ _ Hf1 H1 q E' (kf.trans x1.ff)⟩
theorem xs_aug {x : Str} {i : Nat} {p' : Pos} {op : Operator} {d0 : Dt} {ti : TIp} (t : Tg X x i) (g : ds[i]? = some (.fz d0)) (h : XP Tb X e ds d1) (ho : PIp X op ti) (hv : ∀ x y Hf H, Kp Tb Hf H → Rep X.K Hf x d0 → Rep X.K Hf y d1 → ∀ Q : VK, Vk Tb X.K Hf H d Q → ti x y H Q) (q : P.nx (ds.set i (.fz d))) :
    XS Tb X (.AugAssign (.Name x p') op e pos) ds P := fun B Kf σ Hf H D E kf A => by
  obtain ⟨fp, h1, _⟩ := E.sl
  obtain ⟨v, hv', r0⟩ := h1 i _ g
  refine ⟨_, ps_aug t.nd t.n t.l pe_max ho t.f, v, hv', ?_⟩
  refine h B σ Hf H E _ fun y Hf1 H1 x1 r => ?_
  exact hv v y Hf1 H1 x1.kp (r0.mono x1.ff) r _ fun z Hf2 H2 x2 r2 => A.nx _ _ Hf2 H2 q ((E.ext (x1.trans x2)).setF r2) (kf.trans (x1.trans x2).ff)
theorem xs_augI {x : Str} {i : Nat} {p' : Pos} {op : Operator} {f : Int → Int → Int} {m n : Int} (t : Tg X x i) (g : ds[i]? = some (.fz (.int m))) (h : XP Tb X e ds (.int n)) (ho : PIp X op (ipI f)) (q : P.nx (ds.set i (.fz (.int (f m n))))) :
    XS Tb X (.AugAssign (.Name x p') op e pos) ds P := xs_aug t g h ho (fun x y Hf H kp hx hy Q q => by
  cases hx.int_of
  cases hy.int_of
  exact ⟨m, n, rfl, rfl, q _ Hf H kp.refl (.int _)⟩) q

/-! ### lists that change -/
theorem xs_app {x : Str} {i : Nat} {p ap cp : Pos} {xs : List Dt} (h : At X x i) (g : ds[i]? = some (.ow (.lst xs))) (he : XP Tb X e ds d) (hl : xs.length < LN) (q : P.nx (ds.set i (.ow (.lst (xs ++ [d]))))) (hline : (ap.endLine == cp.line) = true := by rfl)
    (hs : starEach [e] X.env = [(false, eval e X.env)] := by rfl) (hsw : swapsWith (.Call (.Attribute (.Name x p) "append" ap) [e] [] cp) none pos.line X.env = pure false := by rfl) (hb : attributeBase (.Name x p) "append" X.env (eval (.Name x p) X.env) = eval (.Name x p) X.env := by rfl) :
    XS Tb X (.Expr (.Call (.Attribute (.Name x p) "append" ap) [e] [] cp) pos) ds P := fun B Kf σ Hf H D E kf A => by
  refine ⟨_, ps_expr (pe_bm PySem.F.plainAttrs_list PySem.F.slot_list_append PySem.F.type_list_append mt_append h.pe (pa_cons pe_max pa_nil hs) hb (by rw [hs]; rfl) hline hs) hsw, ?_⟩
  obtain ⟨v, fq, hv, w, nd, hn, back⟩ := E.own g
  refine ⟨v, hv, ?_⟩
  obtain ⟨p, vs, rfl, rfl, hp, r, _⟩ := w
  refine ⟨.inl ⟨rfl, vs, SqL.of hp⟩, ?_⟩
  refine he B σ Hf H E _ fun y Hf1 H1 x1 r1 => ?_
  have hp1 : H1 p = some (.lst vs) := x1.hh p _ hp rfl
  have E1 := E.ext x1
  obtain ⟨v', fq', hv', w', nd', hn', back'⟩ := E1.own g
  rw [hv] at hv'
  cases hv'
  obtain ⟨p', vs', e', rfl, hp', r', _⟩ := w'
  cases e'
  rw [hp1] at hp'
  cases hp'
  refine ⟨p, vs, y, rfl, rfl, hp1, by rw [r.length]; exact sz_lt hl, ?_⟩
  refine A.nx _ _ Hf1 _ q (back' _ _ (fun a ha => upd_ne fun z => ha (by rw [z]; exact List.mem_singleton.mpr rfl)) (fun a ha => ?_) ⟨p, _, rfl, rfl, upd_same, r'.append (.one r1), by rw [List.length_append, List.length_singleton]; exact hl⟩) (kf.trans x1.ff)
  cases List.mem_singleton.mp ha
  exact ⟨_, upd_same, rfl⟩
end
end Pk

set_option Elab.async false
set_option linter.all false
set_option maxRecDepth 100000
set_option maxHeartbeats 1000000
/-! G5: loops, and blocks with their mirrors in Option. -/
namespace Pk
open PySem PySem.Spec PyProof.Rows L2 GxR

/-- how a turn ends: on, out of the loop, out of the def -/
inductive Fl (S R : Type) where
  | nx (s : S)
  | bk (s : S)
  | rt (r : R)
def forF {α S R : Type} : List α → S → (α → S → Option (Fl S R)) → Option (Fl S R)
  | [], s, _ => some (.nx s)
  | x :: r, s, f => (f x s).bind fun o => match o with
    | .nx s' => forF r s' f
    | .bk s' => some (.bk s')
    | .rt v => some (.rt v)
def forM {α S : Type} : List α → S → (α → S → Option S) → Option S
  | [], s, _ => some s
  | x :: r, s, f => (f x s).bind fun s' => forM r s' f
theorem forM_F {α S R : Type} (f : α → S → Option S) : ∀ (xs : List α) (s : S), forF (R := R) xs s (fun x s => (f x s).map .nx) = (forM xs s f).map .nx
  | [], s => rfl
  | x :: r, s => by
    unfold forF forM
    cases h : f x s with
    | none => simp [h]
    | some s' =>
      simp [h]
      exact forM_F f r s'
def whF {S R : Type} (c : S → Option Bool) (f : S → Option (Fl S R)) : Nat → S → Option (Fl S R)
  | 0, _ => none
  | n + 1, s => (c s).bind fun b => if b = true then (f s).bind fun o => match o with
    | .nx s' => whF c f n s'
    | .bk s' => some (.bk s')
    | .rt v => some (.rt v)
  else some (.nx s)
def whM {S : Type} (c : S → Option Bool) (f : S → Option S) : Nat → S → Option S
  | 0, _ => none
  | n + 1, s => (c s).bind fun b => if b = true then (f s).bind fun s' => whM c f n s' else some s
theorem whM_F {S R : Type} (c : S → Option Bool) (f : S → Option S) : ∀ (n : Nat) (s : S), whF (R := R) c (fun s => (f s).map .nx) n s = (whM c f n s).map .nx
  | 0, s => rfl
  | n + 1, s => by
    unfold whF whM
    cases h : c s with
    | none => rfl
    | some b =>
      cases b with
      | false => rfl
      | true =>
        show ((f s).map Fl.nx).bind _ = _
        cases g : f s with
        | none => simp [g]
        | some s' =>
          simp [g]
          exact whM_F c f n s'

/-- where a body runs -/
structure Bse (X : Cx) : Prop where
  calm : X.calm = true
  nd : X.N.Nodup
  po : PassesOwn (model X.prog X.w) X.A X.env X.xe

/-! ### what is walked -/
structure ItOk (K : Frag) (Tb : Tbs) (J : It) (Hf0 : Hp) (ys : List Dt) : Prop where
  go : ∀ i y Hf H, ys[i]? = some y → Ex Hf0 Hf → Kp Tb Hf H → J.go i H ∧ ∀ x H', J.yld i H x H' → ∃ Hf', Ext Tb Hf H Hf' H' ∧ Rep K Hf' x y
  stop : ∀ i Hf H, ys.length ≤ i → Ex Hf0 Hf → Kp Tb Hf H → J.stop i H
/-- b: at most LN of them -/
def XI (Tb : Tbs) (X : Cx) (tg it : Expr) (ds : List Slot) (ys : List Dt) (b : Bool) : Prop := ∀ B σ Hf H, En X.K Tb B Hf H σ ds → ∀ R : It → Hp → Prop, (∀ J Hf' H', Ext Tb Hf H Hf' H' → ItOk X.K Tb J Hf' ys → (b = true → ys.length ≤ LN) → R J H') → tMaxI X tg it σ H R
section
variable {Tb : Tbs} {X : Cx} {tg e : Expr} {ds : List Slot} {ys : List Dt}
theorem XI.is {ys' : List Dt} {b : Bool} (h : XI Tb X tg e ds ys b) (z : ys = ys') : XI Tb X tg e ds ys' b := z ▸ h
theorem xi_tup (h : XP Tb X e ds (.tuple ys)) : XI Tb X tg e ds ys true := fun B σ Hf H E R q => by
  refine ⟨_, pi_tup pe_max, ?_⟩
  refine h B σ Hf H E _ fun v Hf1 H1 x1 r => ?_
  have hl := r.tup_len
  obtain ⟨a, xs, rfl, h1, h2⟩ := r.tup_of
  refine ⟨a, rfl, ⟨xs, ex_t x1.fh.ex h1⟩, q _ Hf1 H1 x1 ⟨fun i y Hf H hy ef kp => ?_, fun i Hf H hi ef kp => ?_⟩ fun _ => hl⟩
  · have g : SqT X.K H a xs := ex_t (ef.trans kp.le.ex) h1
    obtain ⟨v, hv, rv⟩ := h2.getD hy
    refine ⟨⟨xs, v, g, hv⟩, fun x H' z => ⟨Hf, ?_⟩⟩
    obtain ⟨rfl, z⟩ := z
    have := z xs g
    rw [hv] at this
    cases this
    exact ⟨kp.refl, rv.mono ef⟩
  · exact ⟨xs, ex_t (ef.trans kp.le.ex) h1, by rw [h2.length]; exact hi⟩
theorem xi_lst (h : XP Tb X e ds (.list ys)) : XI Tb X tg e ds ys true := fun B σ Hf H E R q => by
  refine ⟨_, pi_list pe_max, ?_⟩
  refine h B σ Hf H E _ fun v Hf1 H1 x1 r => ?_
  have hl := r.lst_len
  obtain ⟨a, xs, rfl, h1, h2⟩ := r.lst_of
  refine ⟨a, rfl, ⟨xs, ex_l x1.fh.ex h1⟩, q _ Hf1 H1 x1 ⟨fun i y Hf H hy ef kp => ?_, fun i Hf H hi ef kp => ?_⟩ fun _ => hl⟩
  · have g : SqL X.K H a xs := ex_l (ef.trans kp.le.ex) h1
    obtain ⟨v, hv, rv⟩ := h2.getD hy
    refine ⟨⟨xs, v, g, hv⟩, fun x H' z => ⟨Hf, ?_⟩⟩
    obtain ⟨rfl, z⟩ := z
    have := z xs g
    rw [hv] at this
    cases this
    exact ⟨kp.refl, rv.mono ef⟩
  · exact ⟨xs, ex_l (ef.trans kp.le.ex) h1, by rw [h2.length]; exact hi⟩
/-- the numbers of range(lo, hi) -/
def rng (lo hi : Int) : List Int := (List.range (hi - lo).toNat).map fun (i : Nat) => lo + (i : Int)
theorem rng_get {lo hi : Int} {i : Nat} (h : i < (hi - lo).toNat) : (rng lo hi)[i]? = some (lo + (i : Int)) := by
  unfold rng
  rw [List.getElem?_map, List.getElem?_range h]
  rfl
theorem rng_len (lo hi : Int) : (rng lo hi).length = (hi - lo).toNat := by
  unfold rng
  rw [List.length_map, List.length_range]
/-- no more numbers than a list may have -/
def rngLn (lo hi : Int) : Bool := decide (hi - lo ≤ 1000000)
theorem rngLn_c {lo hi : Int} (h : rngLn lo hi = true) : ((rng lo hi).map PyData.int).length ≤ LN := by
  have := of_decide_eq_true h
  rw [List.length_map, rng_len]
  show (hi - lo).toNat ≤ 1000000
  omega
def rngOk (i : Int) : Bool := decide (-(2 ^ 62) ≤ i) && decide (i < 2 ^ 62)
theorem rngOk_c {i : Int} (h : rngOk i = true) : -(2 ^ 62) ≤ i ∧ i < 2 ^ 62 := by
  unfold rngOk at h
  simp only [Bool.and_eq_true, decide_eq_true_eq] at h
  exact h
theorem xi_rng1 {a : Expr} {p pos : Pos} {n : Int} (hg : Gl X "range") (hm : X.mg "range" = none) (h : XA Tb X [a] ds [.int n]) (hn : rngOk n = true) (hs : starEach [a] X.env = [(false, eval a X.env)] := by rfl) :
    XI Tb X tg (.Call (.Name "range" p) [a] [] pos) ds ((rng 0 n).map .int) (rngLn 0 n) := fun B σ Hf H E R q => by
  refine ⟨_, pi_range1 hg hm pa_max hs, ?_⟩
  refine h B σ Hf H E _ fun vs Hf1 H1 x1 r => ?_
  obtain ⟨v, rfl, r1⟩ := r.one_of
  cases r1.int_of
  obtain ⟨b1, b2⟩ := rngOk_c hn
  refine ⟨n, rfl, b1, b2, q _ Hf1 H1 x1 ⟨fun i y Hf H hy ef kp => ?_, fun i Hf H hi ef kp => ?_⟩ rngLn_c⟩
  · have hi : i < n.toNat := by
      have := (List.getElem?_eq_some_iff.mp hy).1
      rw [List.length_map, rng_len] at this
      omega
    have e1 : ((rng 0 n).map PyData.int)[i]? = some (.int (0 + (i : Int))) := by
      rw [List.getElem?_map, rng_get (by omega)]
      rfl
    rw [e1] at hy
    cases hy
    refine ⟨hi, fun x H' z => ⟨Hf, ?_⟩⟩
    obtain ⟨rfl, rfl⟩ := z
    exact ⟨kp.refl, .int _⟩
  · rw [List.length_map, rng_len] at hi
    show n.toNat ≤ i
    omega
theorem xi_rng2 {a b : Expr} {p pos : Pos} {m n : Int} (hg : Gl X "range") (hm : X.mg "range" = none) (h : XA Tb X [a, b] ds [.int m, .int n]) (hn1 : rngOk m = true) (hn : rngOk n = true) (hs : starEach [a, b] X.env = [(false, eval a X.env), (false, eval b X.env)] := by rfl) (hs2 : starEach [b] X.env = [(false, eval b X.env)] := by rfl) :
    XI Tb X tg (.Call (.Name "range" p) [a, b] [] pos) ds ((rng m n).map .int) (rngLn m n) := fun B σ Hf H E R q => by
  refine ⟨_, pi_range2 hg hm pa_max hs hs2, ?_⟩
  refine h B σ Hf H E _ fun vs Hf1 H1 x1 r => ?_
  obtain ⟨v, w, rfl, r1, r2⟩ := r.two_of
  cases r1.int_of
  cases r2.int_of
  obtain ⟨b1, b2⟩ := rngOk_c hn
  obtain ⟨b3, b4⟩ := rngOk_c hn1
  refine ⟨m, n, rfl, ⟨b3, b4, b1, b2⟩, q _ Hf1 H1 x1 ⟨fun i y Hf H hy ef kp => ?_, fun i Hf H hi ef kp => ?_⟩ rngLn_c⟩
  · have hi : i < (n - m).toNat := by
      have := (List.getElem?_eq_some_iff.mp hy).1
      rw [List.length_map, rng_len] at this
      omega
    have e1 : ((rng m n).map PyData.int)[i]? = some (.int (m + (i : Int))) := by
      rw [List.getElem?_map, rng_get (by omega)]
      rfl
    rw [e1] at hy
    cases hy
    refine ⟨hi, fun x H' z => ⟨Hf, ?_⟩⟩
    obtain ⟨rfl, rfl⟩ := z
    exact ⟨kp.refl, .int _⟩
  · rw [List.length_map, rng_len] at hi
    exact hi

/-- range(len(e)) -/
theorem xi_rngL {a : Expr} {p p2 pos pos2 : Pos} {n : Nat} (hg : Gl X "range") (hm : X.mg "range" = none) (h : ∀ B σ Hf H, En X.K Tb B Hf H σ ds → ∀ Q : VK, (∀ Hf' H', Ext Tb Hf H Hf' H' → n ≤ LN → Q (.int (n : Int)) H') → tMax X a σ H Q) (hs : starEach [a] X.env = [(false, eval a X.env)] := by rfl) :
    XI Tb X tg (.Call (.Name "range" p) [a] [] pos) ds ((rng 0 (n : Int)).map .int) true := fun B σ Hf H E R q => by
  refine ⟨_, pi_range1 hg hm (pa_cons pe_max pa_nil hs) hs, ?_⟩
  refine h B σ Hf H E _ fun Hf1 H1 x1 hn => ?_
  have hb : n ≤ 1000000 := hn
  refine ⟨(n : Int), rfl, by omega, by omega, q _ Hf1 H1 x1 ⟨fun i y Hf H hy ef kp => ?_, fun i Hf H hi ef kp => ?_⟩ fun _ => by rw [List.length_map, rng_len]; show ((n : Int) - 0).toNat ≤ 1000000; omega⟩
  · have hi : i < n := by
      have := (List.getElem?_eq_some_iff.mp hy).1
      rw [List.length_map, rng_len] at this
      omega
    have e1 : ((rng 0 (n : Int)).map PyData.int)[i]? = some (.int (0 + (i : Int))) := by
      rw [List.getElem?_map, rng_get (by omega)]
      rfl
    rw [e1] at hy
    cases hy
    refine ⟨by show i < ((n : Int)).toNat; omega, fun x H' z => ⟨Hf, ?_⟩⟩
    obtain ⟨rfl, rfl⟩ := z
    exact ⟨kp.refl, .int _⟩
  · rw [List.length_map, rng_len] at hi
    show ((n : Int)).toNat ≤ i
    omega

/-! ### for, while -/
def noP {α : Type} : α → Prop := fun _ => False
def JL {S R : Type} (slots : S → List Slot) (rt : R → Ro → Prop) : Fl S R → Po
  | .nx s => ⟨fun ds => Sub ds (slots s), noP, noP, fun ds => Sub ds (slots s)⟩
  | .bk s => ⟨noP, noP, fun ds => Sub ds (slots s), noP⟩
  | .rt r => ⟨noP, rt r, noP, noP⟩
theorem drop_cons {α : Type} : ∀ {xs : List α} {i : Nat} {x : α}, xs[i]? = some x → xs.drop i = x :: xs.drop (i + 1)
  | [], _, _, h => by cases h
  | y :: r, 0, x, h => by
    cases h
    rfl
  | y :: r, i + 1, x, h => drop_cons (xs := r) (i := i) h
variable {body : List Stmt} {pos : Pos} {P : Po}
theorem xs_for {α S R : Type} {items : List α} {en : α → Dt} {slots : S → List Slot} {rt : R → Ro → Prop} {f : α → S → Option (Fl S R)} {s0 : S} {out : Fl S R} (hX : Bse X) {bb : Bool} (hi : XI Tb X tg e ds (items.map en) bb) (h0 : Sub ds (slots s0)) (hf : forF items s0 f = some out)
    (hb : ∀ x s o, f x s = some o → ∃ dt js, XG Tb X tg (en x) (slots s) dt js ∧ XB Tb X body dt (JL slots rt o)) (hn : ∀ s, (out = .nx s ∨ out = .bk s) → P.nx (slots s)) (hr : ∀ r ro, out = .rt r → rt r ro → P.rt ro) (hs : ∀ x, foldedSetIterable e X.env x = pure x := by intro _; rfl) :
    XS Tb X (.For tg e body [] pos) ds P := fun B Kf σ Hf H D E kf A => by
  refine ⟨_, ps_for hX.po hX.calm pi_max pg_max pss_max hs, ?_⟩
  refine hi B σ Hf H E _ fun J Hf1 H1 x1 ok _ => ?_
  have kf1 : Ex Kf Hf1 := kf.trans x1.ff
  refine ⟨fun i m σ H => m = items.length - i ∧ i ≤ items.length ∧ ∃ Hf s, En X.K Tb B Hf H σ (slots s) ∧ Ex Hf1 Hf ∧ forF (items.drop i) s f = some out, ⟨items.length, rfl, Nat.zero_le _, Hf1, s0, (E.ext x1).weak h0, Ex.refl _, by rw [List.drop_zero]; exact hf⟩, ?_⟩
  rintro i m σ H ⟨rfl, hi, Hf, s, E, ef, hs⟩
  by_cases hlt : i < items.length
  · have gx : items[i]? = some items[i] := List.getElem?_eq_getElem hlt
    have gy : (items.map en)[i]? = some (en items[i]) := by rw [List.getElem?_map, gx]; rfl
    obtain ⟨g1, g2⟩ := ok.go i _ Hf H gy ef E.kp
    rw [drop_cons gx] at hs
    unfold forF at hs
    cases hfx : f items[i] s with
    | none => rw [hfx] at hs; cases hs
    | some o =>
      rw [hfx] at hs
      refine .inr ⟨g1, fun σ' H' => (items.length - (i + 1)) = items.length - (i + 1) ∧ i + 1 ≤ items.length ∧ ∃ Hf s, En X.K Tb B Hf H' σ' (slots s) ∧ Ex Hf1 Hf ∧ forF (items.drop (i + 1)) s f = some out, fun σ' H' q => ⟨items.length - (i + 1), by omega, q⟩, fun x H' y => ?_⟩
      obtain ⟨Hf2, x2, rx⟩ := g2 x H' y
      obtain ⟨dt, js, hg, hbd⟩ := hb _ _ _ hfx
      refine hg B σ Hf2 H' x (E.ext x2) rx _ fun σ2 E2 _ _ => ?_
      refine hbd B Hf1 σ2 Hf2 H' _ E2 (ef.trans x2.ff) ?_
      cases o with
      | nx s' =>
        have hs' : forF (items.drop (i + 1)) s' f = some out := hs
        exact ⟨fun d σ Hf H q E k => ⟨rfl, hlt, Hf, s', E.weak q, k, hs'⟩, fun _ _ _ _ q => q.elim, fun d σ Hf H q E k => ⟨rfl, hlt, Hf, s', E.weak q, k, hs'⟩, fun _ _ _ _ q => q.elim⟩
      | bk s' =>
        have hs' : out = .bk s' := (Option.some.inj hs).symm
        exact ⟨fun _ _ _ _ q => q.elim, fun d σ Hf H q E k => A.nx _ σ Hf H (hn s' (.inr hs')) (E.weak q) (kf1.trans k), fun _ _ _ _ q => q.elim, fun _ _ _ _ q => q.elim⟩
      | rt r =>
        have hs' : out = .rt r := (Option.some.inj hs).symm
        exact ⟨fun _ _ _ _ q => q.elim, fun _ _ _ _ q => q.elim, fun _ _ _ _ q => q.elim, fun ro v Hf H q => A.rt ro v Hf H (hr r ro hs' q)⟩
  · have e1 : i = items.length := by omega
    refine .inl ⟨ok.stop i Hf H (by rw [List.length_map]; omega) ef E.kp, ?_⟩
    rw [e1, List.drop_length] at hs
    have hs' : out = .nx s := (Option.some.inj hs).symm
    exact A.nx _ σ Hf H (hn s (.inl hs')) E (kf1.trans ef)
theorem xs_while {S R : Type} {c : Expr} {slots : S → List Slot} {rt : R → Ro → Prop} {cm : S → Option Bool} {f : S → Option (Fl S R)} {n : Nat} {s0 : S} {out : Fl S R} (hX : Bse X) (h0 : Sub ds (slots s0)) (hf : whF cm f n s0 = some out) (hc : ∀ s b, cm s = some b → XT Tb X c (slots s) b)
    (hb : ∀ s o, cm s = some true → f s = some o → XB Tb X body (slots s) (JL slots rt o)) (hn : ∀ s, (out = .nx s ∨ out = .bk s) → P.nx (slots s)) (hr : ∀ r ro, out = .rt r → rt r ro → P.rt ro) :
    XS Tb X (.While c body [] pos) ds P := fun B Kf σ Hf H D E kf A => by
  refine ⟨_, ps_while hX.po pt_max pss_max, ?_⟩
  refine ⟨fun m σ H => ∃ Hf s, En X.K Tb B Hf H σ (slots s) ∧ Ex Kf Hf ∧ whF cm f m s = some out, ⟨n, Hf, s0, E.weak h0, kf, hf⟩, ?_⟩
  rintro m σ H ⟨Hf, s, E, kf, hs⟩
  cases m with
  | zero => cases hs
  | succ m =>
    unfold whF at hs
    cases hcs : cm s with
    | none => rw [hcs] at hs; cases hs
    | some b =>
      rw [hcs] at hs
      refine hc s b hcs B σ Hf H E _ fun Hf1 H1 x1 => ?_
      cases b with
      | true =>
        rw [if_pos rfl]
        have hs1 : ((f s).bind fun o => match o with
          | .nx s' => whF cm f m s'
          | .bk s' => some (.bk s')
          | .rt v => some (.rt v)) = some out := hs
        cases hfs : f s with
        | none => rw [hfs] at hs1; cases hs1
        | some o =>
          rw [hfs] at hs1
          refine ⟨fun σ' H' => ∃ Hf s, En X.K Tb B Hf H' σ' (slots s) ∧ Ex Kf Hf ∧ whF cm f m s = some out, fun σ' H' q => ⟨m, Nat.lt_succ_self m, q⟩, ?_⟩
          refine hb s o hcs hfs B Kf σ Hf1 H1 _ (E.ext x1) (kf.trans x1.ff) ?_
          cases o with
          | nx s' =>
            have hs' : whF cm f m s' = some out := hs1
            exact ⟨fun d σ Hf H q E k => ⟨Hf, s', E.weak q, k, hs'⟩, fun _ _ _ _ q => q.elim, fun d σ Hf H q E k => ⟨Hf, s', E.weak q, k, hs'⟩, fun _ _ _ _ q => q.elim⟩
          | bk s' =>
            have hs' : out = .bk s' := (Option.some.inj hs1).symm
            exact ⟨fun _ _ _ _ q => q.elim, fun d σ Hf H q E k => A.nx _ σ Hf H (hn s' (.inr hs')) (E.weak q) k, fun _ _ _ _ q => q.elim, fun _ _ _ _ q => q.elim⟩
          | rt r =>
            have hs' : out = .rt r := (Option.some.inj hs1).symm
            exact ⟨fun _ _ _ _ q => q.elim, fun _ _ _ _ q => q.elim, fun _ _ _ _ q => q.elim, fun ro v Hf H q => A.rt ro v Hf H (hr r ro hs' q)⟩
      | false =>
        rw [if_neg Bool.false_ne_true]
        have hs' : out = .nx s := (Option.some.inj hs).symm
        exact A.nx _ σ Hf1 H1 (hn s (.inl hs')) (E.ext x1) (kf.trans x1.ff)
end

/-! ### blocks and their mirrors -/
def BM {O : Type} (Tb : Tbs) (X : Cx) (sts : List Stmt) (ds : List Slot) (J : O → Po) (m : Option O) : Prop := ∀ o, m = some o → XB Tb X sts ds (J o)
def XM {α : Type} (Tb : Tbs) (X : Cx) (e : Expr) (ds : List Slot) (en : α → Dt) (m : Option α) : Prop := ∀ x, m = some x → XP Tb X e ds (en x)
def XTM (Tb : Tbs) (X : Cx) (e : Expr) (ds : List Slot) (m : Option Bool) : Prop := ∀ x, m = some x → XT Tb X e ds x
/-- then the rest -/
def thJ {O : Type} (Tb : Tbs) (X : Cx) (rest : List Stmt) (J : O → Po) : O → Po := fun o => { J o with nx := fun ds => XB Tb X rest ds (J o) }
/-- a block that ends in a state s -/
def JS {S : Type} (slots : S → List Slot) : S → Po := fun s => ⟨fun ds => Sub ds (slots s), noP, noP, noP⟩
/-- a def's body: r is handed back -/
def JR {R : Type} (en : R → Ro) : R → Po := fun r => ⟨fun _ => en r = .fz .none, fun ro => ro = en r, noP, noP⟩
/-- on to k, or out -/
def on {S R O : Type} (k : S → Option O) (inj : R → O) : Fl S R → Option O
  | .nx s => k s
  | .bk s => k s
  | .rt r => some (inj r)
theorem bind_some {α β : Type} {m : Option α} {k : α → Option β} {o : β} (h : m.bind k = some o) : ∃ t, m = some t ∧ k t = some o := by
  cases m with
  | none => cases h
  | some t => exact ⟨t, rfl, h⟩
section
variable {O α S R : Type} {Tb : Tbs} {X : Cx} {e c tg : Expr} {st : Stmt} {sts rest A1 A2 body : List Stmt} {ds ds' : List Slot} {d : Dt} {o : Ob} {pos : Pos} {J : O → Po} {m m1 m2 : Option O} {k : Bool}
theorem bm_bind {ma : Option α} {g : α → Option O} (h : ∀ t, ma = some t → BM Tb X sts ds J (g t)) : BM Tb X sts ds J (ma.bind g) := fun o q => by
  obtain ⟨t, h1, h2⟩ := bind_some q
  exact h t h1 o h2
theorem bm_let {v : α} {g : α → Option O} (h : ∀ t, t = v → BM Tb X sts ds J (g t)) : BM Tb X sts ds J (g v) := h v rfl
theorem bm_none : BM Tb X sts ds J none := fun o q => by cases q
theorem bm_sub (z : Sub ds ds') (h : BM Tb X sts ds' J m) : BM Tb X sts ds J m := fun o q => xb_sub z (h o q)
theorem bm_frz {i : Nat} {xs : List Dt} (g : ds[i]? = some (.ow (.lst xs))) (h : BM Tb X sts (ds.set i (.fz (.list xs))) J m) : BM Tb X sts ds J m := fun o q => xb_frz g (h o q)
/-- a statement that goes on from ds' -/
theorem bm_st (h : ∀ P : Po, P.nx ds' → XS Tb X st ds P) (g : BM Tb X rest ds' J m) : BM Tb X (st :: rest) ds J m := fun o q => xb_cons (h _ (g o q))
theorem bm_end (g : BM Tb X rest ds J m) : BM Tb X [] ds (thJ Tb X rest J) m := fun o q => xb_nil (g o q)
theorem bm_endS {slots : S → List Slot} {s : S} (z : Sub ds (slots s)) : BM Tb X [] ds (JS slots) (some s) := fun o q => by
  cases q
  exact xb_nil z
theorem bm_endL {slots : S → List Slot} {rt : R → Ro → Prop} {s : S} (z : Sub ds (slots s)) : BM Tb X [] ds (JL slots rt) (some (.nx s)) := fun o q => by
  cases q
  exact xb_nil z
/-- the body's end: None is handed back -/
theorem bm_endR {en : R → Ro} {r : R} (z : en r = .fz .none) : BM Tb X [] ds (JR en) (some r) := fun o q => by
  cases q
  exact xb_nil z
theorem bm_if (h : XT Tb X c ds k) (h1 : k = true → BM Tb X A1 ds (thJ Tb X rest J) m1) (h2 : k = false → BM Tb X A2 ds (thJ Tb X rest J) m2) : BM Tb X (.If c A1 A2 pos :: rest) ds J (if k = true then m1 else m2) := fun o q =>
  xb_cons (xs_if h (fun z => h1 z o (by rw [if_pos z] at q; exact q)) (fun z => h2 z o (by rw [if_neg (by rw [z]; exact Bool.false_ne_true)] at q; exact q)))
/-- the last statement -/
theorem bm_if1 (h : XT Tb X c ds k) (h1 : k = true → BM Tb X A1 ds J m1) (h2 : k = false → BM Tb X A2 ds J m2) : BM Tb X [.If c A1 A2 pos] ds J (if k = true then m1 else m2) := fun o q =>
  xb_one (xs_if h (fun z => h1 z o (by rw [if_pos z] at q; exact q)) (fun z => h2 z o (by rw [if_neg (by rw [z]; exact Bool.false_ne_true)] at q; exact q)))
/-- both ways meet in a state -/
theorem bm_ifS {slots : S → List Slot} {ma mb : Option S} {g : S → Option O} (h : XT Tb X c ds k) (h1 : k = true → BM Tb X A1 ds (JS slots) ma) (h2 : k = false → BM Tb X A2 ds (JS slots) mb) (hk : ∀ s, BM Tb X rest (slots s) J (g s)) :
    BM Tb X (.If c A1 A2 pos :: rest) ds J ((if k = true then ma else mb).bind g) := fun o q => by
  obtain ⟨s, h3, h4⟩ := bind_some q
  have go : ∀ P : Po, (P.nx = (JS slots s).nx) → XS Tb X (.If c A1 A2 pos) ds ⟨fun ds => Sub ds (slots s), noP, noP, noP⟩ := fun P _ =>
    xs_if h (fun z => h1 z s (by rw [if_pos z] at h3; exact h3)) (fun z => h2 z s (by rw [if_neg (by rw [z]; exact Bool.false_ne_true)] at h3; exact h3))
  exact xb_cons (xs_imp (go (JS slots s) rfl) (fun ds' z => xb_sub z (hk s o h4)) (fun _ z => z.elim) (fun _ z => z.elim) (fun _ z => z.elim))
theorem bm_ret {en : R → Ro} {r : R} {st : Stmt} (h : ∀ P : Po, P.rt (en r) → XS Tb X st ds P) : BM Tb X (st :: rest) ds (JR en) (some r) := fun o q => by
  cases q
  exact xb_cons (h _ rfl)
/-- a return within blocks whose end is J -/
theorem bm_retJ {ro : Ro} {o' : O} (z : (J o').rt ro) (h : ∀ P : Po, P.rt ro → XS Tb X st ds P) : BM Tb X (st :: rest) ds J (some o') := fun o q => by
  cases q
  exact xb_cons (h _ z)
theorem bm_brk {o' : O} (z : (J o').bk ds) : BM Tb X (.Break pos :: rest) ds J (some o') := fun o q => by
  cases q
  exact xb_cons (xs_break z)
theorem bm_cont {o' : O} (z : (J o').ct ds) : BM Tb X (.Continue pos :: rest) ds J (some o') := fun o q => by
  cases q
  exact xb_cons (xs_continue z)
theorem bm_for {items : List α} {en : α → Dt} {slots : S → List Slot} {rt : R → Ro → Prop} {f : α → S → Option (Fl S R)} {s0 : S} {g : S → Option O} {inj : R → O} (hX : Bse X) {bb : Bool} (hi : XI Tb X tg e ds (items.map en) bb) (h0 : Sub ds (slots s0))
    (dt : α → S → List Slot) (js : List Nat) (hg : ∀ x s, XG Tb X tg (en x) (slots s) (dt x s) js) (hb : ∀ x s, BM Tb X body (dt x s) (JL slots rt) (f x s)) (hr : ∀ r ro, rt r ro → (J (inj r)).rt ro) (hk : ∀ s, BM Tb X rest (slots s) J (g s)) (hs : ∀ x, foldedSetIterable e X.env x = pure x := by intro _; rfl) :
    BM Tb X (.For tg e body [] pos :: rest) ds J ((forF items s0 f).bind (on g inj)) := fun o q => by
  obtain ⟨out, h3, h4⟩ := bind_some q
  refine xb_cons (xs_for hX hi h0 h3 (fun x s o ho => ⟨dt x s, js, hg x s, hb x s o ho⟩) (fun s hs => ?_) (fun r ro hs z => ?_) ?_)
  · rcases hs with rfl | rfl <;> exact hk s o h4
  · cases hs
    cases h4
    exact hr r ro z
  · exact hs
/-- no way out within -/
theorem bm_forM {items : List α} {en : α → Dt} {slots : S → List Slot} {f : α → S → Option S} {s0 : S} {g : S → Option O} (hX : Bse X) {bb : Bool} (hi : XI Tb X tg e ds (items.map en) bb) (h0 : Sub ds (slots s0))
    (dt : α → S → List Slot) (js : List Nat) (hg : ∀ x s, XG Tb X tg (en x) (slots s) (dt x s) js) (hb : ∀ x s, BM Tb X body (dt x s) (JL (R := Empty) slots (fun r => r.elim)) ((f x s).map .nx)) (hk : ∀ s, BM Tb X rest (slots s) J (g s)) (hs : ∀ x, foldedSetIterable e X.env x = pure x := by intro _; rfl) :
    BM Tb X (.For tg e body [] pos :: rest) ds J ((forM items s0 f).bind g) := fun o q => by
  obtain ⟨s, h3, h4⟩ := bind_some q
  refine xb_cons (xs_for (R := Empty) (f := fun x s => (f x s).map .nx) (out := .nx s) hX hi h0 (by rw [forM_F, h3]; rfl) (fun x s o ho => ⟨dt x s, js, hg x s, hb x s o ho⟩) (fun s' hs => ?_) (fun r => r.elim) hs)
  rcases hs with hs | hs <;> cases hs
  exact hk s o h4
theorem bm_while {slots : S → List Slot} {rt : R → Ro → Prop} {cm : S → Option Bool} {f : S → Option (Fl S R)} {n : Nat} {s0 : S} {g : S → Option O} {inj : R → O} (hX : Bse X) (h0 : Sub ds (slots s0)) (hc : ∀ s, XTM Tb X c (slots s) (cm s))
    (hb : ∀ s, cm s = some true → BM Tb X body (slots s) (JL slots rt) (f s)) (hr : ∀ r ro, rt r ro → (J (inj r)).rt ro) (hk : ∀ s, BM Tb X rest (slots s) J (g s)) :
    BM Tb X (.While c body [] pos :: rest) ds J ((whF cm f n s0).bind (on g inj)) := fun o q => by
  obtain ⟨out, h3, h4⟩ := bind_some q
  refine xb_cons (xs_while hX h0 h3 hc (fun s o hs ho => hb s hs o ho) (fun s hs => ?_) fun r ro hs z => ?_)
  · rcases hs with rfl | rfl <;> exact hk s o h4
  · cases hs
    cases h4
    exact hr r ro z
theorem bm_whileM {slots : S → List Slot} {cm : S → Option Bool} {f : S → Option S} {n : Nat} {s0 : S} {g : S → Option O} (hX : Bse X) (h0 : Sub ds (slots s0)) (hc : ∀ s, XTM Tb X c (slots s) (cm s))
    (hb : ∀ s, cm s = some true → BM Tb X body (slots s) (JL (R := Empty) slots (fun r => r.elim)) ((f s).map .nx)) (hk : ∀ s, BM Tb X rest (slots s) J (g s)) :
    BM Tb X (.While c body [] pos :: rest) ds J ((whM cm f n s0).bind g) := fun o q => by
  obtain ⟨s, h3, h4⟩ := bind_some q
  refine xb_cons (xs_while (R := Empty) (f := fun s => (f s).map .nx) (out := .nx s) hX h0 (by rw [whM_F, h3]; rfl) hc (fun s o hs ho => hb s hs o ho) (fun s' hs => ?_) fun r => r.elim)
  rcases hs with hs | hs <;> cases hs
  exact hk s o h4
/-! expressions -/
theorem xm_bind {β : Type} {en : β → Dt} {ma : Option α} {g : α → Option β} (h : ∀ t, ma = some t → XM Tb X e ds en (g t)) : XM Tb X e ds en (ma.bind g) := fun o q => by
  obtain ⟨t, h1, h2⟩ := bind_some q
  exact h t h1 o h2
theorem xm_some {en : α → Dt} {x : α} (h : XP Tb X e ds (en x)) : XM Tb X e ds en (some x) := fun o q => by
  cases q
  exact h
theorem xtm_bind {ma : Option α} {g : α → Option Bool} (h : ∀ t, ma = some t → XTM Tb X e ds (g t)) : XTM Tb X e ds (ma.bind g) := fun o q => by
  obtain ⟨t, h1, h2⟩ := bind_some q
  exact h t h1 o h2
theorem xtm_some {x : Bool} (h : XT Tb X e ds x) : XTM Tb X e ds (some x) := fun o q => by
  cases q
  exact h
end
end Pk

set_option Elab.async false
set_option linter.all false
set_option maxRecDepth 100000
set_option maxHeartbeats 1000000
/-! G6: list comprehensions, calls of own defs, a def's promise. -/
namespace Pk
open PySem PySem.Spec PyProof.Rows L2 GxR

/-! ### comprehensions -/
def compM {α β : Type} (p : α → Option Bool) (f : α → Option β) : List α → Option (List β)
  | [] => some []
  | x :: r => (p x).bind fun b => if b = true then (f x).bind fun y => (compM p f r).bind fun ys => some (y :: ys) else compM p f r
theorem compM_tot {α β : Type} (p : α → Bool) (f : α → β) : ∀ xs : List α, compM (fun x => some (p x)) (fun x => some (f x)) xs = some ((xs.filter p).map f)
  | [] => rfl
  | x :: r => by
    unfold compM
    have ih := compM_tot p f r
    cases h : p x with
    | true => simp [h, ih]
    | false => simp [h, ih]
theorem compM_all {α β : Type} (f : α → β) : ∀ xs : List α, compM (fun _ => some true) (fun x => some (f x)) xs = some (xs.map f)
  | [] => rfl
  | x :: r => by
    unfold compM
    have ih := compM_all f r
    simp [ih]
def wipeD (ds : List Slot) : List Nat → List Slot
  | [] => ds
  | v :: vs => (wipeD ds vs).set v .any
section
variable {K : Frag} {Tb : Tbs} {B : Bs} {Hf H : Hp} {σ σ' : L2.St} {ds : List Slot}
theorem En.none (E : En K Tb B Hf H σ ds) (i : Nat) (x : Option V) : En K Tb B Hf H (σ.set i x) (ds.set i .any) where
  toBk := E.toBk
  ln := by rw [List.length_set, List.length_set]; exact E.ln
  sl := by
    obtain ⟨fp, h1, h2⟩ := E.sl
    refine ⟨fp, fun j s hj => ?_, h2⟩
    by_cases hij : i = j
    · subst hij
      have hl : i < ds.length := by
        have := (List.getElem?_eq_some_iff.mp hj).1
        rwa [List.length_set] at this
      rw [List.getElem?_set_self hl] at hj
      cases hj
      trivial
    · rw [List.getElem?_set_ne hij] at hj
      rw [List.getElem?_set_ne hij]
      exact h1 j s hj
theorem En.wipe (E : En K Tb B Hf H σ ds) : ∀ vs : List Nat, En K Tb B Hf H (L2.wipe σ vs) (wipeD ds vs)
  | [] => E
  | v :: vs => (E.wipe vs).none v Option.none
theorem wipe_at {vs : List Nat} : ∀ {k : Nat}, k ∈ vs → k < σ.length → (L2.wipe σ vs)[k]? = some Option.none := by
  induction vs with
  | nil => intro k h; cases h
  | cons v vs ih =>
    intro k hk hl
    unfold L2.wipe
    by_cases e : v = k
    · subst e
      rw [List.getElem?_set_self (by rw [wipe_length]; exact hl)]
    · rw [List.getElem?_set_ne e]
      rcases List.mem_cons.mp hk with h | h
      · exact absurd h.symm e
      · exact ih h hl
theorem wipe_agree {js vs : List Nat} (hl : σ'.length = σ.length) (hk : ∀ k, k ∉ js → σ'[k]? = σ[k]?) (hj : ∀ j, j ∈ js → j ∈ vs) : L2.wipe σ' vs = L2.wipe σ vs := by
  apply List.ext_getElem?
  intro k
  by_cases h : k ∈ vs
  · by_cases g : k < σ.length
    · rw [wipe_at h (by omega), wipe_at h g]
    · rw [List.getElem?_eq_none (by rw [wipe_length]; omega), List.getElem?_eq_none (by rw [wipe_length]; omega)]
  · rw [wipe_out h, wipe_out h]
    exact hk k fun z => h (hj k z)
theorem wipe_wipe {vs : List Nat} : L2.wipe (L2.wipe σ vs) vs = L2.wipe σ vs := by
  apply List.ext_getElem?
  intro k
  by_cases h : k ∈ vs
  · by_cases g : k < σ.length
    · rw [wipe_at h (by rw [wipe_length]; exact g), wipe_at h g]
    · rw [List.getElem?_eq_none (by rw [wipe_length, wipe_length]; omega), List.getElem?_eq_none (by rw [wipe_length]; omega)]
  · rw [wipe_out h]
end
section
variable {α β : Type} {Tb : Tbs} {X : Cx} {elt tg iter e : Expr} {ifs : List Expr} {scope : Scope} {own : List (Str × Nat)} {pos : Pos} {ds : List Slot}
/-- a comprehension's block -/
abbrev Bk1 (X : Cx) (scope : Scope) (s : Shared) (H : Hp) (C : Addr) (cl : List (Str × Addr)) (fp : List Addr) : Cx := X.blk s H scope (compEnvC scope cl C X.env) fp
def tMaxTs (X : Cx) (ifs : List Expr) : TT := fun σ H Q => ∃ t, PTs X ifs t ∧ t σ H Q
theorem pts_max : PTs X ifs (tMaxTs X ifs) := ⟨fun pins s σ H Q I ⟨_, h, q⟩ => h.run pins s σ H Q I q⟩
def XTs (Tb : Tbs) (X : Cx) (ifs : List Expr) (ds : List Slot) (b : Bool) : Prop := ∀ B σ Hf H, En X.K Tb B Hf H σ ds → ∀ Q : Bool → Hp → Prop, (∀ Hf' H', Ext Tb Hf H Hf' H' → Q b H') → tMaxTs X ifs σ H Q
theorem xts_nil : XTs Tb X [] ds true := fun B σ Hf H E Q q => ⟨_, pts_nil, q Hf H E.kp.refl⟩
theorem xts_one {b : Bool} (h : XT Tb X e ds b) : XTs Tb X [e] ds b := fun B σ Hf H E Q q => ⟨_, pts_one pt_max, h B σ Hf H E _ q⟩
def teA (X : Cx) (scope : Scope) (e : Expr) : TE := fun σ H Q => ∀ s H0 C cl fp, tMax (Bk1 X scope s H0 C cl fp) e σ H Q
def ttA (X : Cx) (scope : Scope) (ifs : List Expr) : TT := fun σ H Q => ∀ s H0 C cl fp, tMaxTs (Bk1 X scope s H0 C cl fp) ifs σ H Q
def tgA (X : Cx) (scope : Scope) (tg : Expr) : TG := fun v σ H Q => ∀ s H0 C cl fp, tMaxG (Bk1 X scope s H0 C cl fp) tg v σ H Q
theorem pe_A (s : Shared) (H : Hp) (C : Addr) (cl : List (Str × Addr)) (fp : List Addr) : PE (Bk1 X scope s H C cl fp) e (teA X scope e) := ⟨fun pins s' σ H' Q I q => pe_max.run pins s' σ H' Q I (q s H C cl fp)⟩
theorem pts_A (s : Shared) (H : Hp) (C : Addr) (cl : List (Str × Addr)) (fp : List Addr) : PTs (Bk1 X scope s H C cl fp) ifs (ttA X scope ifs) := ⟨fun pins s' σ H' Q I q => pts_max.run pins s' σ H' Q I (q s H C cl fp)⟩
theorem pg_A (s : Shared) (H : Hp) (C : Addr) (cl : List (Str × Addr)) (fp : List Addr) : PG (Bk1 X scope s H C cl fp) tg (tgA X scope tg) := ⟨fun pins s' σ H' v u Q I r q => pg_max.run pins s' σ H' v u Q I r (q s H C cl fp)⟩
/-- what a comprehension asks of its parts -/
structure Lc (Tb : Tbs) (X : Cx) (elt tg iter : Expr) (ifs : List Expr) (scope : Scope) (vs : List Nat) (ds : List Slot) (items : List α) (en : α → Dt) (en' : β → Dt) (p : α → Option Bool) (f : α → Option β) (dt : α → List Slot) (js : List Nat) : Prop where
  it : XI Tb X tg iter ds (items.map en) true
  jv : ∀ j, j ∈ js → j ∈ vs
  tg : ∀ x s H C cl fp, XG Tb (Bk1 X scope s H C cl fp) tg (en x) (wipeD ds vs) (dt x) js
  test : ∀ x b s H C cl fp, p x = some b → XTs Tb (Bk1 X scope s H C cl fp) ifs (dt x) b
  elt : ∀ x y s H C cl fp, p x = some true → f x = some y → XP Tb (Bk1 X scope s H C cl fp) elt (dt x) (en' y)
theorem lc_ev {items : List α} {en : α → Dt} {en' : β → Dt} {p : α → Option Bool} {f : α → Option β} {dt : α → List Slot} {js : List Nat} {out : List β} {vs : List Nat} (L : Lc Tb X elt tg iter ifs scope vs ds items en en' p f dt js) (ho : compM p f items = some out)
    {B : Bs} {σ : L2.St} {Hf H : Hp} (E : En X.K Tb B Hf H σ ds) {Q : VK} (q : Vo Tb X.K Hf H (.lst (out.map en')) Q) : tLc (tMaxI X tg iter) (tgA X scope tg) (ttA X scope ifs) (teA X scope elt) vs σ H Q := by
  refine L.it B σ Hf H E _ fun J Hf1 H1 x1 ok hln => ?_
  have hln := hln rfl
  rw [List.length_map] at hln
  intro D hD
  have back : H D = none := by
    cases z : H D with
    | none => rfl
    | some u => exact absurd hD (x1.li D (by rw [z]; simp))
  refine ⟨fun i m H => m = items.length - i ∧ i ≤ items.length ∧ ∃ Hf acc done rest, Ext Tb Hf1 H1 Hf H ∧ H D = some (.lst acc) ∧ Hf D = none ∧ RepL X.K Hf acc (done.map en') ∧ done.length ≤ i ∧ compM p f (items.drop i) = some rest ∧ done ++ rest = out,
    ⟨items.length, rfl, Nat.zero_le _, Hf1, [], [], out, x1.kp.ow hD, upd_same, x1.kp.le.free hD, .nil, Nat.le_refl _, by rw [List.drop_zero]; exact ho, rfl⟩, ?_⟩
  rintro i m H2 ⟨rfl, hi, Hf2, acc, done, rest, x2, hA, hn, r, hdl, hr, hd⟩
  by_cases hlt : i < items.length
  · have gx : items[i]? = some items[i] := List.getElem?_eq_getElem hlt
    have gy : (items.map en)[i]? = some (en items[i]) := by rw [List.getElem?_map, gx]; rfl
    obtain ⟨g1, g2⟩ := ok.go i _ Hf2 H2 gy x2.ff x2.kp
    rw [drop_cons gx] at hr
    unfold compM at hr
    obtain ⟨b, hb, hr⟩ := bind_some hr
    refine .inr ⟨g1, fun H' => items.length - (i + 1) = items.length - (i + 1) ∧ i + 1 ≤ items.length ∧ ∃ Hf acc done rest, Ext Tb Hf1 H1 Hf H' ∧ H' D = some (.lst acc) ∧ Hf D = none ∧ RepL X.K Hf acc (done.map en') ∧ done.length ≤ i + 1 ∧ compM p f (items.drop (i + 1)) = some rest ∧ done ++ rest = out,
      fun H' z => ⟨items.length - (i + 1), by omega, z⟩, fun x H' y => ?_⟩
    obtain ⟨Hf3, x3, rx⟩ := g2 x H' y
    intro s0 H0 C cl fp
    refine L.tg items[i] s0 H0 C cl fp B _ Hf3 H' x ((E.ext ((x1.trans x2).trans x3)).wipe vs) rx _ fun σ2 E2 l2 k2 => ⟨?_, ?_⟩
    · have w1 := wipe_agree (vs := vs) l2 k2 L.jv
      rw [w1, wipe_wipe]
    · intro s1 H01 C1 cl1 fp1
      refine L.test items[i] b s1 H01 C1 cl1 fp1 hb B σ2 Hf3 H' E2 _ fun Hf4 H4 x4 => ?_
      cases b with
      | true =>
        rw [if_pos rfl]
        rw [if_pos rfl] at hr
        obtain ⟨y1, hy, hr⟩ := bind_some hr
        obtain ⟨ys, hys, hr⟩ := bind_some hr
        cases hr
        intro s2 H02 C2 cl2 fp2
        refine L.elt items[i] y1 s2 H02 C2 cl2 fp2 hb hy B σ2 Hf4 H4 (E2.ext x4) _ fun v Hf5 H5 x5 r5 => ?_
        have x35 := (x3.trans x4).trans x5
        have hA5 : H5 D = some (.lst acc) := x35.hh D _ hA rfl
        have hn5 : Hf5 D = none := x35.sp D _ hA rfl hn
        refine ⟨acc, hA5, ?_, rfl, hlt, Hf5, acc ++ [v], done ++ [y1], ys, ?_, upd_same, hn5, ?_, ?_, hys, ?_⟩
        · have := r.length
          rw [List.length_map] at this
          exact sz_lt (by omega)
        · have x15 := x2.trans x35
          refine ⟨x15.ff, fun a u g t => ?_, x15.fh.grow hn5, x15.sp, fun a g => ?_, fun P hP => tab_upd (x15.tb P hP) fun ps z => by rw [hA5] at z; cases z⟩
          · rw [upd_ne (ne_of_none g hD)]
            exact x15.hh a u g t
          · unfold upd
            split
            · simp
            · exact x15.li a g
        · rw [List.map_append]
          exact (r.mono x35.ff).append (.one r5)
        · rw [List.length_append, List.length_singleton]
          omega
        · rw [List.append_assoc]
          exact hd
      | false =>
        rw [if_neg Bool.false_ne_true]
        rw [if_neg Bool.false_ne_true] at hr
        have x34 := x3.trans x4
        exact ⟨rfl, hlt, Hf4, acc, done, rest, x2.trans x34, x34.hh D _ hA rfl, x34.sp D _ hA rfl hn, r.mono x34.ff, by omega, hr, hd⟩
  · have e1 : i = items.length := by omega
    refine .inl ⟨ok.stop i Hf2 H2 (by rw [List.length_map]; omega) x2.ff x2.kp, ?_⟩
    rw [e1, List.drop_length] at hr
    cases hr
    rw [List.append_nil] at hd
    subst hd
    refine q _ Hf2 H2 [D] (x1.trans x2) ⟨D, acc, rfl, rfl, hA, r, by rw [List.length_map]; omega⟩ (List.nodup_cons.mpr ⟨by simp, .nil⟩) fun a ha => ?_
    cases List.mem_singleton.mp ha
    exact ⟨back, hn⟩
theorem xo_lc {items : List α} {en : α → Dt} {en' : β → Dt} {p : α → Option Bool} {f : α → Option β} {dt : α → List Slot} {js : List Nat} {out : List β} (hX : Bse X) (ok : BlkOk X.N X.env.scope scope own) (L : Lc Tb X elt tg iter ifs scope (own.map (·.2)) ds items en en' p f dt js) (ho : compM p f items = some out)
    (hs : ∀ x, foldedSetIterable iter X.env x = pure x := by intro _; rfl) : XO Tb X (.ListComp elt [⟨tg, iter, ifs, 0⟩] scope pos) ds (.lst (out.map en')) := fun B σ Hf H E Q q =>
  ⟨_, pe_lc hX.calm hX.nd pi_max ok (fun s H C cl fp => pg_A s H C cl fp) (fun s H C cl fp => pts_A s H C cl fp) (fun s H C cl fp => pe_A s H C cl fp) hs, lc_ev L ho E q⟩
/-- name = [..] on one line -/
theorem xs_setC {items : List α} {en : α → Dt} {en' : β → Dt} {p : α → Option Bool} {f : α → Option β} {dt : α → List Slot} {js : List Nat} {out : List β} {i : Nat} {y : Str} {py spos : Pos} {P : Po} (hX : Bse X) (hy : X.N[i]? = some y) (hyl : X.env.scope.names.lookup y = some .local)
    (hsw : swapsWith (.ListComp elt [⟨tg, iter, ifs, 0⟩] scope pos) (some (.Name y py)) spos.line X.env = pure true) (ok : BlkOk X.N X.env.scope scope own) (L : Lc Tb X elt tg iter ifs scope (own.map (·.2)) ds items en en' p f dt js) (ho : compM p f items = some out)
    (q : P.nx (ds.set i (.ow (.lst (out.map en'))))) (hs : ∀ x, foldedSetIterable iter X.env x = pure x := by intro _; rfl) : XS Tb X (.Assign [.Name y py] (.ListComp elt [⟨tg, iter, ifs, 0⟩] scope pos) spos) ds P := fun B Kf σ Hf H D E kf A =>
  ⟨_, ps_setLc hX.calm hX.nd hy hyl hsw pi_max ok (fun s H C cl fp => pg_A s H C cl fp) (fun s H C cl fp => pts_A s H C cl fp) (fun s H C cl fp => pe_A s H C cl fp) hs,
    lc_ev L ho E fun v Hf1 H1 fp x1 w nd fr => A.nx _ _ Hf1 H1 q (E.setN x1 w nd fr) (kf.trans x1.ff)⟩
end

/-! ### own defs -/
def RetP (K : Frag) (Hf H Hb : Hp) (v : V) : Ro → Prop
  | .fz d => Rep K Hf v d
  | .ow o => ∃ fp, Own K Hf H v o fp ∧ fp.Nodup ∧ ∀ a, a ∈ fp → Hb a = none ∧ Hf a = none
/-- the promise of a def that changes nothing that stands -/
def Pur (K : Frag) (Tb : Tbs) (R : List Dt → Ro → Prop) : Sp := fun vs H Q _ => ∃ Hc ds r, Kp Tb Hc H ∧ RepL K Hc vs ds ∧ R ds r ∧ ∀ v Hc' H', Ext Tb Hc H Hc' H' → RetP K Hc' H' H v r → Q v H'
/-- a def of the program, seen from a body -/
structure Fn (Tb : Tbs) (X : Cx) (x : Str) (n : Nat) (R : List Dt → Ro → Prop) : Prop where
  g : Gl X x
  d : (x == ("__debug__" : Str)) = false
  f : ∃ k f fd ps, ps.length = n ∧ FnOk X.prog X.w X.K X.mg X.base CX0 k f fd ps (Pur X.K Tb R) ∧ Room k X.A ∧ X.mg x = some (.ref f) ∧ PySem.W.keepIn X.K (.ref f) = true ∧ Binds X.K fd ps []
section
variable {Tb : Tbs} {X : Cx} {x : Str} {n : Nat} {R : List Dt → Ro → Prop} {e : Expr} {es : List Expr} {ds : List Slot} {ys : List Dt} {d : Dt} {o : Ob} {p pos : Pos}
theorem xp_call (F : Fn Tb X x n R) (ha : XA Tb X (e :: es) ds ys) (hR : R ys (.fz d)) (he : starEach (e :: es) X.env = (false, eval e X.env) :: starEach es X.env := by rfl) (hpl : (backTo pos (starEach es X.env)).any (·.1) = false := by rfl) :
    XP Tb X (.Call (.Name x p) (e :: es) [] pos) ds d := fun B σ Hf H E Q q => by
  obtain ⟨k, f, fd, ps, _, hF, hr, hm, hk, hb⟩ := F.f
  refine ⟨_, pe_call hF hr F.g hm hk hb .nil pass0 pa_max F.d he hpl, ?_⟩
  refine ha B σ Hf H E _ fun vs Hf1 H1 x1 r1 => ?_
  refine ⟨Hf1, ys, _, x1.kp, by rw [List.append_nil]; exact r1, hR, fun v Hc H' x2 rv => ?_⟩
  exact q v Hc H' (x1.trans x2) rv
theorem xo_call (F : Fn Tb X x n R) (ha : XA Tb X (e :: es) ds ys) (hR : R ys (.ow o)) (he : starEach (e :: es) X.env = (false, eval e X.env) :: starEach es X.env := by rfl) (hpl : (backTo pos (starEach es X.env)).any (·.1) = false := by rfl) :
    XO Tb X (.Call (.Name x p) (e :: es) [] pos) ds o := fun B σ Hf H E Q q => by
  obtain ⟨k, f, fd, ps, _, hF, hr, hm, hk, hb⟩ := F.f
  refine ⟨_, pe_call hF hr F.g hm hk hb .nil pass0 pa_max F.d he hpl, ?_⟩
  refine ha B σ Hf H E _ fun vs Hf1 H1 x1 r1 => ?_
  refine ⟨Hf1, ys, _, x1.kp, by rw [List.append_nil]; exact r1, hR, fun v Hc H' x2 rv => ?_⟩
  obtain ⟨fp, w, nd, fr⟩ := rv
  refine q v Hc H' fp (x1.trans x2) w nd fun a ha => ⟨?_, (fr a ha).2⟩
  cases z : H a with
  | none => rfl
  | some u => exact absurd (fr a ha).1 (x1.li a (by rw [z]; simp))
/-- own lists are lent: what comes back has no list in it -/
def noTbl (H : Hp) : Hp := fun a => match H a with
  | some (.tbl _) => none
  | q => q
theorem noTbl_le (H : Hp) : Le (noTbl H) H := fun a o h => by
  unfold noTbl at h
  split at h
  · cases h
  · rename_i hn
    refine ⟨h, ?_⟩
    cases o <;> first | rfl | exact absurd h (hn _)
theorem noTbl_at {H : Hp} {a : Addr} {o : HO} (h : H a = some o) (t : isTbl o = false) : noTbl H a = some o := by
  unfold noTbl
  rw [h]
  cases o <;> first | rfl | cases t
theorem noTbl_of {Hf H : Hp} (e : Le Hf H) : Ex Hf (noTbl H) := fun a o h t => noTbl_at (e a o h).1 t
theorem noTbl_l {K : Frag} {H : Hp} {a : Addr} {xs : List V} (h : SqL K H a xs) : SqL K (noTbl H) a xs := by
  rcases h with (h | ⟨o, h⟩) | h
  · exact .inl (.inl (noTbl_at h rfl))
  · exact .inl (.inr ⟨o, noTbl_at h rfl⟩)
  · exact .inr h
theorem RsL.lent {K : Frag} {Hf H : Hp} (e : Le Hf H) : ∀ {vs : List V} {ys : List Dt}, RsL K Hf H vs ys → RepL K (noTbl H) vs ys
  | _, _, .nil => .nil
  | _, _, .cons h r => by
    refine .cons ?_ (RsL.lent e r)
    cases h with
    | fz h => exact h.mono (noTbl_of e)
    | lst a l b => exact .lst (noTbl_l a) l (b.mono (noTbl_of e))
    | dK a b => exact .dK (noTbl_at a rfl) (b.mono (noTbl_of e))
    | dT a b => exact .dT (noTbl_at a rfl) (b.mono (noTbl_of e))
/-- back from a call to which all was lent: what was frozen, and the tuples -/
theorem Ext.lent {Hf H Hc' H' : Hp} (e : Le Hf H) (x : Ext Tb (noTbl H) H Hc' H') : Ext Tb Hf H (tupsOf Hf H') H' where
  ff := tupsOf_l (e.ext x.hh).ex
  hh := x.hh
  fh := fun a o h => by
    unfold tupsOf at h
    split at h
    · rename_i q
      rw [q]
      cases h
      exact ⟨rfl, rfl⟩
    · rename_i q
      rw [q]
      cases h
      exact ⟨rfl, rfl⟩
    · exact e.ext x.hh a o h
  sp := fun a o h m n => by
    have h' := x.hh a o h (mu_tbl m)
    unfold tupsOf
    rw [h']
    cases o <;> first | exact n | cases m
  li := x.li
  tb := x.tb
theorem xp_callR (F : Fn Tb X x n R) (ha : XAR Tb X (e :: es) ds ys) (hR : R ys (.fz d)) (hn : noL d = true) (he : starEach (e :: es) X.env = (false, eval e X.env) :: starEach es X.env := by rfl) (hpl : (backTo pos (starEach es X.env)).any (·.1) = false := by rfl) :
    XP Tb X (.Call (.Name x p) (e :: es) [] pos) ds d := fun B σ Hf H E Q q => by
  obtain ⟨k, f, fd, ps, _, hF, hr, hm, hk, hb⟩ := F.f
  refine ⟨_, pe_call hF hr F.g hm hk hb .nil pass0 pa_max F.d he hpl, ?_⟩
  refine ha B σ Hf H E _ fun vs Hf1 H1 x1 r1 => ?_
  refine ⟨noTbl H1, ys, _, ⟨noTbl_le H1, x1.tb⟩, by rw [List.append_nil]; exact r1.lent x1.fh, hR, fun v Hc H' x2 rv => ?_⟩
  have rv' : Rep X.K Hc v d := rv
  exact q v _ H' (x1.trans (Ext.lent x1.fh x2)) (Rep.tups d hn (rv'.mono x2.fh.ex))
theorem xo_callR {xs : List Dt} (F : Fn Tb X x n R) (ha : XAR Tb X (e :: es) ds ys) (hR : R ys (.ow (.lst xs))) (hn : noLs xs = true) (he : starEach (e :: es) X.env = (false, eval e X.env) :: starEach es X.env := by rfl) (hpl : (backTo pos (starEach es X.env)).any (·.1) = false := by rfl) :
    XO Tb X (.Call (.Name x p) (e :: es) [] pos) ds (.lst xs) := fun B σ Hf H E Q q => by
  obtain ⟨k, f, fd, ps, _, hF, hr, hm, hk, hb⟩ := F.f
  refine ⟨_, pe_call hF hr F.g hm hk hb .nil pass0 pa_max F.d he hpl, ?_⟩
  refine ha B σ Hf H E _ fun vs Hf1 H1 x1 r1 => ?_
  refine ⟨noTbl H1, ys, _, ⟨noTbl_le H1, x1.tb⟩, by rw [List.append_nil]; exact r1.lent x1.fh, hR, fun v Hc H' x2 rv => ?_⟩
  obtain ⟨fp, w, nd, fr⟩ := rv
  obtain ⟨a, ws, rfl, rfl, ha, rr, ll⟩ := w
  have z1 := (fr a (List.mem_singleton.mpr rfl)).1
  have x3 := Ext.lent x1.fh x2
  refine q _ _ H' [a] (x1.trans x3) ⟨a, ws, rfl, rfl, ha, RepL.tups xs hn (rr.mono x2.fh.ex), ll⟩ nd fun b hb => ?_
  cases List.mem_singleton.mp hb
  refine ⟨?_, ?_⟩
  · cases z : H a with
    | none => rfl
    | some u => exact absurd z1 (x1.li a (by rw [z]; simp))
  · unfold tupsOf
    rw [ha]
    exact x1.fh.free z1
end

/-! ### a def's body -/
def start0 (ys : List Dt) (k : Nat) : List Slot := ys.map .fz ++ List.replicate k .any
theorem start_en {K : Frag} {Tb : Tbs} {Hc H : Hp} {vs : List V} {ys : List Dt} {N : List Str} (kp : Kp Tb Hc H) (r : RepL K Hc vs ys) (hl : N.length = ys.length + k) : En K Tb ⟨Hc, H, fun _ => False⟩ Hc H (L2.start N vs) (start0 ys k) where
  fh := kp.le
  tb := kp.tb
  bf := Ex.refl _
  bh := fun a o h _ _ => h
  bl := fun a h => h
  bs := fun a o h m _ n => n
  ln := by
    have := r.length
    unfold L2.start start0
    simp
    omega
  sl := by
    refine ⟨fun _ => [], fun i s hi => ?_, fun i j a ha => (by cases ha), fun i => .nil, fun i a ha => (by cases ha)⟩
    unfold start0 at hi
    by_cases hlt : i < ys.length
    · rw [List.getElem?_append_left (by rw [List.length_map]; exact hlt), List.getElem?_map, List.getElem?_eq_getElem hlt] at hi
      cases hi
      obtain ⟨v, hv, rv⟩ := r.getD (List.getElem?_eq_getElem hlt)
      refine ⟨v, ?_, rv⟩
      unfold L2.start
      rw [List.getElem?_append_left (by rw [List.length_map, r.length]; exact hlt), List.getElem?_map, hv]
      rfl
    · rw [List.getElem?_append_right (by rw [List.length_map]; omega)] at hi
      have := List.mem_of_getElem? hi
      rw [(List.mem_replicate.mp this).2]
      trivial
/-- what holds where a def's body runs -/
structure Fx (P : Program) (w : World) (K : Frag) (mg : Str → Option Value) (base : Heap) (N : List Str) (sc : Scope) (k : Nat) (X : Cx) : Prop where
  prog : X.prog = P
  w : X.w = w
  K : X.K = K
  mg : X.mg = mg
  base : X.base = base
  N : X.N = N
  sc : X.env.scope = sc
  room : Room k X.A
  bse : Bse X
  fn : ∀ x, X.fn x = true
theorem fn_pur {P : Program} {w : World} {K : Frag} {mg : Str → Option Value} {base : Heap} {Tb : Tbs} {x qual : Str} {st : Stmt} {f : Addr} {fd : FuncData} {N ps : List Str} {k j : Nat} {R : List Dt → Ro → Prop} (F : Fun K x qual st f fd) (S : FnScope N ps (defScope st))
    (hlen : ∀ ys r, R ys r → ys.length = ps.length) (hN : N.length = ps.length + j)
    (body : ∀ X : Cx, Fx P w K mg base N (defScope st) k X → ∀ ys r, R ys r → XB Tb X (defBody st) (start0 ys j) ⟨fun _ => r = .fz .none, fun ro => ro = r, noP, noP⟩) :
    FnOk P w K mg base CX0 (k + 1) f fd ps (Pur K Tb R) := by
  refine F.ok S (fun vs H Q E h => ?_) (fun cdv A outer s H vs Q E hr h => ?_)
  · obtain ⟨Hc, ds, r, kp, rr, hR, _⟩ := h
    rw [rr.length]
    exact hlen ds r hR
  · obtain ⟨Hc, ds, r, kp, rr, hR, q⟩ := h
    refine ⟨_, pss_max, ?_⟩
    refine body _ ⟨rfl, rfl, rfl, rfl, rfl, rfl, rfl, hr, ⟨rfl, S.nd, PassesOwn.never⟩, fun _ => rfl⟩ ds r hR ⟨Hc, H, fun _ => False⟩ Hc _ Hc H _ (start_en kp rr (by rw [hN, hlen ds r hR])) (Ex.refl _) ⟨fun d σ Hf H' z E _ => ?_, fun _ _ _ _ z => z.elim, fun _ _ _ _ z => z.elim, fun ro v Hf H' z b rv => ?_⟩
    · cases z
      exact q .non Hf H' ⟨E.bf, fun a o h t => E.bh a o h t id, E.fh, fun a o h m n => E.bs a o h m id n, E.bl, E.tb⟩ .non
    · cases z
      refine q v Hf H' ⟨b.bf, fun a o h t => b.bh a o h t id, b.fh, fun a o h m n => b.bs a o h m id n, b.bl, b.tb⟩ ?_
      cases r with
      | fz d => exact rv
      | ow o =>
        obtain ⟨fp, w, nd, fr⟩ := rv
        refine ⟨fp, w, nd, fun a ha => ⟨?_, (fr a ha).2⟩⟩
        rcases (fr a ha).1 with z | z
        · exact z
        · exact z.elim
end Pk

set_option Elab.async false
set_option linter.all false
set_option maxRecDepth 100000
set_option maxHeartbeats 1000000
/-! G7: names; operators and built-ins over data. -/
namespace Pk
open PySem PySem.Spec PyProof.Rows L2 GxR

/-! ### names where a body, a block runs -/
section
variable {P : Program} {w : World} {K : Frag} {mg : Str → Option Value} {base : Heap} {N : List Str} {sc : Scope} {k : Nat} {X : Cx} {x : Str} {i : Nat}
theorem Fx.at (h : Fx P w K mg base N sc k X) (hn : N[i]? = some x) (hv : sc.names.lookup x = some .local ∨ sc.names.lookup x = some .cell) (hd : (x == ("__debug__" : Str)) = false) (hc : (x == ("__classdict__" : Str)) = false) : At X x i :=
  ⟨by rw [h.N]; exact hn, by
    unfold Vis
    rw [h.sc]
    rcases hv with q | q
    · exact .inl q
    · exact .inr (.inl q), hd, hc⟩
theorem Fx.tg (h : Fx P w K mg base N sc k X) (hn : N[i]? = some x) (hv : sc.names.lookup x = some .local ∨ sc.names.lookup x = some .cell) : Tg X x i :=
  ⟨h.bse.nd, by rw [h.N]; exact hn, by
    unfold L2.Loc
    rw [h.sc]
    exact hv, .inl (h.fn x)⟩
theorem Fx.gl (h : Fx P w K mg base N sc k X) (hv : sc.names.lookup x = some .globalImplicit) : Gl X x := by
  show X.env.scope.names.lookup x = some .globalImplicit
  rw [h.sc]
  exact hv
theorem Fx.bn {f : Value} (h : Fx P w K mg base N sc k X) (hv : sc.names.lookup x = some .globalImplicit) (hm : mg x = none) (hb : bootBuiltins x = some f) (hn : x ≠ "__name__") (hd : (x == ("__debug__" : Str)) = false) : Bn X x f :=
  ⟨h.gl hv, by rw [h.mg]; exact hm, hb, hn, hd⟩
theorem Fx.fn' {Tb : Tbs} {n j : Nat} {R : List Dt → Ro → Prop} {f : Addr} {fd : FuncData} {ps : List Str} (h : Fx P w K mg base N sc k X) (hv : sc.names.lookup x = some .globalImplicit) (hd : (x == ("__debug__" : Str)) = false) (hl : ps.length = n) (F : FnOk P w K mg base CX0 j f fd ps (Pur K Tb R)) (hj : j ≤ k)
    (hm : mg x = some (.ref f)) (hk : PySem.W.keepIn K (.ref f) = true) (hb : Binds K fd ps []) : Fn Tb X x n R := by
  obtain ⟨h1, h2, h3, h4, h5, _, _, hr, _⟩ := h
  subst h1 h2 h3 h4 h5
  exact ⟨(show X.env.scope.names.lookup x = some .globalImplicit by rw [‹X.env.scope = sc›]; exact hv), hd, j, f, fd, ps, hl, F, hr.mono hj, hm, hk, hb⟩
variable {scope : Scope} {s : Shared} {H : Hp} {C : Addr} {cl : List (Str × Addr)} {fp : List Addr}
theorem blk_look {k : NameKind} (h : scope.names.lookup x = some k) (hk : k ≠ .free) : (Bk1 X scope s H C cl fp).env.scope.names.lookup x = some k := by
  show (relS scope X.env.scope).names.lookup x = some k
  exact lookup_relS_keep hk h
theorem blk_free (h : scope.names.lookup x = some .free) : (Bk1 X scope s H C cl fp).env.scope.names.lookup x = some .free ∨ (Bk1 X scope s H C cl fp).env.scope.names.lookup x = some .cell := by
  show (relS scope X.env.scope).names.lookup x = some .free ∨ (relS scope X.env.scope).names.lookup x = some .cell
  have q : ∀ {names : List (Str × NameKind)}, names.lookup x = some .free → (names.map fun (n, k) => if (k == .free && X.env.scope.kind == .function && X.env.scope.names.lookup n == some .cell) then (n, NameKind.cell) else (n, k)).lookup x = some .free ∨
      (names.map fun (n, k) => if (k == .free && X.env.scope.kind == .function && X.env.scope.names.lookup n == some .cell) then (n, NameKind.cell) else (n, k)).lookup x = some .cell := by
    intro names
    induction names with
    | nil => intro h; cases h
    | cons p r ih =>
      obtain ⟨n, k⟩ := p
      intro h
      rw [List.lookup_cons] at h
      rw [List.map_cons]
      cases hb : x == n with
      | true =>
        rw [hb] at h
        cases h
        simp only
        split
        · rw [List.lookup_cons, hb]
          exact .inr rfl
        · rw [List.lookup_cons, hb]
          exact .inl rfl
      | false =>
        rw [hb] at h
        simp only
        split
        · rw [List.lookup_cons, hb]
          exact ih h
        · rw [List.lookup_cons, hb]
          exact ih h
  exact q h
/-- a name of the def, read in a block -/
theorem At.blk (h : At X x i) (hv : scope.names.lookup x = some .free) : At (Bk1 X scope s H C cl fp) x i :=
  ⟨h.n, by
    rcases blk_free (X := X) (s := s) (H := H) (C := C) (cl := cl) (fp := fp) hv with q | q
    · exact .inr (.inr q)
    · exact .inr (.inl q), h.d, h.c⟩
/-- a block's own name -/
theorem At.own (hn : X.N[i]? = some x) (hv : scope.names.lookup x = some .local ∨ scope.names.lookup x = some .cell) (hd : (x == ("__debug__" : Str)) = false) (hc : (x == ("__classdict__" : Str)) = false) : At (Bk1 X scope s H C cl fp) x i :=
  ⟨hn, by
    rcases hv with q | q
    · exact .inl (blk_look q (by decide))
    · exact .inr (.inl (blk_look q (by decide))), hd, hc⟩
theorem Tg.own (hX : Bse X) (hn : X.N[i]? = some x) (hv : scope.names.lookup x = some .local ∨ scope.names.lookup x = some .cell) : Tg (Bk1 X scope s H C cl fp) x i :=
  ⟨hX.nd, hn, by
    rcases hv with q | q
    · exact .inl (blk_look q (by decide))
    · exact .inr (blk_look q (by decide)), by
    rcases hv with q | q
    · exact .inr (blk_look q (by decide))
    · refine .inl ?_
      show (scope.names.lookup x == some .cell) = true
      rw [q]
      rfl⟩
theorem Gl.blk (hv : scope.names.lookup x = some .globalImplicit) : Gl (Bk1 X scope s H C cl fp) x := blk_look hv (by decide)
theorem Bn.blk {f : Value} (h : Bn X x f) (hv : scope.names.lookup x = some .globalImplicit) : Bn (Bk1 X scope s H C cl fp) x f := ⟨blk_look hv (by decide), h.m, h.v, h.n, h.d⟩
theorem Fn.blk {Tb : Tbs} {n : Nat} {R : List Dt → Ro → Prop} (h : Fn Tb X x n R) (hv : scope.names.lookup x = some .globalImplicit) : Fn Tb (Bk1 X scope s H C cl fp) x n R := ⟨blk_look hv (by decide), h.d, h.f⟩
theorem Bse.blk (h : Bse X) : Bse (Bk1 X scope s H C cl fp) := ⟨h.calm, h.nd, PassesOwn.never⟩
end

/-! ### data without dicts -/
def okD (d : Dt) : Bool := d.plain && decide (d.depth ≤ 60)
def okDs (ds : List Dt) : Bool := PyData.plainAll ds && decide (PyData.depthAll ds ≤ 59)
theorem okD_int (i : Int) : okD (.int i) = true := rfl
theorem okD_bool (i : Bool) : okD (.bool i) = true := rfl
theorem okD_none : okD .none = true := rfl
theorem okD_str (i : Str) : okD (.str i) = true := rfl
theorem okD_of {d : Dt} (h : okD d = true) : d.plain = true ∧ d.depth ≤ 60 := by
  unfold okD at h
  simp only [Bool.and_eq_true, decide_eq_true_eq] at h
  exact h
theorem okDs_of {ds : List Dt} (h : okDs ds = true) : PyData.plainAll ds = true ∧ PyData.depthAll ds ≤ 59 := by
  unfold okDs at h
  simp only [Bool.and_eq_true, decide_eq_true_eq] at h
  exact h
mutual
theorem Rep.dpl {K : Frag} {H : Hp} : ∀ (d : Dt) {v : V}, d.plain = true → Rep K H v d → Dp K H v d
  | .none, _, _, h => by
    cases h
    exact .non
  | .bool _, _, _, h => by
    cases h
    exact .bl _
  | .int _, _, _, h => by
    cases h
    exact .int _
  | .str _, _, _, h => by
    cases h with
    | str _ _ => exact .str _
  | .list ds, _, n, h => by
    cases h with
    | lst a _ b => exact .lst a (RepL.dpl ds (by simpa [PyData.plain] using n) b)
  | .tuple ds, _, n, h => by
    cases h with
    | tup a _ b => exact .tup a (RepL.dpl ds (by simpa [PyData.plain] using n) b)
  | .dict _, _, n, _ => by
    simp [PyData.plain] at n
theorem RepL.dpl {K : Frag} {H : Hp} : ∀ (ds : List Dt) {vs : List V}, PyData.plainAll ds = true → RepL K H vs ds → DpAll K H vs ds
  | [], _, _, h => by
    cases h
    exact .nil
  | d :: ds, _, n, h => by
    cases h with
    | cons a b =>
      have n' : d.plain = true ∧ PyData.plainAll ds = true := by simpa [PyData.plainAll] using n
      exact .cons (Rep.dpl d n'.1 a) (RepL.dpl ds n'.2 b)
end
theorem Rs.dpl {K : Frag} {Hf H : Hp} {v : V} {d : Dt} (e : Le Hf H) (n : d.plain = true) (r : Rs K Hf H v d) : Dp K H v d := by
  cases r with
  | fz h => exact Rep.dpl _ n (h.mono e.ex)
  | lst a _ b => exact .lst a (RepL.dpl _ (by simpa [PyData.plain] using n) (b.mono e.ex))
  | dK _ _ => simp [PyData.plain] at n
  | dT _ _ => simp [PyData.plain] at n
/-- room for comparisons -/
def Deep (X : Cx) : Prop := X.A.units + 64 < cLine
theorem Fx.deep {P : Program} {w : World} {K : Frag} {mg : Str → Option Value} {base : Heap} {N : List Str} {sc : Scope} {k : Nat} {X : Cx} (h : Fx P w K mg base N sc k X) : Deep X := h.room.units

section
variable {X : Cx} {Tb : Tbs} {d1 d2 : Dt} {xs : List Dt}
def rD2 (K : Frag) (b : Bool) (d1 d2 : Dt) : R2 := fun x y H Q => Dp K H x d1 ∧ Dp K H y d2 ∧ Q (.bl b) H
theorem opR_D2 {f : Value → Value → Sem Value} {b : Bool} (h : ∀ (s : Shared) (u v : Value) (as bs : List Addr) (Q : Value → Shared → Prop), Reads s.heap u d1 as → Reads s.heap v d2 bs → Q (.bool b) s → wpAny (model X.prog X.w) X.A (f u v) Q X.xe s) :
    OpR X f (rD2 X.K b d1 d2) := by
  intro pins s σ H x y v u Q I rx ry q
  obtain ⟨hd, he, q⟩ := q
  obtain ⟨as, r1⟩ := Dp.reads I d1 x v hd rx
  obtain ⟨bs, r2⟩ := Dp.reads I d2 y u he ry
  exact h s v u as bs _ r1 r2 ⟨.bl b, H, I, rfl, q⟩
theorem opd_D2 {f : Value → Value → Sem Value} {b : Bool} (p1 : d1.plain = true) (p2 : d2.plain = true) (h : OpR X f (rD2 X.K b d1 d2)) : OpD Tb X f d1 d2 (.bool b) := ⟨_, h, fun x y Hf H kp hx hy Q q =>
  ⟨hx.dpl kp.le p1, hy.dpl kp.le p2, q _ Hf H kp.refl (.bl _)⟩⟩
theorem deep2 (hu : Deep X) (h1 : d1.depth ≤ 60) : X.A.units + min d1.depth d2.depth < cLine := by
  have := Nat.min_le_left d1.depth d2.depth
  unfold Deep at hu
  omega
theorem opd_eqD (hu : Deep X) (o1 : okD d1 = true) (o2 : okD d2 = true) : OpD Tb X (compareOp .Eq) d1 d2 (.bool (PyData.eqv d1 d2)) :=
  opd_D2 (okD_of o1).1 (okD_of o2).1 (opR_D2 fun s u v as bs Q r1 r2 q => PySem.SeqAt.eq_plain r1 r2 (okD_of o1).1 (okD_of o2).1 (deep2 hu (okD_of o1).2) q)
theorem opd_neD (hu : Deep X) (o1 : okD d1 = true) (o2 : okD d2 = true) : OpD Tb X (compareOp .NotEq) d1 d2 (.bool (!PyData.eqv d1 d2)) :=
  opd_D2 (okD_of o1).1 (okD_of o2).1 (opR_D2 fun s u v as bs Q r1 r2 q => PySem.SeqAt.ne_plain r1 r2 (okD_of o1).1 (okD_of o2).1 (deep2 hu (okD_of o1).2) q)
/-- may be put in order -/
def lkD (d1 d2 : Dt) : Bool := PySem.W.alike d1 d2 && !isN d1
theorem lkD_of (h : lkD d1 d2 = true) : PySem.W.alike d1 d2 = true ∧ d1 ≠ .none := by
  unfold lkD at h
  simp only [Bool.and_eq_true, Bool.not_eq_true'] at h
  refine ⟨h.1, fun z => ?_⟩
  rw [z] at h
  exact absurd h.2 (by decide)
theorem opd_ltD (hu : Deep X) (o1 : okD d1 = true) (o2 : okD d2 = true) (l : lkD d1 d2 = true) : OpD Tb X (compareOp .Lt) d1 d2 (.bool (PySem.W.dataLt d1 d2)) :=
  opd_D2 (okD_of o1).1 (okD_of o2).1 (opR_D2 fun s u v as bs Q r1 r2 q => PySem.W.lt_data r1 r2 (lkD_of l).1 (lkD_of l).2 (deep2 hu (okD_of o1).2) q)
theorem opd_gtD (hu : Deep X) (o1 : okD d1 = true) (o2 : okD d2 = true) (l : lkD d1 d2 = true) : OpD Tb X (compareOp .Gt) d1 d2 (.bool (PySem.W.dataLt d2 d1)) :=
  opd_D2 (okD_of o1).1 (okD_of o2).1 (opR_D2 fun s u v as bs Q r1 r2 q => PySem.W.gt_data r1 r2 (lkD_of l).1 (lkD_of l).2 (deep2 hu (okD_of o1).2) q)
theorem opd_leD (hu : Deep X) (o1 : okD d1 = true) (o2 : okD d2 = true) (l : lkD d1 d2 = true) : OpD Tb X (compareOp .LtE) d1 d2 (.bool (!PySem.W.dataLt d2 d1)) :=
  opd_D2 (okD_of o1).1 (okD_of o2).1 (opR_D2 fun s u v as bs Q r1 r2 q => PySem.W.le_data r1 r2 (lkD_of l).1 (lkD_of l).2 (deep2 hu (okD_of o1).2) q)
theorem opd_geD (hu : Deep X) (o1 : okD d1 = true) (o2 : okD d2 = true) (l : lkD d1 d2 = true) : OpD Tb X (compareOp .GtE) d1 d2 (.bool (!PySem.W.dataLt d1 d2)) :=
  opd_D2 (okD_of o1).1 (okD_of o2).1 (opR_D2 fun s u v as bs Q r1 r2 q => PySem.W.ge_data r1 r2 (lkD_of l).1 (lkD_of l).2 (deep2 hu (okD_of o1).2) q)
/-- d is among xs -/
def inDs (d : Dt) (xs : List Dt) : Bool := xs.any fun y => PyData.eqv y d
theorem deep3 (hu : Deep X) (h1 : PyData.depthAll xs ≤ 59) : X.A.units + 1 + min (PyData.depthAll xs) d1.depth < cLine := by
  have := Nat.min_le_left (PyData.depthAll xs) d1.depth
  unfold Deep at hu
  omega
theorem opd_inL (hu : Deep X) (o1 : okD d1 = true) (o2 : okDs xs = true) : OpD Tb X (compareOp .In) d1 (.list xs) (.bool (inDs d1 xs)) :=
  opd_D2 (okD_of o1).1 (okDs_of o2).1 (opR_D2 fun s u v as bs Q r1 r2 q => PySem.SeqAt.in_list_data r2 r1 (okDs_of o2).1 (okD_of o1).1 (deep3 hu (okDs_of o2).2) q)
theorem opd_inT (hu : Deep X) (o1 : okD d1 = true) (o2 : okDs xs = true) : OpD Tb X (compareOp .In) d1 (.tuple xs) (.bool (inDs d1 xs)) :=
  opd_D2 (okD_of o1).1 (okDs_of o2).1 (opR_D2 fun s u v as bs Q r1 r2 q => PySem.SeqAt.in_tuple_data r2 r1 (okDs_of o2).1 (okD_of o1).1 (deep3 hu (okDs_of o2).2) q)
theorem opd_niL (hu : Deep X) (o1 : okD d1 = true) (o2 : okDs xs = true) : OpD Tb X (compareOp .NotIn) d1 (.list xs) (.bool (!inDs d1 xs)) :=
  opd_D2 (okD_of o1).1 (okDs_of o2).1 (opR_D2 fun s u v as bs Q r1 r2 q => PySem.SeqAt.notIn_list_data r2 r1 (okDs_of o2).1 (okD_of o1).1 (deep3 hu (okDs_of o2).2) q)
theorem opd_niT (hu : Deep X) (o1 : okD d1 = true) (o2 : okDs xs = true) : OpD Tb X (compareOp .NotIn) d1 (.tuple xs) (.bool (!inDs d1 xs)) :=
  opd_D2 (okD_of o1).1 (okDs_of o2).1 (opR_D2 fun s u v as bs Q r1 r2 q => PySem.SeqAt.notIn_tuple_data r2 r1 (okDs_of o2).1 (okD_of o1).1 (deep3 hu (okDs_of o2).2) q)

/-! ### +, slices -/
variable {ys zs : List Dt} {o : Ob}
theorem opd_catT (hl : ys.length + zs.length ≤ LN) : OpD Tb X (binaryOp .Add) (.tuple ys) (.tuple zs) (.tuple (ys ++ zs)) := ⟨_, op_catA, fun x y Hf H kp hx hy Q q => by
  obtain ⟨a, vs, rfl, h1, r1⟩ := hx.tup_of kp.le
  obtain ⟨b, ws, rfl, h2, r2⟩ := hy.tup_of kp.le
  have l1 := r1.length
  have l2 := r2.length
  refine ⟨a, b, vs, ws, rfl, rfl, h1, h2, by rw [l1, l2]; exact sz_of hl, fun z => ?_, fun _ z => ?_, fun _ _ p hp => ?_⟩
  · subst z
    cases r1
    rw [List.nil_append] at q
    cases hy with
    | fz h => exact q _ Hf H kp.refl h
  · subst z
    cases r2
    rw [List.append_nil] at q
    cases hx with
    | fz h => exact q _ Hf H kp.refl h
  · exact q _ (upd Hf p (.tup (vs ++ ws))) _ (kp.fz hp rfl) (.tup (.inl (.inl upd_same)) (by rw [List.length_append]; exact hl) ((r1.append r2).mono (Ex.new (kp.le.free hp))))⟩
theorem lst_there {K : Frag} {H : Hp} {a : Addr} {xs : List V} (h : H a = some (.lst xs)) : SqL K H a xs := .inl (.inl h)
/-- a part of a slice -/
def XPO (Tb : Tbs) (X : Cx) (e : Option Expr) (ds : List Slot) (o : Option Int) : Prop := ∀ B σ Hf H, En X.K Tb B Hf H σ ds → ∀ Q : Option Int → Hp → Prop, (∀ Hf' H', Ext Tb Hf H Hf' H' → Q o H') → ∃ t, PO X e t ∧ t σ H Q
variable {ds : List Slot} {e : Expr} {e1 e2 : Option Expr} {lo hi : Option Int} {pos p2 : Pos}
theorem xpo_none : XPO Tb X none ds none := fun B σ Hf H E Q q => ⟨_, po_none, q Hf H E.kp.refl⟩
theorem xpo_some {i : Int} (h : XP Tb X e ds (.int i)) : XPO Tb X (some e) ds (some i) := fun B σ Hf H E Q q => ⟨_, po_some pe_max, h B σ Hf H E _ fun v Hf1 H1 x1 r => ⟨i, r.int_of, q Hf1 H1 x1⟩⟩
def tMaxO (X : Cx) (e : Option Expr) : TO := fun σ H Q => ∃ t, PO X e t ∧ t σ H Q
theorem po_max {e : Option Expr} : PO X e (tMaxO X e) := ⟨fun pins s σ H Q I ⟨_, h, q⟩ => h.run pins s σ H Q I q⟩
/-- xs[lo:hi] -/
def cut {α : Type} (xs : List α) (lo hi : Option Int) : List α := (xs.drop (HT.sIx xs.length 0 lo)).take (HT.sIx xs.length xs.length hi - HT.sIx xs.length 0 lo)
theorem cut_map {α β : Type} (f : α → β) (xs : List α) (lo hi : Option Int) : cut (xs.map f) lo hi = (cut xs lo hi).map f := by
  unfold cut
  rw [List.length_map, List.map_take, List.map_drop]
theorem RepL.cut {K : Frag} {H : Hp} {vs : List V} (r : RepL K H vs ys) : RepL K H (cutV vs lo hi) (cut ys lo hi) := by
  unfold cutV Pk.cut
  rw [r.length]
  exact (r.drop _).take _
theorem cut_len {α : Type} (xs : List α) (lo hi : Option Int) : (cut xs lo hi).length ≤ xs.length := by
  unfold cut
  rw [List.length_take, List.length_drop]
  omega
theorem cut_all {α : Type} {xs : List α} (h : HT.sIx xs.length 0 lo = 0 ∧ HT.sIx xs.length xs.length hi = xs.length) : cut xs lo hi = xs := by
  unfold cut
  rw [h.1, h.2, List.drop_zero, Nat.sub_zero, List.take_length]
theorem xp_slT (h : XR Tb X e ds (.tuple ys)) (h1 : XPO Tb X e1 ds lo) (h2 : XPO Tb X e2 ds hi) : XP Tb X (.Subscript e (.Slice e1 e2 none p2) pos) ds (.tuple (cut ys lo hi)) := fun B σ Hf H E Q q => by
  refine ⟨_, pe_slice sl_tupA pe_max po_max po_max, ?_⟩
  refine h B σ Hf H E _ fun v Hf1 H1 x1 r => ?_
  refine h1 B σ Hf1 H1 (E.ext x1) _ fun Hf2 H2 x2 => ?_
  refine h2 B σ Hf2 H2 (E.ext (x1.trans x2)) _ fun Hf3 H3 x3 => ?_
  have r3 := r.ext (x2.trans x3)
  have x13 := (x1.trans x2).trans x3
  obtain ⟨a, vs, rfl, ha, rr⟩ := r3.tup_of x3.fh
  refine ⟨a, vs, rfl, ha, fun z => ?_, fun _ p hp => ?_⟩
  · rw [rr.length] at z
    rw [cut_all z] at q
    cases r3 with
    | fz g => exact q _ Hf3 H3 x13 g
  · exact q _ (upd Hf3 p (.tup (cutV vs lo hi))) _ (x13.trans (x3.kp.fz hp rfl)) (.tup (.inl (.inl upd_same)) (Nat.le_trans (cut_len _ _ _) r3.tup_len) (rr.cut.mono (Ex.new (x3.kp.le.free hp))))
theorem xo_slL (h : XR Tb X e ds (.list ys)) (h1 : XPO Tb X e1 ds lo) (h2 : XPO Tb X e2 ds hi) : XO Tb X (.Subscript e (.Slice e1 e2 none p2) pos) ds (.lst (cut ys lo hi)) := fun B σ Hf H E Q q => by
  refine ⟨_, pe_slice sl_list pe_max po_max po_max, ?_⟩
  refine h B σ Hf H E _ fun v Hf1 H1 x1 r => ?_
  refine h1 B σ Hf1 H1 (E.ext x1) _ fun Hf2 H2 x2 => ?_
  refine h2 B σ Hf2 H2 (E.ext (x1.trans x2)) _ fun Hf3 H3 x3 => ?_
  have r3 := r.ext (x2.trans x3)
  have x13 := (x1.trans x2).trans x3
  obtain ⟨a, vs, rfl, ha, rr⟩ := r3.lst_of x3.fh
  refine ⟨a, vs, rfl, ha, fun p hp => ?_⟩
  refine q _ Hf3 _ [p] (x13.trans (x3.kp.ow hp)) ⟨p, _, rfl, rfl, upd_same, rr.cut, Nat.le_trans (cut_len _ _ _) r3.lst_len⟩ (List.nodup_cons.mpr ⟨by simp, .nil⟩) fun b hb => ?_
  cases List.mem_singleton.mp hb
  refine ⟨?_, x3.kp.le.free hp⟩
  cases z : H p with
  | none => rfl
  | some u => exact absurd hp (x13.li p (by rw [z]; simp))
theorem xp_slS {z : Str} (h : XR Tb X e ds (.str z)) (h1 : XPO Tb X e1 ds lo) (h2 : XPO Tb X e2 ds hi) : XP Tb X (.Subscript e (.Slice e1 e2 none p2) pos) ds (.str (cutS z lo hi)) := fun B σ Hf H E Q q => by
  refine ⟨_, pe_slice sl_str pe_max po_max po_max, ?_⟩
  refine h B σ Hf H E _ fun v Hf1 H1 x1 r => ?_
  refine h1 B σ Hf1 H1 (E.ext x1) _ fun Hf2 H2 x2 => ?_
  refine h2 B σ Hf2 H2 (E.ext (x1.trans x2)) _ fun Hf3 H3 x3 => ?_
  have hl := r.str_len
  cases r.str_of
  exact ⟨z, rfl, sz_of hl, q _ Hf3 H3 ((x1.trans x2).trans x3) (.str _ (Nat.le_trans (cutS_length z lo hi) hl))⟩
theorem str_app_len (y z : Str) : (y ++ z).length = y.length + z.length := by
  show (y.cps ++ z.cps).size = y.cps.size + z.cps.size
  rw [Array.size_append]
theorem opd_catS {y z : Str} (hl : y.length + z.length ≤ LN) : OpD Tb X (binaryOp .Add) (.str y) (.str z) (.str (y ++ z)) := ⟨_, op_add_str, fun x y Hf H kp hx hy Q q => by
  cases hx.str_of
  cases hy.str_of
  exact ⟨_, _, rfl, rfl, sz_of hl, q _ Hf H kp.refl (.str _ (by rw [str_app_len]; exact hl))⟩⟩

/-! ### calls of built-ins -/
theorem RsL.one_of {K : Frag} {Hf H : Hp} {vs : List V} {d : Dt} (h : RsL K Hf H vs [d]) : ∃ v, vs = [v] ∧ Rs K Hf H v d := by
  cases h with
  | cons a b =>
    cases b
    exact ⟨_, rfl, a⟩
theorem RsL.two_of {K : Frag} {Hf H : Hp} {vs : List V} {d e : Dt} (h : RsL K Hf H vs [d, e]) : ∃ v w, vs = [v, w] ∧ Rs K Hf H v d ∧ Rs K Hf H w e := by
  cases h with
  | cons a b =>
    obtain ⟨w, rfl, c⟩ := b.one_of
    exact ⟨_, _, rfl, a, c⟩
theorem own_new {K : Frag} {Tb : Tbs} {Hf H : Hp} (kp : Kp Tb Hf H) {p : Addr} {vs : List V} {ys : List Dt} (hp : H p = none) (r : RepL K Hf vs ys) (ll : ys.length ≤ LN) {Q : VK} (q : Vo Tb K Hf H (.lst ys) Q) : Q (.ref p) (upd H p (.lst vs)) :=
  q _ Hf _ [p] (kp.ow hp) ⟨p, vs, rfl, rfl, upd_same, r, ll⟩ (List.nodup_cons.mpr ⟨by simp, .nil⟩) fun a ha => by
    cases List.mem_singleton.mp ha
    exact ⟨hp, kp.le.free hp⟩
theorem cad_lenT : CaD Tb X (.builtin "len") [.tuple ys] (.int (ys.length : Int)) := ⟨_, call_len_seq, fun vs Hf H kp r Q q => by
  obtain ⟨v, rfl, rv⟩ := r.one_of
  obtain ⟨a, ws, rfl, ha, rr⟩ := rv.tup_of kp.le
  exact ⟨a, ws, rfl, .inr ha, by rw [rr.length]; exact q _ Hf H kp.refl (.int _)⟩⟩
theorem cad_lenL : CaD Tb X (.builtin "len") [.list ys] (.int (ys.length : Int)) := ⟨_, call_len_seq, fun vs Hf H kp r Q q => by
  obtain ⟨v, rfl, rv⟩ := r.one_of
  obtain ⟨a, ws, rfl, ha, rr⟩ := rv.lst_of kp.le
  exact ⟨a, ws, rfl, .inl ha, by rw [rr.length]; exact q _ Hf H kp.refl (.int _)⟩⟩
theorem cad_lenS {z : Str} : CaD Tb X (.builtin "len") [.str z] (.int (z.length : Int)) := ⟨_, call_len_str, fun vs Hf H kp r Q q => by
  obtain ⟨v, rfl, rv⟩ := r.one_of
  have hl := rv.str_len
  cases rv.str_of
  exact ⟨z, rfl, sz_of hl, q _ Hf H kp.refl (.int _)⟩⟩
theorem cad_abs {i : Int} : CaD Tb X (.builtin "abs") [.int i] (.int (if i < 0 then -i else i)) := ⟨_, call_abs, fun vs Hf H kp r Q q => by
  obtain ⟨v, rfl, rv⟩ := r.one_of
  cases rv.int_of
  exact ⟨i, rfl, q _ Hf H kp.refl (.int _)⟩⟩
theorem max_if (i j : Int) : (if j > i then j else i) = max i j := by
  rw [Int.max_def]
  split <;> split <;> omega
theorem min_if (i j : Int) : (if j < i then j else i) = min i j := by
  rw [Int.min_def]
  split <;> split <;> omega
theorem cad_max2 {i j : Int} (hc : X.calm = true) : CaD Tb X (.builtin "max") [.int i, .int j] (.int (max i j)) := ⟨_, call_max2 hc, fun vs Hf H kp r Q q => by
  obtain ⟨v, w, rfl, r1, r2⟩ := r.two_of
  cases r1.int_of
  cases r2.int_of
  exact ⟨i, j, rfl, by rw [max_if]; exact q _ Hf H kp.refl (.int _)⟩⟩
theorem cad_min2 {i j : Int} (hc : X.calm = true) : CaD Tb X (.builtin "min") [.int i, .int j] (.int (min i j)) := ⟨_, call_min2 hc, fun vs Hf H kp r Q q => by
  obtain ⟨v, w, rfl, r1, r2⟩ := r.two_of
  cases r1.int_of
  cases r2.int_of
  exact ⟨i, j, rfl, by rw [min_if]; exact q _ Hf H kp.refl (.int _)⟩⟩
theorem cad_int {i : Int} : CaD Tb X (.type "int") [.int i] (.int i) := ⟨_, call_int1, fun vs Hf H kp r Q q => by
  obtain ⟨v, rfl, rv⟩ := r.one_of
  cases rv.int_of
  exact .inl ⟨i, rfl, q _ Hf H kp.refl (.int _)⟩⟩
theorem cad_tupL : CaD Tb X (.type "tuple") [.list ys] (.tuple ys) := ⟨_, call_tuple_of, fun vs Hf H kp r Q q => by
  obtain ⟨v, rfl, rv⟩ := r.one_of
  have ll := rv.lst_len
  obtain ⟨a, ws, rfl, ha, rr⟩ := rv.lst_of kp.le
  exact ⟨a, ws, rfl, .inl ⟨ha, fun p hp => q _ (upd Hf p (.tup ws)) _ (kp.fz hp rfl) (.tup (.inl (.inl upd_same)) ll (rr.mono (Ex.new (kp.le.free hp))))⟩⟩⟩
theorem cad_tupT : CaD Tb X (.type "tuple") [.tuple ys] (.tuple ys) := ⟨_, call_tuple_of, fun vs Hf H kp r Q q => by
  obtain ⟨v, rfl, rv⟩ := r.one_of
  obtain ⟨a, ws, e, ha, rr⟩ := rv.tup_of kp.le
  subst e
  cases rv with
  | fz g => exact ⟨a, ws, rfl, .inr ⟨ha, q _ Hf H kp.refl g⟩⟩⟩
theorem cao_listT : CaO Tb X (.type "list") [.tuple ys] (.lst ys) := ⟨_, call_list_of, fun vs Hf H kp r Q q => by
  obtain ⟨v, rfl, rv⟩ := r.one_of
  have ll := rv.tup_len
  obtain ⟨a, ws, rfl, ha, rr⟩ := rv.tup_of kp.le
  exact ⟨a, ws, rfl, .inr ha, fun p hp => own_new kp hp rr ll q⟩⟩
theorem cao_listL : CaO Tb X (.type "list") [.list ys] (.lst ys) := ⟨_, call_list_of, fun vs Hf H kp r Q q => by
  obtain ⟨v, rfl, rv⟩ := r.one_of
  have ll := rv.lst_len
  obtain ⟨a, ws, rfl, ha, rr⟩ := rv.lst_of kp.le
  exact ⟨a, ws, rfl, .inl ha, fun p hp => own_new kp hp rr ll q⟩⟩
theorem RepL.ints_of {K : Frag} {H : Hp} : ∀ {ns : List Int} {vs : List V}, RepL K H vs (ns.map .int) → vs = ns.map V.int
  | [], _, h => h.nil_of
  | n :: ns, _, h => by
    obtain ⟨v, r, rfl, a, b⟩ := h.cons_of
    rw [a.int_of, RepL.ints_of b]
    rfl
theorem RepL.bools_of {K : Frag} {H : Hp} : ∀ {ns : List Bool} {vs : List V}, RepL K H vs (ns.map .bool) → vs = ns.map V.bl
  | [], _, h => h.nil_of
  | n :: ns, _, h => by
    obtain ⟨v, r, rfl, a, b⟩ := h.cons_of
    rw [a.bl_of, RepL.bools_of b]
    rfl
theorem cad_all {bs : List Bool} (hc : X.calm = true) : CaD Tb X (.builtin "all") [.list (bs.map .bool)] (.bool (bs.all id)) := ⟨_, cr_all hc, fun vs Hf H kp r Q q => by
  obtain ⟨v, rfl, rv⟩ := r.one_of
  obtain ⟨a, ws, rfl, ha, rr⟩ := rv.lst_of kp.le
  rw [rr.bools_of] at ha
  exact ⟨a, bs, rfl, ha, q _ Hf H kp.refl (.bl _)⟩⟩
theorem cad_any {bs : List Bool} (hc : X.calm = true) : CaD Tb X (.builtin "any") [.list (bs.map .bool)] (.bool (bs.any id)) := ⟨_, cr_any hc, fun vs Hf H kp r Q q => by
  obtain ⟨v, rfl, rv⟩ := r.one_of
  obtain ⟨a, ws, rfl, ha, rr⟩ := rv.lst_of kp.le
  rw [rr.bools_of] at ha
  exact ⟨a, bs, rfl, ha, q _ Hf H kp.refl (.bl _)⟩⟩
theorem cad_sum {ns : List Int} (hc : X.calm = true) : CaD Tb X (.builtin "sum") [.list (ns.map .int)] (.int ns.sum) := ⟨_, cr_sum hc, fun vs Hf H kp r Q q => by
  obtain ⟨v, rfl, rv⟩ := r.one_of
  obtain ⟨a, ws, rfl, ha, rr⟩ := rv.lst_of kp.le
  rw [rr.ints_of] at ha
  exact ⟨a, ns, rfl, ha, q _ Hf H kp.refl (.int _)⟩⟩
/-! the greatest, the least of numbers -/
def maxL : List Int → Option Int
  | [] => none
  | x :: r => some (r.foldl max x)
def minL : List Int → Option Int
  | [] => none
  | x :: r => some (r.foldl min x)
theorem foldmax_spec : ∀ (r : List Int) (x : Int), (r.foldl max x ∈ x :: r) ∧ ∀ y, y ∈ x :: r → y ≤ r.foldl max x
  | [], x => ⟨List.mem_singleton.mpr rfl, fun y h => by rw [List.mem_singleton.mp h]; exact Int.le_refl _⟩
  | z :: r, x => by
    obtain ⟨h1, h2⟩ := foldmax_spec r (max x z)
    show (r.foldl max (max x z) ∈ x :: z :: r) ∧ ∀ y, y ∈ x :: z :: r → y ≤ r.foldl max (max x z)
    refine ⟨?_, fun y hy => ?_⟩
    · rcases List.mem_cons.mp h1 with h | h
      · rw [h]
        rw [Int.max_def]
        split
        · exact List.mem_cons_of_mem _ List.mem_cons_self
        · exact List.mem_cons_self
      · exact List.mem_cons_of_mem _ (List.mem_cons_of_mem _ h)
    · have h3 := h2 _ List.mem_cons_self
      rcases List.mem_cons.mp hy with rfl | hy
      · exact Int.le_trans (Int.le_max_left _ _) h3
      · rcases List.mem_cons.mp hy with rfl | hy
        · exact Int.le_trans (Int.le_max_right _ _) h3
        · exact h2 _ (List.mem_cons_of_mem _ hy)
theorem foldmin_spec : ∀ (r : List Int) (x : Int), (r.foldl min x ∈ x :: r) ∧ ∀ y, y ∈ x :: r → r.foldl min x ≤ y
  | [], x => ⟨List.mem_singleton.mpr rfl, fun y h => by rw [List.mem_singleton.mp h]; exact Int.le_refl _⟩
  | z :: r, x => by
    obtain ⟨h1, h2⟩ := foldmin_spec r (min x z)
    show (r.foldl min (min x z) ∈ x :: z :: r) ∧ ∀ y, y ∈ x :: z :: r → r.foldl min (min x z) ≤ y
    refine ⟨?_, fun y hy => ?_⟩
    · rcases List.mem_cons.mp h1 with h | h
      · rw [h]
        rw [Int.min_def]
        split
        · exact List.mem_cons_self
        · exact List.mem_cons_of_mem _ List.mem_cons_self
      · exact List.mem_cons_of_mem _ (List.mem_cons_of_mem _ h)
    · have h3 := h2 _ List.mem_cons_self
      rcases List.mem_cons.mp hy with rfl | hy
      · exact Int.le_trans h3 (Int.min_le_left _ _)
      · rcases List.mem_cons.mp hy with rfl | hy
        · exact Int.le_trans h3 (Int.min_le_right _ _)
        · exact h2 _ (List.mem_cons_of_mem _ hy)
theorem maxL_spec {ns : List Int} {m : Int} (h : maxL ns = some m) : m ∈ ns ∧ ∀ y, y ∈ ns → y ≤ m := by
  cases ns with
  | nil => cases h
  | cons x r =>
    cases h
    exact foldmax_spec r x
theorem minL_spec {ns : List Int} {m : Int} (h : minL ns = some m) : m ∈ ns ∧ ∀ y, y ∈ ns → m ≤ y := by
  cases ns with
  | nil => cases h
  | cons x r =>
    cases h
    exact foldmin_spec r x
theorem cad_max {ns : List Int} {m : Int} (hc : X.calm = true) (hm : maxL ns = some m) : CaD Tb X (.builtin "max") [.list (ns.map .int)] (.int m) := ⟨_, cr_max hc, fun vs Hf H kp r Q q => by
  obtain ⟨v, rfl, rv⟩ := r.one_of
  obtain ⟨a, ws, rfl, ha, rr⟩ := rv.lst_of kp.le
  rw [rr.ints_of] at ha
  obtain ⟨m1, m2⟩ := maxL_spec hm
  refine ⟨a, ns, rfl, ha, List.length_pos_of_mem m1, fun k k1 k2 => ?_⟩
  have e : k = m := Int.le_antisymm (m2 k k1) (k2 m m1)
  rw [e]
  exact q _ Hf H kp.refl (.int _)⟩
theorem cad_min {ns : List Int} {m : Int} (hc : X.calm = true) (hm : minL ns = some m) : CaD Tb X (.builtin "min") [.list (ns.map .int)] (.int m) := ⟨_, cr_min hc, fun vs Hf H kp r Q q => by
  obtain ⟨v, rfl, rv⟩ := r.one_of
  obtain ⟨a, ws, rfl, ha, rr⟩ := rv.lst_of kp.le
  rw [rr.ints_of] at ha
  obtain ⟨m1, m2⟩ := minL_spec hm
  refine ⟨a, ns, rfl, ha, List.length_pos_of_mem m1, fun k k1 k2 => ?_⟩
  have e : k = m := Int.le_antisymm (k2 m m1) (m2 k k1)
  rw [e]
  exact q _ Hf H kp.refl (.int _)⟩

/-! ### sorted -/
def srtR : V × Dt → Value → Prop := fun p u => RelV p.1 u
theorem each_of {K : Frag} {H : Hp} {ws : List V} {ys : List Dt} : ∀ {us : List Value}, RepL K H ws ys → Vals ws us → PySem.W.EachIs (fun u p => RelV p.1 u) us (ws.zip ys) := by
  intro us r
  induction us generalizing ws ys with
  | nil =>
    intro v
    cases v
    exact .nil
  | cons u us ih =>
    intro v
    cases v with
    | cons rv vs =>
      cases r with
      | cons _ r => exact .cons rv (ih r vs)
theorem each_reads {X : Cx} {pins : List (Addr × Obj)} {σ : L2.St} {H : Hp} {s : Shared} (I : Inv X pins σ H s) : ∀ {us : List Value} {ws : List V} {ys : List Dt}, DpAll X.K H ws ys → Vals ws us → PySem.W.EachIs (fun u (p : V × Dt) => ∃ as, Reads s.heap u p.2 as) us (ws.zip ys)
  | [], _, _, _, .nil => .nil
  | u :: us, _, _, .cons d ds, .cons rv vs => .cons (Dp.reads I _ _ _ d rv) (each_reads I ds vs)
theorem zip_snd {K : Frag} {H : Hp} : ∀ {ws : List V} {ys : List Dt}, RepL K H ws ys → (ws.zip ys).map (·.2) = ys
  | _, _, .nil => rfl
  | _, _, .cons _ r => congrArg (_ :: ·) (zip_snd r)
theorem zip_rep {K : Frag} {H : Hp} : ∀ {ws : List V} {ys : List Dt}, RepL K H ws ys → ∀ p, p ∈ ws.zip ys → Rep K H p.1 p.2
  | _, _, .cons h r, p, hp => by
    rw [List.zip_cons_cons] at hp
    rcases List.mem_cons.mp hp with rfl | hp
    · exact h
    · exact zip_rep r p hp
theorem rep_zip {K : Frag} {H : Hp} : ∀ (ps : List (V × Dt)), (∀ p, p ∈ ps → Rep K H p.1 p.2) → RepL K H (ps.map (·.1)) (ps.map (·.2))
  | [], _ => .nil
  | p :: ps, h => .cons (h p List.mem_cons_self) (rep_zip ps fun q hq => h q (List.mem_cons_of_mem _ hq))
theorem vals_each : ∀ {us : List Value} {ps : List (V × Dt)}, PySem.W.EachIs (fun u (p : V × Dt) => RelV p.1 u) us ps → Vals (ps.map (·.1)) us
  | _, _, .nil => .nil
  | _, _, .cons h r => .cons h (vals_each r)
def dLe (a b : Dt) : Bool := !PySem.W.dataLt b a
theorem sort_map_snd (ps : List (V × Dt)) : (ps.mergeSort (PySem.W.dataLe false fun p : V × Dt => p.2)).map (·.2) = (ps.map (·.2)).mergeSort dLe := by
  rw [PySem.W.dataLe_eq]
  exact List.map_mergeSort (fun a _ b _ => rfl)
/-- the items may be put in order -/
def okSort (ds : List Dt) : Prop := PySem.W.AllAlike ds ∧ PySem.W.Sortable ds ∧ ∀ d, d ∈ ds → okD d = true
def rSortD (K : Frag) (ys : List Dt) : List V → Hp → VK → Prop := fun vs H Q => ∃ a ws, vs = [V.ref a] ∧ SqL K H a ws ∧ RepL K H ws ys ∧ ys.length ≤ LN ∧ ∀ ps : List (V × Dt), ps = (ws.zip ys).mergeSort (PySem.W.dataLe false fun p : V × Dt => p.2) → ∀ p, H p = none → Q (.ref p) (upd H p (.lst (ps.map (·.1))))
theorem plainAll_of : ∀ {ds : List Dt}, (∀ d, d ∈ ds → okD d = true) → PyData.plainAll ds = true
  | [], _ => rfl
  | d :: ds, h => by
    rw [PyData.plainAll, (okD_of (h d List.mem_cons_self)).1, plainAll_of fun e he => h e (List.mem_cons_of_mem _ he)]
    rfl
theorem cr_sortD (hu : Deep X) (ok : okSort ys) : CallR X (.builtin "sorted") (rSortD X.K ys) := by
  intro pins s σ H vs us Q I r h
  obtain ⟨a, ws, rfl, hs, rr, o3, q⟩ := h
  obtain ⟨its, rv, hl, hz⟩ := I.list hs
  rw [Vals.ref1 r]
  obtain ⟨o1, o2, o4⟩ := ok
  have hl0 : (ws.zip ys).length = ys.length := by rw [List.length_zip, rr.length, Nat.min_self]
  refine PySem.W.sorted_data (bs := ws.zip ys) (enc := fun p => p.2) hl.isList (each_of rr rv) (each_reads I (RepL.dpl ys (plainAll_of o4) rr) rv) (by rw [zip_snd rr]; exact o1) (by rw [zip_snd rr]; exact o2) (by rw [hl0]; exact sz_of o3) (fun b hb => ?_) fun out h1 h2 => ?_
  · have hb2 : b.2 ∈ ys := by
      rw [← zip_snd rr]
      exact List.mem_map_of_mem hb
    have := (okD_of (o4 _ hb2)).2
    unfold Deep at hu
    omega
  · obtain ⟨ep, he'⟩ := PyProof.Rows.sortedAll_at s.heap its (List.toArray out)
    have hv := vals_each h2
    have hlen : (((ws.zip ys).mergeSort (PySem.W.dataLe false fun p : V × Dt => p.2)).map (·.1)).length ≤ sizeLine := by
      rw [List.length_map, List.length_mergeSort, hl0]
      exact sz_of o3
    exact ⟨.ref _, _, I.laid (t' := s.toks) (o := .lst (((ws.zip ys).mergeSort (PySem.W.dataLe false fun p : V × Dt => p.2)).map (·.1))) (fun _ _ => PyProof.Rows.sortedAll_old) (Nat.le_succ _) ⟨hlen, out, ep, hv, by rw [he']⟩, rfl, q _ rfl _ (I.hok.fresh (Nat.le_succ _))⟩
theorem cao_sorted (hu : Deep X) (ok : okSort ys) : CaO Tb X (.builtin "sorted") [.list ys] (.lst (ys.mergeSort dLe)) := ⟨_, cr_sortD hu ok, fun vs Hf H kp r Q q => by
  obtain ⟨v, rfl, rv⟩ := r.one_of
  have ll := rv.lst_len
  obtain ⟨a, ws, rfl, ha, rr⟩ := rv.lst_of kp.le
  refine ⟨a, ws, rfl, ha, rr.mono kp.le.ex, ll, fun ps hps p hp => ?_⟩
  have r2 : RepL X.K Hf (ps.map (·.1)) (ps.map (·.2)) := rep_zip ps fun z hz => zip_rep rr z (by
    rw [hps] at hz
    exact (List.mergeSort_perm _ _).mem_iff.mp hz)
  have e : ps.map (·.2) = ys.mergeSort dLe := by
    rw [hps, sort_map_snd, zip_snd rr]
  rw [e] at r2
  exact own_new kp hp r2 (by rw [List.length_mergeSort]; exact ll) q⟩

/-! ### isinstance -/
def isI : Dt → Bool
  | .int _ => true
  | .bool _ => true
  | _ => false
def isB : Dt → Bool
  | .bool _ => true
  | _ => false
def isS : Dt → Bool
  | .str _ => true
  | _ => false
def isT : Dt → Bool
  | .tuple _ => true
  | _ => false
def tyN : Dt → String
  | .none => "NoneType"
  | .bool _ => "bool"
  | .int _ => "int"
  | .str _ => "str"
  | .list _ => "list"
  | .tuple _ => "tuple"
  | .dict _ => "dict"
theorem tyX_t {K : Frag} {H : Hp} {a : Addr} {xs : List V} (h : SqT K H a xs) : TyX K H (.ref a) (.type "tuple") := by
  rcases h with (h | ⟨o, h⟩) | ⟨o, its, n, h, c, _⟩
  · exact .base (.tup h)
  · exact .fTuple h
  · exact .kTuple h c
theorem tyX_l {K : Frag} {H : Hp} {a : Addr} {xs : List V} (h : SqL K H a xs) : TyX K H (.ref a) (.type "list") := by
  rcases h with (h | ⟨o, h⟩) | ⟨o, its, n, h, c, _⟩
  · exact .base (.lst h)
  · exact .base (.frz h)
  · exact .kList h c
theorem Rep.ty {K : Frag} {Hf H : Hp} {v : V} {d : Dt} (e : Le Hf H) (r : Rep K Hf v d) : TyX K H v (.type (tyN d)) := by
  cases r with
  | non => exact .base .non
  | bl b => exact .base (.bl b)
  | int b => exact .base (.int b)
  | str b _ => exact .base (.str b)
  | lst a _ b => exact tyX_l (ex_l e.ex a)
  | tup a _ b => exact tyX_t (ex_t e.ex a)
  | dK a b => exact .base (.dK (e _ _ a).1)
  | dT a b => exact .base (.dT (e _ _ a).1)
theorem kit_int (d : Dt) : kitB (tyN d) "int" = some (isI d) := by
  cases d with
  | none => exact (by decide +kernel : kitB "NoneType" "int" = some false)
  | bool _ => exact (by decide +kernel : kitB "bool" "int" = some true)
  | int _ => exact (by decide +kernel : kitB "int" "int" = some true)
  | str _ => exact (by decide +kernel : kitB "str" "int" = some false)
  | list _ => exact (by decide +kernel : kitB "list" "int" = some false)
  | tuple _ => exact (by decide +kernel : kitB "tuple" "int" = some false)
  | dict _ => exact (by decide +kernel : kitB "dict" "int" = some false)
theorem kit_bool (d : Dt) : kitB (tyN d) "bool" = some (isB d) := by
  cases d with
  | none => exact (by decide +kernel : kitB "NoneType" "bool" = some false)
  | bool _ => exact (by decide +kernel : kitB "bool" "bool" = some true)
  | int _ => exact (by decide +kernel : kitB "int" "bool" = some false)
  | str _ => exact (by decide +kernel : kitB "str" "bool" = some false)
  | list _ => exact (by decide +kernel : kitB "list" "bool" = some false)
  | tuple _ => exact (by decide +kernel : kitB "tuple" "bool" = some false)
  | dict _ => exact (by decide +kernel : kitB "dict" "bool" = some false)
theorem kit_str (d : Dt) : kitB (tyN d) "str" = some (isS d) := by
  cases d with
  | none => exact (by decide +kernel : kitB "NoneType" "str" = some false)
  | bool _ => exact (by decide +kernel : kitB "bool" "str" = some false)
  | int _ => exact (by decide +kernel : kitB "int" "str" = some false)
  | str _ => exact (by decide +kernel : kitB "str" "str" = some true)
  | list _ => exact (by decide +kernel : kitB "list" "str" = some false)
  | tuple _ => exact (by decide +kernel : kitB "tuple" "str" = some false)
  | dict _ => exact (by decide +kernel : kitB "dict" "str" = some false)
theorem kit_tuple (d : Dt) : kitB (tyN d) "tuple" = some (isT d) := by
  cases d with
  | none => exact (by decide +kernel : kitB "NoneType" "tuple" = some false)
  | bool _ => exact (by decide +kernel : kitB "bool" "tuple" = some false)
  | int _ => exact (by decide +kernel : kitB "int" "tuple" = some false)
  | str _ => exact (by decide +kernel : kitB "str" "tuple" = some false)
  | list _ => exact (by decide +kernel : kitB "list" "tuple" = some false)
  | tuple _ => exact (by decide +kernel : kitB "tuple" "tuple" = some true)
  | dict _ => exact (by decide +kernel : kitB "dict" "tuple" = some false)
theorem clsV_ty (n : String) : ClsV (.ty n) (.type n) := by
  first
    | exact .ty n
    | exact ⟨rfl⟩
    | rfl
    | constructor
theorem xp_isi {T : String} {x : Str} {d : Dt} {b : Bool} {p p' : Pos} (n : Bn X "isinstance" (.builtin "isinstance")) (nt : Bn X x (.type T)) (h : XP Tb X e ds d) (hb : kitB (tyN d) T = some b)
    (he : starEach [e, .Name x p'] X.env = (false, eval e X.env) :: starEach [.Name x p'] X.env := by rfl) (he2 : starEach [.Name x p'] X.env = [(false, eval (.Name x p') X.env)] := by rfl) (hpl : (backTo pos (starEach [.Name x p'] X.env)).any (·.1) = false := by rfl) :
    XP Tb X (.Call (.Name "isinstance" p) [e, .Name x p'] [] pos) ds (.bool b) := fun B σ Hf H E Q q => by
  refine ⟨_, pe_callB call_isi n.g n.m n.v (pa_cons pe_max (pa_cons (pe_bltn (v := .ty T) nt.g nt.m nt.v rfl nt.n nt.d) pa_nil he2) he) n.n n.d he hpl, ?_⟩
  refine h B σ Hf H E _ fun v Hf1 H1 x1 r => ?_
  exact ⟨v, .ty T, _, _, b, rfl, clsV_ty T, r.ty x1.fh, kit_ty hb, q _ Hf1 H1 x1 (.bl _)⟩
end
end Pk

set_option Elab.async false
set_option linter.all false
set_option maxRecDepth 100000
set_option maxHeartbeats 1000000
/-! G8: typed data: encoders and what is true of them; partial operations; changes of own lists; truth. -/
namespace Pk
open PySem PySem.Spec PyProof.Rows L2 GxR

/-! ### encoders -/
section
variable {α β γ δ : Type}
def eT (f : α → Dt) (xs : List α) : Dt := .tuple (xs.map f)
def eL (f : α → Dt) (xs : List α) : Dt := .list (xs.map f)
def eO (f : α → Dt) : Option α → Dt
  | none => .none
  | some x => f x
def eP2 (f : α → Dt) (g : β → Dt) (p : α × β) : Dt := .tuple [f p.1, g p.2]
def eP3 (f : α → Dt) (g : β → Dt) (h : γ → Dt) (p : α × β × γ) : Dt := .tuple [f p.1, g p.2.1, h p.2.2]
def eP4 (f : α → Dt) (g : β → Dt) (h : γ → Dt) (k : δ → Dt) (p : α × β × γ × δ) : Dt := .tuple [f p.1, g p.2.1, h p.2.2.1, k p.2.2.2]
def eI : Int → Dt := .int
def eB : Bool → Dt := .bool
def eS : Str → Dt := .str
def eN : Unit → Dt := fun _ => .none
def eA : Dt → Dt := fun d => d
/-! no dict, at most n deep -/
def Pl (f : α → Dt) (n : Nat) : Prop := ∀ x, (f x).plain = true ∧ (f x).depth ≤ n
theorem plI : Pl eI 0 := fun x => ⟨rfl, Nat.le_refl _⟩
theorem plB : Pl eB 0 := fun x => ⟨rfl, Nat.le_refl _⟩
theorem plS : Pl eS 0 := fun x => ⟨rfl, Nat.le_refl _⟩
theorem plN : Pl eN 0 := fun x => ⟨rfl, Nat.le_refl _⟩
theorem plO {f : α → Dt} {n : Nat} (h : Pl f n) : Pl (eO f) n
  | none => ⟨rfl, Nat.zero_le _⟩
  | some x => h x
theorem pl_all {f : α → Dt} {n : Nat} (h : Pl f n) : ∀ xs : List α, PyData.plainAll (xs.map f) = true ∧ PyData.depthAll (xs.map f) ≤ n
  | [] => ⟨rfl, Nat.zero_le _⟩
  | x :: xs => by
    obtain ⟨a, b⟩ := h x
    obtain ⟨c, d⟩ := pl_all h xs
    refine ⟨?_, ?_⟩
    · show ((f x).plain && PyData.plainAll (xs.map f)) = true
      rw [a, c]
      rfl
    · show max (f x).depth (PyData.depthAll (xs.map f)) ≤ n
      exact Nat.max_le.mpr ⟨b, d⟩
theorem plT {f : α → Dt} {n : Nat} (h : Pl f n) : Pl (eT f) (n + 1) := fun xs => ⟨(pl_all h xs).1, Nat.succ_le_succ (pl_all h xs).2⟩
theorem plL {f : α → Dt} {n : Nat} (h : Pl f n) : Pl (eL f) (n + 1) := fun xs => ⟨(pl_all h xs).1, Nat.succ_le_succ (pl_all h xs).2⟩
theorem plP2 {f : α → Dt} {g : β → Dt} {n : Nat} (h1 : Pl f n) (h2 : Pl g n) : Pl (eP2 f g) (n + 1) := fun p => by
  obtain ⟨a, b⟩ := h1 p.1
  obtain ⟨c, d⟩ := h2 p.2
  refine ⟨?_, ?_⟩
  · show ((f p.1).plain && ((g p.2).plain && true)) = true
    rw [a, c]
    rfl
  · show max (f p.1).depth (max (g p.2).depth 0) + 1 ≤ n + 1
    exact Nat.succ_le_succ (Nat.max_le.mpr ⟨b, Nat.max_le.mpr ⟨d, Nat.zero_le _⟩⟩)
theorem plP3 {f : α → Dt} {g : β → Dt} {k : γ → Dt} {n : Nat} (h1 : Pl f n) (h2 : Pl g n) (h3 : Pl k n) : Pl (eP3 f g k) (n + 1) := fun p => by
  obtain ⟨a, b⟩ := h1 p.1
  obtain ⟨c, d⟩ := h2 p.2.1
  obtain ⟨c', d'⟩ := h3 p.2.2
  refine ⟨?_, ?_⟩
  · show ((f p.1).plain && ((g p.2.1).plain && ((k p.2.2).plain && true))) = true
    rw [a, c, c']
    rfl
  · show max (f p.1).depth (max (g p.2.1).depth (max (k p.2.2).depth 0)) + 1 ≤ n + 1
    exact Nat.succ_le_succ (Nat.max_le.mpr ⟨b, Nat.max_le.mpr ⟨d, Nat.max_le.mpr ⟨d', Nat.zero_le _⟩⟩⟩)
theorem plP4 {f : α → Dt} {g : β → Dt} {k : γ → Dt} {l : δ → Dt} {n : Nat} (h1 : Pl f n) (h2 : Pl g n) (h3 : Pl k n) (h4 : Pl l n) : Pl (eP4 f g k l) (n + 1) := fun p => by
  obtain ⟨a, b⟩ := h1 p.1
  obtain ⟨c, d⟩ := h2 p.2.1
  obtain ⟨c', d'⟩ := h3 p.2.2.1
  obtain ⟨c'', d''⟩ := h4 p.2.2.2
  refine ⟨?_, ?_⟩
  · show ((f p.1).plain && ((g p.2.1).plain && ((k p.2.2.1).plain && ((l p.2.2.2).plain && true)))) = true
    rw [a, c, c', c'']
    rfl
  · show max (f p.1).depth (max (g p.2.1).depth (max (k p.2.2.1).depth (max (l p.2.2.2).depth 0))) + 1 ≤ n + 1
    exact Nat.succ_le_succ (Nat.max_le.mpr ⟨b, Nat.max_le.mpr ⟨d, Nat.max_le.mpr ⟨d', Nat.max_le.mpr ⟨d'', Nat.zero_le _⟩⟩⟩⟩)
theorem Pl.up {f : α → Dt} {n m : Nat} (h : Pl f n) (l : n ≤ m) : Pl f m := fun x => ⟨(h x).1, Nat.le_trans (h x).2 l⟩
theorem Pl.ok {f : α → Dt} {n : Nat} (h : Pl f n) (l : n ≤ 60) (x : α) : okD (f x) = true := by
  unfold okD
  rw [(h x).1, decide_eq_true (Nat.le_trans (h x).2 l)]
  rfl
theorem Pl.oks {f : α → Dt} {n : Nat} (h : Pl f n) (l : n ≤ 59) (xs : List α) : okDs (xs.map f) = true := by
  unfold okDs
  rw [(pl_all h xs).1, decide_eq_true (Nat.le_trans (pl_all h xs).2 l)]
  rfl
/-! no list -/
def Nl (f : α → Dt) : Prop := ∀ x, noL (f x) = true
theorem nlI : Nl eI := fun _ => rfl
theorem nlB : Nl eB := fun _ => rfl
theorem nlS : Nl eS := fun _ => rfl
theorem nlN : Nl eN := fun _ => rfl
theorem nlO {f : α → Dt} (h : Nl f) : Nl (eO f)
  | none => rfl
  | some x => h x
theorem nl_all {f : α → Dt} (h : Nl f) : ∀ xs : List α, noLs (xs.map f) = true
  | [] => rfl
  | x :: xs => by
    show (noL (f x) && noLs (xs.map f)) = true
    rw [h x, nl_all h xs]
    rfl
theorem nlT {f : α → Dt} (h : Nl f) : Nl (eT f) := fun xs => nl_all h xs
theorem nlP2 {f : α → Dt} {g : β → Dt} (h1 : Nl f) (h2 : Nl g) : Nl (eP2 f g) := fun p => by
  show (noL (f p.1) && (noL (g p.2) && true)) = true
  rw [h1, h2]
  rfl
theorem nlP3 {f : α → Dt} {g : β → Dt} {k : γ → Dt} (h1 : Nl f) (h2 : Nl g) (h3 : Nl k) : Nl (eP3 f g k) := fun p => by
  show (noL (f p.1) && (noL (g p.2.1) && (noL (k p.2.2) && true))) = true
  rw [h1, h2, h3]
  rfl
theorem nlP4 {f : α → Dt} {g : β → Dt} {k : γ → Dt} {l : δ → Dt} (h1 : Nl f) (h2 : Nl g) (h3 : Nl k) (h4 : Nl l) : Nl (eP4 f g k l) := fun p => by
  show (noL (f p.1) && (noL (g p.2.1) && (noL (k p.2.2.1) && (noL (l p.2.2.2) && true)))) = true
  rw [h1, h2, h3, h4]
  rfl
/-! not None -/
def Nn (f : α → Dt) : Prop := ∀ x, isN (f x) = false
theorem nnI : Nn eI := fun _ => rfl
theorem nnB : Nn eB := fun _ => rfl
theorem nnS : Nn eS := fun _ => rfl
theorem nnT {f : α → Dt} : Nn (eT f) := fun _ => rfl
theorem nnL {f : α → Dt} : Nn (eL f) := fun _ => rfl
theorem nnP2 {f : α → Dt} {g : β → Dt} : Nn (eP2 f g) := fun _ => rfl
theorem nnP3 {f : α → Dt} {g : β → Dt} {k : γ → Dt} : Nn (eP3 f g k) := fun _ => rfl
theorem nnP4 {f : α → Dt} {g : β → Dt} {k : γ → Dt} {l : δ → Dt} : Nn (eP4 f g k l) := fun _ => rfl
theorem isN_O {f : α → Dt} (h : Nn f) : ∀ x : Option α, isN (eO f x) = x.isNone
  | none => rfl
  | some x => h x
/-! == -/
def Eqv (f : α → Dt) [DecidableEq α] : Prop := ∀ x y, PyData.eqv (f x) (f y) = decide (x = y)
theorem beq_dec [DecidableEq α] [BEq α] [LawfulBEq α] (x y : α) : (x == y) = decide (x = y) := by
  by_cases h : x = y
  · subst h
    simp
  · rw [decide_eq_false h]
    simp [h]
theorem eqI : Eqv eI := fun x y => by
  show (x == y) = _
  exact beq_dec x y
theorem eqB : Eqv eB := fun x y => by
  show (x == y) = _
  exact beq_dec x y
theorem eqS : Eqv eS := fun x y => by
  show (x == y) = _
  by_cases h : x = y
  · subst h
    simp
  · rw [decide_eq_false h]
    simp [h]
theorem eqvAll_T [DecidableEq α] {f : α → Dt} (h : Eqv f) : ∀ xs ys : List α, PyData.eqvAll (xs.map f) (ys.map f) = decide (xs = ys)
  | [], [] => by rw [decide_eq_true rfl]; rfl
  | [], y :: ys => by rw [decide_eq_false (by simp)]; rfl
  | x :: xs, [] => by rw [decide_eq_false (by simp)]; rfl
  | x :: xs, y :: ys => by
    show (PyData.eqv (f x) (f y) && PyData.eqvAll (xs.map f) (ys.map f)) = _
    rw [h, eqvAll_T h xs ys]
    by_cases h1 : x = y
    · subst h1
      by_cases h2 : xs = ys
      · subst h2
        simp
      · simp [h2]
    · simp [h1]
theorem eqT [DecidableEq α] {f : α → Dt} (h : Eqv f) : Eqv (eT f) := fun xs ys => eqvAll_T h xs ys
theorem eqL [DecidableEq α] {f : α → Dt} (h : Eqv f) : Eqv (eL f) := fun xs ys => eqvAll_T h xs ys
theorem eqP2 [DecidableEq α] [DecidableEq β] {f : α → Dt} {g : β → Dt} (h1 : Eqv f) (h2 : Eqv g) : Eqv (eP2 f g) := fun p q => by
  show (PyData.eqv (f p.1) (f q.1) && (PyData.eqv (g p.2) (g q.2) && true)) = _
  rw [h1, h2]
  obtain ⟨a, b⟩ := p
  obtain ⟨c, d⟩ := q
  by_cases e1 : a = c <;> by_cases e2 : b = d <;> simp [e1, e2]
theorem eqP3 [DecidableEq α] [DecidableEq β] [DecidableEq γ] {f : α → Dt} {g : β → Dt} {k : γ → Dt} (h1 : Eqv f) (h2 : Eqv g) (h3 : Eqv k) : Eqv (eP3 f g k) := fun p q => by
  show (PyData.eqv (f p.1) (f q.1) && (PyData.eqv (g p.2.1) (g q.2.1) && (PyData.eqv (k p.2.2) (k q.2.2) && true))) = _
  rw [h1, h2, h3]
  obtain ⟨a, b, c⟩ := p
  obtain ⟨a', b', c'⟩ := q
  by_cases e1 : a = a' <;> by_cases e2 : b = b' <;> by_cases e3 : c = c' <;> simp [e1, e2, e3]
theorem eqP4 [DecidableEq α] [DecidableEq β] [DecidableEq γ] [DecidableEq δ] {f : α → Dt} {g : β → Dt} {k : γ → Dt} {l : δ → Dt} (h1 : Eqv f) (h2 : Eqv g) (h3 : Eqv k) (h4 : Eqv l) : Eqv (eP4 f g k l) := fun p q => by
  show (PyData.eqv (f p.1) (f q.1) && (PyData.eqv (g p.2.1) (g q.2.1) && (PyData.eqv (k p.2.2.1) (k q.2.2.1) && (PyData.eqv (l p.2.2.2) (l q.2.2.2) && true)))) = _
  rw [h1, h2, h3, h4]
  obtain ⟨a, b, c, d⟩ := p
  obtain ⟨a', b', c', d'⟩ := q
  by_cases e1 : a = a' <;> by_cases e2 : b = b' <;> by_cases e3 : c = c' <;> by_cases e4 : d = d' <;> simp [e1, e2, e3, e4]
theorem eqv_non_l {d : Dt} (h : isN d = false) : PyData.eqv .none d = false := by
  cases d <;> first | rfl | cases h
theorem eqv_non_r {d : Dt} (h : isN d = false) : PyData.eqv d .none = false := by
  cases d <;> first | rfl | cases h
theorem eqO [DecidableEq α] {f : α → Dt} (h : Eqv f) (n : Nn f) : Eqv (eO f)
  | none, none => by rw [decide_eq_true rfl]; rfl
  | none, some y => by
    rw [decide_eq_false (by simp)]
    exact eqv_non_l (n y)
  | some x, none => by
    rw [decide_eq_false (by simp)]
    exact eqv_non_r (n x)
  | some x, some y => by
    show PyData.eqv (f x) (f y) = _
    rw [h]
    by_cases e : x = y <;> simp [e]
theorem inDs_map [DecidableEq α] {f : α → Dt} (h : Eqv f) (x : α) : ∀ xs : List α, inDs (f x) (xs.map f) = decide (x ∈ xs)
  | [] => by rw [decide_eq_false (by simp)]; rfl
  | y :: ys => by
    have ih := inDs_map h x ys
    unfold inDs at ih ⊢
    rw [List.map_cons, List.any_cons, ih, h]
    by_cases e : y = x
    · subst e
      simp
    · have e' : ¬ x = y := fun z => e z.symm
      by_cases m : x ∈ ys <;> simp [e, e', m]
/-! < -/
def Lk (f : α → Dt) : Prop := ∀ x y, PySem.W.alike (f x) (f y) = true
theorem lkI : Lk eI := fun _ _ => rfl
theorem lkB : Lk eB := fun _ _ => rfl
theorem lkS : Lk eS := fun _ _ => rfl
theorem lk_all {f : α → Dt} (h : Lk f) : ∀ xs ys : List α, PySem.W.alikeAll (xs.map f) (ys.map f) = true
  | [], _ => rfl
  | _ :: _, [] => rfl
  | x :: xs, y :: ys => by
    show (PySem.W.alike (f x) (f y) && PySem.W.alikeAll (xs.map f) (ys.map f)) = true
    rw [h, lk_all h xs ys]
    rfl
theorem lkT {f : α → Dt} (h : Lk f) : Lk (eT f) := fun xs ys => lk_all h xs ys
theorem lkL {f : α → Dt} (h : Lk f) : Lk (eL f) := fun xs ys => lk_all h xs ys
theorem lkP2 {f : α → Dt} {g : β → Dt} (h1 : Lk f) (h2 : Lk g) : Lk (eP2 f g) := fun p q => by
  show (PySem.W.alike (f p.1) (f q.1) && (PySem.W.alike (g p.2) (g q.2) && true)) = true
  rw [h1, h2]
  rfl
theorem lkP3 {f : α → Dt} {g : β → Dt} {k : γ → Dt} (h1 : Lk f) (h2 : Lk g) (h3 : Lk k) : Lk (eP3 f g k) := fun p q => by
  show (PySem.W.alike (f p.1) (f q.1) && (PySem.W.alike (g p.2.1) (g q.2.1) && (PySem.W.alike (k p.2.2) (k q.2.2) && true))) = true
  rw [h1, h2, h3]
  rfl
theorem lkP4 {f : α → Dt} {g : β → Dt} {k : γ → Dt} {l : δ → Dt} (h1 : Lk f) (h2 : Lk g) (h3 : Lk k) (h4 : Lk l) : Lk (eP4 f g k l) := fun p q => by
  show (PySem.W.alike (f p.1) (f q.1) && (PySem.W.alike (g p.2.1) (g q.2.1) && (PySem.W.alike (k p.2.2.1) (k q.2.2.1) && (PySem.W.alike (l p.2.2.2) (l q.2.2.2) && true)))) = true
  rw [h1, h2, h3, h4]
  rfl
theorem Lk.lkD {f : α → Dt} (h : Lk f) (n : Nn f) (x y : α) : lkD (f x) (f y) = true := by
  unfold Pk.lkD
  rw [h, n]
  rfl
def Lt (f : α → Dt) (lt : α → α → Bool) : Prop := ∀ x y, PySem.W.dataLt (f x) (f y) = lt x y
def ltI (x y : Int) : Bool := decide (x < y)
def ltS (x y : Str) : Bool := decide (x.cps.toList < y.cps.toList)
def ltP2 [DecidableEq α] (l1 : α → α → Bool) (l2 : β → β → Bool) (p q : α × β) : Bool := if p.1 = q.1 then l2 p.2 q.2 else l1 p.1 q.1
def ltP3 [DecidableEq α] [DecidableEq β] (l1 : α → α → Bool) (l2 : β → β → Bool) (l3 : γ → γ → Bool) (p q : α × β × γ) : Bool := if p.1 = q.1 then (if p.2.1 = q.2.1 then l3 p.2.2 q.2.2 else l2 p.2.1 q.2.1) else l1 p.1 q.1
def ltP4 [DecidableEq α] [DecidableEq β] [DecidableEq γ] (l1 : α → α → Bool) (l2 : β → β → Bool) (l3 : γ → γ → Bool) (l4 : δ → δ → Bool) (p q : α × β × γ × δ) : Bool :=
  if p.1 = q.1 then (if p.2.1 = q.2.1 then (if p.2.2.1 = q.2.2.1 then l4 p.2.2.2 q.2.2.2 else l3 p.2.2.1 q.2.2.1) else l2 p.2.1 q.2.1) else l1 p.1 q.1
def ltT [DecidableEq α] (l : α → α → Bool) : List α → List α → Bool
  | [], [] => false
  | [], _ :: _ => true
  | _ :: _, [] => false
  | x :: xs, y :: ys => if x = y then ltT l xs ys else l x y
theorem ltI_ : Lt eI ltI := fun x y => PySem.W.dataLt_int x y
theorem ltS_ : Lt eS ltS := fun x y => PySem.W.dataLt_str x y
theorem dataLt_tup (xs ys : List Dt) : PySem.W.dataLt (.tuple xs) (.tuple ys) = PyProof.Rows.lexLt PyProof.Rows.itemOrd (PySem.W.keyToksAll xs) (PySem.W.keyToksAll ys) := rfl
theorem lex_cons {x y : Dt} (l : PySem.W.alike x y = true) (xs ys : List Dt) : PySem.W.dataLt (.tuple (x :: xs)) (.tuple (y :: ys)) = if PyData.eqv x y = true then PySem.W.dataLt (.tuple xs) (.tuple ys) else PySem.W.dataLt x y := PySem.W.dataLt_cons l xs ys
theorem lex_nil : PySem.W.dataLt (.tuple []) (.tuple []) = false := PyProof.Rows.lex_irrefl _
theorem ltP2_ [DecidableEq α] {f : α → Dt} {g : β → Dt} {l1 : α → α → Bool} {l2 : β → β → Bool} (h1 : Lt f l1) (h2 : Lt g l2) (e1 : Eqv f) (k1 : Lk f) (k2 : Lk g) [DecidableEq β] (e2 : Eqv g) (i2 : ∀ x, l2 x x = false) : Lt (eP2 f g) (ltP2 l1 l2) := fun p q => by
  unfold eP2 ltP2
  rw [lex_cons (k1 _ _), lex_cons (k2 _ _), lex_nil, e1, e2, h1, h2]
  by_cases a : p.1 = q.1
  · rw [decide_eq_true a, if_pos rfl, if_pos a]
    by_cases b : p.2 = q.2
    · rw [decide_eq_true b, if_pos rfl, b, i2]
    · rw [decide_eq_false b, if_neg Bool.false_ne_true]
  · rw [decide_eq_false a, if_neg Bool.false_ne_true, if_neg a]
theorem ltP3_ [DecidableEq α] [DecidableEq β] [DecidableEq γ] {f : α → Dt} {g : β → Dt} {k : γ → Dt} {l1 : α → α → Bool} {l2 : β → β → Bool} {l3 : γ → γ → Bool} (h1 : Lt f l1) (h2 : Lt g l2) (h3 : Lt k l3) (e1 : Eqv f) (e2 : Eqv g) (e3 : Eqv k) (k1 : Lk f) (k2 : Lk g) (k3 : Lk k) (i3 : ∀ x, l3 x x = false) :
    Lt (eP3 f g k) (ltP3 l1 l2 l3) := fun p q => by
  unfold eP3 ltP3
  rw [lex_cons (k1 _ _), lex_cons (k2 _ _), lex_cons (k3 _ _), lex_nil, e1, e2, e3, h1, h2, h3]
  by_cases a : p.1 = q.1
  · rw [decide_eq_true a, if_pos rfl, if_pos a]
    by_cases b : p.2.1 = q.2.1
    · rw [decide_eq_true b, if_pos rfl, if_pos b]
      by_cases c : p.2.2 = q.2.2
      · rw [decide_eq_true c, if_pos rfl, c, i3]
      · rw [decide_eq_false c, if_neg Bool.false_ne_true]
    · rw [decide_eq_false b, if_neg Bool.false_ne_true, if_neg b]
  · rw [decide_eq_false a, if_neg Bool.false_ne_true, if_neg a]
theorem ltI_irr (x : Int) : ltI x x = false := decide_eq_false (Int.lt_irrefl x)
/-! sorted -/
def srt (lt : α → α → Bool) (xs : List α) : List α := xs.mergeSort fun a b => !lt b a
theorem srt_map {f : α → Dt} {lt : α → α → Bool} (h : Lt f lt) (xs : List α) : (xs.map f).mergeSort dLe = (srt lt xs).map f := by
  unfold srt
  refine (List.map_mergeSort (r := fun a b => !lt b a) (s := dLe) (f := f) (l := xs) fun a _ b _ => ?_).symm
  unfold dLe
  rw [h]
def Sb (f : α → Dt) : Prop := ∀ xs : List α, PySem.W.Sortable (xs.map f)
theorem sbI : Sb eI := fun xs => .inr fun d hd => by
  obtain ⟨x, _, rfl⟩ := List.mem_map.mp hd
  exact ⟨fun z => (by cases z), fun _ z => (by cases z)⟩
theorem sbS : Sb eS := fun xs => .inr fun d hd => by
  obtain ⟨x, _, rfl⟩ := List.mem_map.mp hd
  exact ⟨fun z => (by cases z), fun _ z => (by cases z)⟩
theorem sbP2 {f : α → Dt} {g : β → Dt} : Sb (eP2 f g) := fun xs => .inl fun d hd => by
  obtain ⟨x, _, rfl⟩ := List.mem_map.mp hd
  exact ⟨_, _, rfl⟩
theorem sbP3 {f : α → Dt} {g : β → Dt} {k : γ → Dt} : Sb (eP3 f g k) := fun xs => .inl fun d hd => by
  obtain ⟨x, _, rfl⟩ := List.mem_map.mp hd
  exact ⟨_, _, rfl⟩
theorem sbP4 {f : α → Dt} {g : β → Dt} {k : γ → Dt} {l : δ → Dt} : Sb (eP4 f g k l) := fun xs => .inl fun d hd => by
  obtain ⟨x, _, rfl⟩ := List.mem_map.mp hd
  exact ⟨_, _, rfl⟩
theorem Sb.ok {f : α → Dt} {n : Nat} (h : Sb f) (k : Lk f) (p : Pl f n) (l : n ≤ 60) (xs : List α) : okSort (xs.map f) :=
  ⟨fun d hd e he => by
    obtain ⟨x, _, rfl⟩ := List.mem_map.mp hd
    obtain ⟨y, _, rfl⟩ := List.mem_map.mp he
    exact k x y, h xs, fun d hd => by
    obtain ⟨x, _, rfl⟩ := List.mem_map.mp hd
    exact p.ok l x⟩
end

/-! ### partial operations -/
section
variable {α β : Type}
/-- xs[i] -/
def idx (xs : List α) (i : Int) : Option α := atI xs i
theorem atI_map {f : α → β} {xs : List α} {i : Int} {x : α} (h : idx xs i = some x) : atI (xs.map f) i = some (f x) := by
  unfold idx atI at h
  unfold atI
  rw [List.length_map]
  obtain ⟨j, h1, h2⟩ := bind_some h
  rw [h1]
  show (xs.map f)[j]? = some (f x)
  rw [List.getElem?_map, h2]
  rfl
/-- xs[i] = v -/
def setI (xs : List α) (i : Int) (v : α) : Option (List α) := (ixN xs.length i).map fun j => xs.set j v
/-- xs.append(v) -/
def appM (xs : List α) (v : α) : Option (List α) := if xs.length < LN then some (xs ++ [v]) else none
/-- xs + ys -/
def catM (xs ys : List α) : Option (List α) := if xs.length + ys.length ≤ LN then some (xs ++ ys) else none
def catS (x y : Str) : Option Str := if x.length + y.length ≤ LN then some (x ++ y) else none
def mulM (i j : Int) : Option Int := if mulOk i j = true then some (i * j) else none
def divM (i j : Int) : Option Int := if (decide (0 < j) && decide (j < 1073741824)) = true then some (i / j) else none
def modM (i j : Int) : Option Int := if decide (0 < j) = true then some (i % j) else none
/-- range(lo, hi) in a for -/
def rngM (lo hi : Int) : Option (List Int) := if (rngOk lo && rngOk hi) = true then some (rng lo hi) else none
/-- range(lo, hi) in a comprehension -/
def rngC (lo hi : Int) : Option (List Int) := if (rngOk lo && (rngOk hi && rngLn lo hi)) = true then some (rng lo hi) else none
theorem ite_some {p : Prop} [Decidable p] {x y : α} (h : (if p then some x else none) = some y) : p ∧ x = y := by
  by_cases c : p
  · rw [if_pos c] at h
    exact ⟨c, Option.some.inj h⟩
  · rw [if_neg c] at h
    cases h
end

/-! ### more statements -/
section
variable {Tb : Tbs} {X : Cx} {e a b c : Expr} {es : List Expr} {ds ds' : List Slot} {d : Dt} {o : Ob} {pos : Pos} {ys : List Dt} {k : Bool} {P : Po}
/-- x[b] = e, x an own list -/
theorem xs_setIx {x : Str} {i : Nat} {p sp : Pos} {xs : List Dt} {n : Int} {j : Nat} (h : At X x i) (g : ds[i]? = some (.ow (.lst xs))) (he : XP Tb X e ds d) (hb : XP Tb X b ds (.int n)) (hj : ixN xs.length n = some j) (q : P.nx (ds.set i (.ow (.lst (xs.set j d)))))
    (ha : ∀ v, assign (.Subscript (.Name x p) b sp) X.env v = (do
      let ov ← holding [v] (eval (.Name x p) X.env)
      let iv ← holding [v, ov] (eval b X.env)
      standAt sp
      holding [v, ov, iv] (setItem ov iv v)
      release [v, ov, iv] []) := by intro _; rfl)
    (hs : swapsWithSole [.Subscript (.Name x p) b sp] e pos.line X.env = pure false := by rfl) (hw : swappedStores [.Subscript (.Name x p) b sp] e X.env = pure none := by rfl) (h1 : (assignEach [.Subscript (.Name x p) b sp] X.env).map (·.2) = [assign (.Subscript (.Name x p) b sp) X.env] := by rfl) :
    XS Tb X (.Assign [.Subscript (.Name x p) b sp] e pos) ds P := fun B Kf σ Hf H D E kf A => by
  refine ⟨_, ps_asg pe_max (pg_sub h.pe pe_max set_list ha) hs hw h1, ?_⟩
  refine he B σ Hf H E _ fun v Hf1 H1 x1 r1 => ?_
  have E1 := E.ext x1
  obtain ⟨v0, fq, hv0, w, nd, hn, back⟩ := E1.own g
  refine ⟨v0, hv0, ?_⟩
  refine hb B σ Hf1 H1 E1 _ fun iv Hf2 H2 x2 r2 => ?_
  cases r2.int_of
  have E2 := E1.ext x2
  obtain ⟨v', fq', hv', w', nd', hn', back'⟩ := E2.own g
  rw [hv0] at hv'
  cases hv'
  obtain ⟨pp, vs, rfl, rfl, hp, r, ll⟩ := w'
  refine ⟨pp, vs, n, j, rfl, rfl, hp, by rw [r.length]; exact hj, ?_⟩
  refine A.nx _ _ Hf2 _ q (back' _ _ (fun a ha => upd_ne fun z => ha (by rw [z]; exact List.mem_singleton.mpr rfl)) (fun a ha => ?_) ⟨pp, _, rfl, rfl, upd_same, RepL.set j (r1.mono x2.ff) r, by rw [List.length_set]; exact ll⟩) (kf.trans (x1.trans x2).ff)
  cases List.mem_singleton.mp ha
  exact ⟨_, upd_same, rfl⟩
/-! truth of a list, a tuple, a text, a number -/
def truD : Dt → Bool
  | .none => false
  | .bool b => b
  | .int i => i != 0
  | .str s => (s.length : Int) != 0
  | .list xs => !xs.isEmpty
  | .tuple xs => !xs.isEmpty
  | .dict ps => !ps.isEmpty
theorem RepL.isE {K : Frag} {H : Hp} {vs : List V} {ds : List Dt} (r : RepL K H vs ds) : vs.isEmpty = ds.isEmpty := by
  cases r <;> rfl
theorem RepK.isE {K : Frag} {H : Hp} {vs : List (Key × V)} {ds : List (Dt × Dt)} (r : RepK K H vs ds) : vs.isEmpty = ds.isEmpty := by
  cases r <;> rfl
theorem xt_tru {d : Dt} (h : XR Tb X e ds d) (hd : ∀ ps, d ≠ .dict ps) (he : ∀ whole, isTrue e X.env whole = (do let v ← whole; standAt e.pos; holding [v] (truthy v)) := by intro _; rfl) : XT Tb X e ds (truD d) := fun B σ Hf H E Q q => by
  refine ⟨_, pt_truth pe_max he, ?_⟩
  refine h B σ Hf H E _ fun v Hf1 H1 x1 r => ⟨truD d, ?_, q Hf1 H1 x1⟩
  cases r with
  | fz g =>
    cases g with
    | non => exact rfl
    | bl b => exact rfl
    | int i => exact rfl
    | str s l => exact ⟨sz_of l, rfl⟩
    | lst a l b => exact .inl ⟨_, ex_l x1.fh.ex a, by show (!_) = (!_); rw [b.isE]⟩
    | tup a l b => exact .inr (.inl ⟨_, ex_t x1.fh.ex a, by show (!_) = (!_); rw [b.isE]⟩)
    | dK a b => exact absurd rfl (hd _)
    | dT a b => exact absurd rfl (hd _)
  | lst a l b => exact .inl ⟨_, a, by show (!_) = (!_); rw [b.isE]⟩
  | dK a b => exact absurd rfl (hd _)
  | dT a b => exact absurd rfl (hd _)
/-! partial parts of and, or, if -/
theorem xp_andM {rest : List Expr} {k1 v : Bool} {m : Option Bool} (h : XP Tb X a ds (.bool k1)) (g : k1 = true → XM Tb X (.BoolOp .And (b :: rest) pos) ds eB m) (hv : (if k1 = true then m else some false) = some v) : XP Tb X (.BoolOp .And (a :: b :: rest) pos) ds (.bool v) := by
  cases k1 with
  | true =>
    rw [if_pos rfl] at hv
    exact (xp_and h fun z => g z v hv).is rfl
  | false =>
    rw [if_neg Bool.false_ne_true] at hv
    cases hv
    exact (xp_and (k2 := false) h fun z => by cases z).is rfl
theorem xp_orM {rest : List Expr} {k1 v : Bool} {m : Option Bool} (h : XP Tb X a ds (.bool k1)) (g : k1 = false → XM Tb X (.BoolOp .Or (b :: rest) pos) ds eB m) (hv : (if k1 = true then some true else m) = some v) : XP Tb X (.BoolOp .Or (a :: b :: rest) pos) ds (.bool v) := by
  cases k1 with
  | true =>
    rw [if_pos rfl] at hv
    cases hv
    exact (xp_or (k2 := false) h fun z => by cases z).is rfl
  | false =>
    rw [if_neg Bool.false_ne_true] at hv
    exact (xp_or h fun z => g z v hv).is rfl
theorem xw_andM {rest : List Expr} {k1 v : Bool} {m : Option Bool} (h : XT Tb X a ds k1) (g : k1 = true → ∀ x, m = some x → XW Tb X (.BoolOp .And (b :: rest) pos) ds x) (hv : (if k1 = true then m else some false) = some v) : XW Tb X (.BoolOp .And (a :: b :: rest) pos) ds v := by
  cases k1 with
  | true =>
    rw [if_pos rfl] at hv
    exact xw_and h fun z => g z v hv
  | false =>
    rw [if_neg Bool.false_ne_true] at hv
    cases hv
    exact xw_and (k2 := false) h fun z => by cases z
theorem xw_orM {rest : List Expr} {k1 v : Bool} {m : Option Bool} (h : XT Tb X a ds k1) (g : k1 = false → ∀ x, m = some x → XW Tb X (.BoolOp .Or (b :: rest) pos) ds x) (hv : (if k1 = true then some true else m) = some v) : XW Tb X (.BoolOp .Or (a :: b :: rest) pos) ds v := by
  cases k1 with
  | true =>
    rw [if_pos rfl] at hv
    cases hv
    exact xw_or (k2 := false) h fun z => by cases z
  | false =>
    rw [if_neg Bool.false_ne_true] at hv
    exact xw_or h fun z => g z v hv
theorem xp_ifP {α : Type} {en : α → Dt} {x y : α} (h : XT Tb X c ds k) (h1 : k = true → XP Tb X a ds (en x)) (h2 : k = false → XP Tb X b ds (en y)) : XP Tb X (.IfExp c a b pos) ds (en (if k = true then x else y)) := by
  refine xp_if h (fun z => ?_) fun z => ?_
  · rw [if_pos z]
    exact h1 z
  · rw [if_neg (by rw [z]; exact Bool.false_ne_true)]
    exact h2 z
theorem xp_ifM {α : Type} {en : α → Dt} {v : α} {m1 m2 : Option α} (h : XT Tb X c ds k) (h1 : k = true → XM Tb X a ds en m1) (h2 : k = false → XM Tb X b ds en m2) (hv : (if k = true then m1 else m2) = some v) : XP Tb X (.IfExp c a b pos) ds (en v) := by
  refine xp_if h (fun z => ?_) fun z => ?_
  · rw [if_pos z] at hv
    exact h1 z v hv
  · rw [if_neg (by rw [z]; exact Bool.false_ne_true)] at hv
    exact h2 z v hv
end
end Pk

set_option Elab.async false
set_option linter.all false
set_option maxRecDepth 100000
set_option maxHeartbeats 1000000
/-! G9: small rules of the generator. -/
namespace Pk
open PySem PySem.Spec PyProof.Rows L2 GxR

section
variable {Tb : Tbs} {X : Cx} {e a b c tg : Expr} {es : List Expr} {ds ds' : List Slot} {d d1 d2 d3 : Dt} {o : Ob} {pos : Pos} {ys zs : List Dt} {k k1 k2 : Bool}
theorem XO.is {o' : Ob} (h : XO Tb X e ds o) (z : o = o') : XO Tb X e ds o' := z ▸ h
theorem XW.is {k' : Bool} (h : XW Tb X e ds k) (z : k = k') : XW Tb X e ds k' := z ▸ h
theorem OpD.is {f : Value → Value → Sem Value} {d' : Dt} (h : OpD Tb X f d1 d2 d) (z : d = d') : OpD Tb X f d1 d2 d' := z ▸ h
/-- a op b op c as a test -/
theorem xt_chain {op op' : CmpOp} (ho : OpD Tb X (compareOp op) d1 d2 (.bool k1)) (ho' : OpD Tb X (compareOp op') d2 d3 (.bool k2)) (ha : XR Tb X a ds d1) (hb : XR Tb X b ds d2) (hc : k1 = true → XR Tb X c ds d3)
    (hm : lastMarks [op, op'] [b, c] = false := by with_unfolding_all rfl) :
    XT Tb X (.Compare a [op, op'] [b, c] pos) ds (k1 && k2) := fun B σ Hf H E Q q => by
  obtain ⟨r, hr, hv⟩ := ho
  obtain ⟨r', hr', hv'⟩ := ho'
  refine ⟨_, pt_chain hr hr' pe_max pe_max pe_max hm, ?_⟩
  refine ha B σ Hf H E _ fun x Hf1 H1 x1 r1 => ?_
  refine hb B σ Hf1 H1 (E.ext x1) _ fun y Hf2 H2 x2 r2 => ?_
  refine hv x y Hf2 H2 x2.kp (r1.ext x2) r2 _ fun v Hf3 H3 x3 r3 => ⟨k1, r3.bl_of, ?_⟩
  cases k1 with
  | true =>
    rw [if_pos rfl]
    refine hc rfl B σ Hf3 H3 (E.ext ((x1.trans x2).trans x3)) _ fun z Hf4 H4 x4 r4 => ?_
    exact hv' y z Hf4 H4 x4.kp (r2.ext (x3.trans x4)) r4 _ fun v Hf' H' x5 r5 => ⟨k2, r5.bl_of, q Hf' H' ((((x1.trans x2).trans x3).trans x4).trans x5)⟩
  | false =>
    rw [if_neg Bool.false_ne_true]
    exact ⟨false, rfl, q Hf3 H3 ((x1.trans x2).trans x3)⟩
theorem xp_chain' {op op' : CmpOp} (ho : OpD Tb X (compareOp op) d1 d2 (.bool k1)) (ho' : OpD Tb X (compareOp op') d2 d3 (.bool k2)) (ha : XR Tb X a ds d1) (hb : XR Tb X b ds d2) (hc : k1 = true → XR Tb X c ds d3)
    (hm : lastMarks [op, op'] [b, c] = false := by with_unfolding_all rfl) :
    XP Tb X (.Compare a [op, op'] [b, c] pos) ds (.bool (k1 && k2)) := fun B σ Hf H E Q q => by
  obtain ⟨r, hr, hv⟩ := ho
  obtain ⟨r', hr', hv'⟩ := ho'
  refine ⟨_, pe_chain hr hr' pe_max pe_max pe_max hm, ?_⟩
  refine ha B σ Hf H E _ fun x Hf1 H1 x1 r1 => ?_
  refine hb B σ Hf1 H1 (E.ext x1) _ fun y Hf2 H2 x2 r2 => ?_
  refine hv x y Hf2 H2 x2.kp (r1.ext x2) r2 _ fun v Hf3 H3 x3 r3 => ⟨k1, r3.bl_of, ?_⟩
  cases k1 with
  | true =>
    rw [if_pos rfl]
    refine hc rfl B σ Hf3 H3 (E.ext ((x1.trans x2).trans x3)) _ fun z Hf4 H4 x4 r4 => ?_
    exact hv' y z Hf4 H4 x4.kp (r2.ext (x3.trans x4)) r4 _ fun v Hf' H' x5 r5 => q v Hf' H' ((((x1.trans x2).trans x3).trans x4).trans x5) r5
  | false =>
    rw [if_neg Bool.false_ne_true]
    exact q _ Hf3 H3 ((x1.trans x2).trans x3) (.bl _)
theorem mulOk_l {i j : Int} (h : (decide (-(2 ^ 64) < i) && decide (i < 2 ^ 64)) = true) : mulOk i j = true := by
  unfold mulOk
  rw [h]
  rfl
theorem mulOk_r {i j : Int} (h : (decide (-(2 ^ 64) < j) && decide (j < 2 ^ 64)) = true) : mulOk i j = true := by
  unfold mulOk
  rw [h, Bool.or_true]
end

/-! ### + of lists -/
section
variable {α β : Type} {Tb : Tbs} {X : Cx} {e a b c tg : Expr} {es : List Expr} {ds ds' : List Slot} {pos : Pos} {ys zs : List Dt}
theorem cat_len {f g : α → Dt} {xs ys : List α} (h : xs.length + ys.length ≤ LN) : (xs.map f).length + (ys.map g).length ≤ LN := by
  rw [List.length_map, List.length_map]
  exact h
theorem cat_map {f : α → Dt} {xs ys zs : List α} (h : catM xs ys = some zs) : PyData.tuple (xs.map f ++ ys.map f) = eT f zs := by
  rw [← (ite_some h).2]
  unfold eT
  rw [List.map_append]
theorem cat_mapL {f : α → Dt} {xs ys zs : List α} (h : catM xs ys = some zs) : Ob.lst (xs.map f ++ ys.map f) = Ob.lst (zs.map f) := by
  rw [← (ite_some h).2, List.map_append]
theorem fresh_back {Tb : Tbs} {Hf H Hf' H' : Hp} (x : Ext Tb Hf H Hf' H') {p : Addr} (h : H' p = none) : H p = none := by
  cases z : H p with
  | none => rfl
  | some u => exact absurd h (x.li p (by rw [z]; simp))
theorem xo_catL (hl : ys.length + zs.length ≤ LN) (ha : XO Tb X a ds (.lst ys)) (hb : XO Tb X b ds (.lst zs)) : XO Tb X (.BinOp a .Add b pos) ds (.lst (ys ++ zs)) := fun B σ Hf H E Q q => by
  refine ⟨_, pe_op op_cat pe_max pe_max, ?_⟩
  refine ha B σ Hf H E _ fun x Hf1 H1 fp1 x1 w1 nd1 fr1 => ?_
  refine hb B σ Hf1 H1 (E.ext x1) _ fun y Hf2 H2 fp2 x2 w2 nd2 fr2 => ?_
  obtain ⟨p, vs, rfl, rfl, hp, rp, lp⟩ := w1
  obtain ⟨r, ws, rfl, rfl, hr, rr, lr⟩ := w2
  have x12 := x1.trans x2
  refine ⟨p, r, vs, ws, rfl, rfl, x2.hh p _ hp rfl, hr, by rw [rp.length, rr.length]; exact sz_of hl, fun t ht => ?_⟩
  refine q _ Hf2 _ [t] (x12.trans (x2.kp.ow ht)) ⟨t, _, rfl, rfl, upd_same, (rp.mono x2.ff).append rr, by rw [List.length_append]; exact hl⟩ (List.nodup_cons.mpr ⟨by simp, .nil⟩) fun b hb => ?_
  cases List.mem_singleton.mp hb
  exact ⟨fresh_back x12 ht, x2.kp.le.free ht⟩
/-- x + b, x an own list -/
theorem xo_catVL {x : Str} {i : Nat} {p0 : Pos} (hl : ys.length + zs.length ≤ LN) (h : At X x i) (g : ds[i]? = some (.ow (.lst ys))) (hb : XO Tb X b ds (.lst zs)) : XO Tb X (.BinOp (.Name x p0) .Add b pos) ds (.lst (ys ++ zs)) := fun B σ Hf H E Q q => by
  refine ⟨_, pe_op op_cat h.pe pe_max, ?_⟩
  obtain ⟨fp, h1, _⟩ := E.sl
  obtain ⟨v, hv, p, vs, rfl, _, hp, rp, lp⟩ := h1 i _ g
  refine ⟨_, hv, ?_⟩
  refine hb B σ Hf H E _ fun y Hf2 H2 fp2 x2 w2 nd2 fr2 => ?_
  obtain ⟨r, ws, rfl, rfl, hr, rr, lr⟩ := w2
  refine ⟨p, r, vs, ws, rfl, rfl, x2.hh p _ hp rfl, hr, by rw [rp.length, rr.length]; exact sz_of hl, fun t ht => ?_⟩
  refine q _ Hf2 _ [t] (x2.trans (x2.kp.ow ht)) ⟨t, _, rfl, rfl, upd_same, (rp.mono x2.ff).append rr, by rw [List.length_append]; exact hl⟩ (List.nodup_cons.mpr ⟨by simp, .nil⟩) fun b hb => ?_
  cases List.mem_singleton.mp hb
  exact ⟨fresh_back x2 ht, x2.kp.le.free ht⟩
/-! list * n -/
def rep (xs : List α) (n : Int) : List α := (List.replicate n.toNat xs).flatten
def repM (xs : List α) (n : Int) : Option (List α) := if (decide (-(2 ^ 63) ≤ n) && (decide (n < 2 ^ 63) && decide (xs.length * n.toNat ≤ 1000000))) = true then some (rep xs n) else none
theorem rep_len (xs : List α) (n : Int) : (rep xs n).length = xs.length * n.toNat := by
  unfold rep
  rw [List.length_flatten, List.map_replicate, List.sum_replicate_nat, Nat.mul_comm]
theorem rep_mapf (f : α → β) (xs : List α) (n : Int) : rep (xs.map f) n = (rep xs n).map f := by
  unfold rep
  rw [List.map_flatten, List.map_replicate]
theorem rep_ok {f : α → Dt} {xs ys : List α} {n : Int} (h : repM xs n = some ys) : -(2 ^ 63) ≤ n ∧ n < 2 ^ 63 ∧ (xs.map f).length * n.toNat ≤ LN := by
  have := (ite_some h).1
  simp only [Bool.and_eq_true, decide_eq_true_eq] at this
  rw [List.length_map]
  exact this
theorem rep_map {f : α → Dt} {xs ys : List α} {n : Int} (h : repM xs n = some ys) : Ob.lst (rep (xs.map f) n) = Ob.lst (ys.map f) := by
  rw [rep_mapf, (ite_some h).2]
theorem RepL.rep {K : Frag} {H : Hp} {vs : List V} (r : RepL K H vs ys) (n : Int) : RepL K H (rep vs n) (rep ys n) := by
  unfold Pk.rep
  generalize n.toNat = m
  induction m with
  | zero => exact .nil
  | succ m ih =>
    rw [List.replicate_succ, List.replicate_succ, List.flatten_cons, List.flatten_cons]
    exact r.append ih
theorem xo_rep {n : Int} (hn : -(2 ^ 63) ≤ n ∧ n < 2 ^ 63 ∧ ys.length * n.toNat ≤ LN) (ha : XO Tb X a ds (.lst ys)) (hb : XP Tb X b ds (.int n)) : XO Tb X (.BinOp a .Mult b pos) ds (.lst (rep ys n)) := fun B σ Hf H E Q q => by
  refine ⟨_, pe_op op_rep pe_max pe_max, ?_⟩
  refine ha B σ Hf H E _ fun x Hf1 H1 fp1 x1 w1 nd1 fr1 => ?_
  refine hb B σ Hf1 H1 (E.ext x1) _ fun y Hf2 H2 x2 r2 => ?_
  obtain ⟨p, vs, rfl, rfl, hp, rp, lp⟩ := w1
  cases r2.int_of
  have x12 := x1.trans x2
  refine ⟨p, n, vs, rfl, rfl, x2.hh p _ hp rfl, hn.1, hn.2.1, by rw [rp.length]; exact sz_of hn.2.2, fun t ht => ?_⟩
  refine q _ Hf2 _ [t] (x12.trans (x2.kp.ow ht)) ⟨t, _, rfl, rfl, upd_same, (rp.mono x2.ff).rep n, by rw [rep_len]; exact hn.2.2⟩ (List.nodup_cons.mpr ⟨by simp, .nil⟩) fun b hb => ?_
  cases List.mem_singleton.mp hb
  exact ⟨fresh_back x12 ht, x2.kp.le.free ht⟩

/-! ### truth, lengths, slices -/
theorem tru_T {f : α → Dt} (xs : List α) : truD (eT f xs) = !xs.isEmpty := by cases xs <;> rfl
theorem tru_L {f : α → Dt} (xs : List α) : truD (.list (xs.map f)) = !xs.isEmpty := by cases xs <;> rfl
theorem tru_O {f : α → Dt} (h : ∀ x, truD (f x) = true) (x : Option α) : truD (eO f x) = x.isSome := by
  cases x with
  | none => rfl
  | some x => exact h x
theorem nod_O {f : α → Dt} (h : ∀ x ps, f x ≠ .dict ps) (x : Option α) (ps : List (Dt × Dt)) : eO f x ≠ .dict ps := by
  cases x with
  | none => exact fun z => nomatch z
  | some x => exact h x ps
theorem len_map (f : α → Dt) (xs : List α) : PyData.int ((xs.map f).length : Int) = eI (xs.length : Int) := by
  rw [List.length_map]
  rfl
theorem cutT_map (f : α → Dt) (xs : List α) (lo hi : Option Int) : PyData.tuple (cut (xs.map f) lo hi) = eT f (cut xs lo hi) := by
  rw [cut_map]
  rfl
theorem cutL_map (f : α → Dt) (xs : List α) (lo hi : Option Int) : Ob.lst (cut (xs.map f) lo hi) = Ob.lst ((cut xs lo hi).map f) := by
  rw [cut_map]
def absI (i : Int) : Int := if i < 0 then -i else i
theorem RepL.rev {K : Frag} {H : Hp} : ∀ {vs : List V} {ys : List Dt}, RepL K H vs ys → RepL K H vs.reverse ys.reverse
  | _, _, .nil => .nil
  | _, _, .cons a b => by
    rw [List.reverse_cons, List.reverse_cons]
    exact (RepL.rev b).append (.one a)
theorem xo_revL {kk : Nat} {p1 p2 p3 : Pos} (h : XR Tb X e ds (.list ys)) : XO Tb X (.Subscript e (.Slice none none (some (.UnaryOp .USub (.Constant (.int 1) kk p1) p2)) p3) pos) ds (.lst ys.reverse) := fun B σ Hf H E Q q => by
  refine ⟨_, pe_revL pe_max, ?_⟩
  refine h B σ Hf H E _ fun v Hf1 H1 x1 r => ?_
  have ll := r.lst_len
  obtain ⟨a, vs, rfl, ha, rr⟩ := r.lst_of x1.fh
  refine ⟨a, vs, rfl, ha, fun t ht => ?_⟩
  refine q _ Hf1 _ [t] (x1.trans (x1.kp.ow ht)) ⟨t, _, rfl, rfl, upd_same, ?_, by rw [List.length_reverse]; exact ll⟩ (List.nodup_cons.mpr ⟨by simp, .nil⟩) fun b hb => ?_
  · exact RepL.rev rr
  · cases List.mem_singleton.mp hb
    exact ⟨fresh_back x1 ht, x1.kp.le.free ht⟩
theorem revL_map (f : α → Dt) (xs : List α) : Ob.lst (xs.map f).reverse = Ob.lst (xs.reverse.map f) := by rw [List.map_reverse]
/-- z[i] -/
def idxS (z : Str) (i : Int) : Option Str := (atI z.cps.toList i).map fun n => ⟨#[n]⟩
theorem xp_ixS_ {i : Int} {z v : Str} (ha : XR Tb X a ds (.str z)) (hb : XP Tb X b ds (.int i)) (hi : idxS z i = some v) (hs : PlainIx b := by exact fun _ _ => rfl) : XP Tb X (.Subscript a b pos) ds (.str v) := by
  unfold idxS at hi
  cases h : atI z.cps.toList i with
  | none => rw [h] at hi; cases hi
  | some n =>
    rw [h] at hi
    cases hi
    exact xp_ixS ha hb h hs

/-! ### range -/
theorem xi_rng1_m {p : Pos} {n : Int} {v : List Int} (hr : Bn X "range" (.type "range")) (h : XA Tb X [a] ds [.int n]) (hv : rngM 0 n = some v) (hs : starEach [a] X.env = [(false, eval a X.env)] := by rfl) :
    XI Tb X tg (.Call (.Name "range" p) [a] [] pos) ds (v.map eI) (rngLn 0 n) := by
  obtain ⟨h1, h2⟩ := ite_some hv
  simp only [Bool.and_eq_true] at h1
  rw [← h2]
  exact xi_rng1 hr.g hr.m h h1.2 hs
theorem XI.tr {b b' : Bool} (h : XI Tb X tg e ds ys b) (z : b = b') : XI Tb X tg e ds ys b' := z ▸ h
theorem xi_rng1_c {p : Pos} {n : Int} {v : List Int} (hr : Bn X "range" (.type "range")) (h : XA Tb X [a] ds [.int n]) (hv : rngC 0 n = some v) (hs : starEach [a] X.env = [(false, eval a X.env)] := by rfl) :
    XI Tb X tg (.Call (.Name "range" p) [a] [] pos) ds (v.map eI) true := by
  obtain ⟨h1, h2⟩ := ite_some hv
  simp only [Bool.and_eq_true] at h1
  rw [← h2]
  exact (xi_rng1 hr.g hr.m h h1.2.1 hs).tr h1.2.2
theorem xi_rng2_m {p : Pos} {m n : Int} {v : List Int} (hr : Bn X "range" (.type "range")) (h : XA Tb X [a, b] ds [.int m, .int n]) (hv : rngM m n = some v) (hs : starEach [a, b] X.env = [(false, eval a X.env), (false, eval b X.env)] := by rfl) (hs2 : starEach [b] X.env = [(false, eval b X.env)] := by rfl) :
    XI Tb X tg (.Call (.Name "range" p) [a, b] [] pos) ds (v.map eI) (rngLn m n) := by
  obtain ⟨h1, h2⟩ := ite_some hv
  simp only [Bool.and_eq_true] at h1
  rw [← h2]
  exact xi_rng2 hr.g hr.m h h1.1 h1.2 hs hs2
theorem xi_rng2_c {p : Pos} {m n : Int} {v : List Int} (hr : Bn X "range" (.type "range")) (h : XA Tb X [a, b] ds [.int m, .int n]) (hv : rngC m n = some v) (hs : starEach [a, b] X.env = [(false, eval a X.env), (false, eval b X.env)] := by rfl) (hs2 : starEach [b] X.env = [(false, eval b X.env)] := by rfl) :
    XI Tb X tg (.Call (.Name "range" p) [a, b] [] pos) ds (v.map eI) true := by
  obtain ⟨h1, h2⟩ := ite_some hv
  simp only [Bool.and_eq_true] at h1
  rw [← h2]
  exact (xi_rng2 hr.g hr.m h h1.1 h1.2.1 hs hs2).tr h1.2.2
/-- range(literal, literal) and the like -/
theorem xi_rng1_k {p : Pos} {n : Int} (hr : Bn X "range" (.type "range")) (h : XA Tb X [a] ds [.int n]) (hn : (rngOk n && rngLn 0 n) = true) (hs : starEach [a] X.env = [(false, eval a X.env)] := by rfl) :
    XI Tb X tg (.Call (.Name "range" p) [a] [] pos) ds ((rng 0 n).map eI) true := by
  simp only [Bool.and_eq_true] at hn
  exact (xi_rng1 hr.g hr.m h hn.1 hs).tr hn.2
theorem xi_rng2_k {p : Pos} {m n : Int} (hr : Bn X "range" (.type "range")) (h : XA Tb X [a, b] ds [.int m, .int n]) (hn : (rngOk m && (rngOk n && rngLn m n)) = true) (hs : starEach [a, b] X.env = [(false, eval a X.env), (false, eval b X.env)] := by rfl) (hs2 : starEach [b] X.env = [(false, eval b X.env)] := by rfl) :
    XI Tb X tg (.Call (.Name "range" p) [a, b] [] pos) ds ((rng m n).map eI) true := by
  simp only [Bool.and_eq_true] at hn
  exact (xi_rng2 hr.g hr.m h hn.1 hn.2.1 hs hs2).tr hn.2.2
theorem rngl_map (f : α → Dt) (xs : List α) : (rng 0 ((xs.map f).length : Int)).map PyData.int = (rng 0 (xs.length : Int)).map eI := by
  rw [List.length_map]
  rfl
theorem xi_rngT {p p2 pos2 : Pos} (hr : Bn X "range" (.type "range")) (hl : Bn X "len" (.builtin "len")) (h : XR Tb X e ds (.tuple ys))
    (he : starEach [e] X.env = (false, eval e X.env) :: starEach [] X.env := by rfl) (hpl : (backTo pos2 (starEach [] X.env)).any (·.1) = false := by rfl) (hs : starEach [.Call (.Name "len" p2) [e] [] pos2] X.env = [(false, eval (.Call (.Name "len" p2) [e] [] pos2) X.env)] := by rfl) :
    XI Tb X tg (.Call (.Name "range" p) [.Call (.Name "len" p2) [e] [] pos2] [] pos) ds ((rng 0 (ys.length : Int)).map .int) true := by
  refine xi_rngL (p2 := p2) (pos2 := pos2) hr.g hr.m (fun B σ Hf H E Q q => ?_) hs
  refine ⟨_, pe_callB call_len_seq hl.g hl.m hl.v (pa_cons pe_max pa_nil he) hl.n hl.d he hpl, ?_⟩
  refine h B σ Hf H E _ fun v Hf1 H1 x1 r => ?_
  have ll := r.tup_len
  obtain ⟨a, ws, rfl, ha, rr⟩ := r.tup_of x1.fh
  refine ⟨a, ws, rfl, .inr ha, ?_⟩
  rw [rr.length]
  exact q Hf1 H1 x1 ll
theorem xi_rngLs {p p2 pos2 : Pos} (hr : Bn X "range" (.type "range")) (hl : Bn X "len" (.builtin "len")) (h : XR Tb X e ds (.list ys))
    (he : starEach [e] X.env = (false, eval e X.env) :: starEach [] X.env := by rfl) (hpl : (backTo pos2 (starEach [] X.env)).any (·.1) = false := by rfl) (hs : starEach [.Call (.Name "len" p2) [e] [] pos2] X.env = [(false, eval (.Call (.Name "len" p2) [e] [] pos2) X.env)] := by rfl) :
    XI Tb X tg (.Call (.Name "range" p) [.Call (.Name "len" p2) [e] [] pos2] [] pos) ds ((rng 0 (ys.length : Int)).map .int) true := by
  refine xi_rngL (p2 := p2) (pos2 := pos2) hr.g hr.m (fun B σ Hf H E Q q => ?_) hs
  refine ⟨_, pe_callB call_len_seq hl.g hl.m hl.v (pa_cons pe_max pa_nil he) hl.n hl.d he hpl, ?_⟩
  refine h B σ Hf H E _ fun v Hf1 H1 x1 r => ?_
  have ll := r.lst_len
  obtain ⟨a, ws, rfl, ha, rr⟩ := r.lst_of x1.fh
  refine ⟨a, ws, rfl, .inl ha, ?_⟩
  rw [rr.length]
  exact q Hf1 H1 x1 ll
theorem xi_rngS {p p2 pos2 : Pos} {z : Str} (hr : Bn X "range" (.type "range")) (hl : Bn X "len" (.builtin "len")) (h : XR Tb X e ds (.str z))
    (he : starEach [e] X.env = (false, eval e X.env) :: starEach [] X.env := by rfl) (hpl : (backTo pos2 (starEach [] X.env)).any (·.1) = false := by rfl) (hs : starEach [.Call (.Name "len" p2) [e] [] pos2] X.env = [(false, eval (.Call (.Name "len" p2) [e] [] pos2) X.env)] := by rfl) :
    XI Tb X tg (.Call (.Name "range" p) [.Call (.Name "len" p2) [e] [] pos2] [] pos) ds ((rng 0 (z.length : Int)).map eI) true := by
  refine xi_rngL (p2 := p2) (pos2 := pos2) hr.g hr.m (fun B σ Hf H E Q q => ?_) hs
  refine ⟨_, pe_callB call_len_str hl.g hl.m hl.v (pa_cons pe_max pa_nil he) hl.n hl.d he hpl, ?_⟩
  refine h B σ Hf H E _ fun v Hf1 H1 x1 r => ?_
  have ll := r.str_len
  cases r.str_of
  exact ⟨z, rfl, sz_of ll, q Hf1 H1 x1 ll⟩
/-! the signs of a text -/
def signs (z : Str) : List Str := z.cps.toList.map fun n => ⟨#[n]⟩
theorem xi_str_ {z : Str} (h : XP Tb X e ds (.str z)) : XI Tb X tg e ds ((signs z).map eS) true := fun B σ Hf H E R q => by
  refine ⟨_, pi_str pe_max, ?_⟩
  refine h B σ Hf H E _ fun v Hf1 H1 x1 r => ?_
  have hl := r.str_len
  cases r.str_of
  have hz : z.cps.size ≤ LN := hl
  have hsz : ((signs z).map eS).length = z.cps.size := by
    unfold signs
    rw [List.length_map, List.length_map, Array.length_toList]
  refine ⟨z, rfl, q _ Hf1 H1 x1 ⟨fun i y Hf H hy ef kp => ?_, fun i Hf H hi ef kp => ?_⟩ fun _ => by rw [hsz]; exact hz⟩
  · unfold signs at hy
    rw [List.map_map, List.getElem?_map, Array.getElem?_toList] at hy
    cases hc : z.cps[i]? with
    | none => rw [hc] at hy; cases hy
    | some c =>
      rw [hc] at hy
      cases hy
      refine ⟨(Array.getElem?_eq_some_iff.mp hc).1, fun x H' z' => ⟨Hf, ?_⟩⟩
      obtain ⟨rfl, c', hc', rfl⟩ := z'
      rw [hc] at hc'
      cases hc'
      exact ⟨kp.refl, .str _ (by show 1 ≤ LN; decide)⟩
  · rw [hsz] at hi
    exact hi

/-! ### comprehensions -/
theorem compM_all' {f : α → β} {xs : List α} : compM (fun _ => some true) (fun x => some (f x)) xs = some (xs.map f) := compM_all f xs
theorem compM_tot' {p : α → Bool} {f : α → β} {xs : List α} : compM (fun x => some (p x)) (fun x => some (f x)) xs = some ((xs.filter p).map f) := compM_tot p f xs
theorem compM_id {xs : List α} : compM (fun _ => some true) (fun x => some x) xs = some xs := by
  have := compM_all (fun x : α => x) xs
  rw [List.map_id'] at this
  exact this
theorem compM_fil {p : α → Bool} {xs : List α} : compM (fun x => some (p x)) (fun x => some x) xs = some (xs.filter p) := by
  have := compM_tot p (fun x : α => x) xs
  rw [List.map_id'] at this
  exact this
end

/-! ### statements -/
section
variable {O α S R : Type} {Tb : Tbs} {X : Cx} {e a b c tg : Expr} {st : Stmt} {sts rest body : List Stmt} {ds ds' : List Slot} {d : Dt} {o : Ob} {pos : Pos} {J : O → Po} {m : Option O} {P : Po}
theorem set_ix {f : α → Dt} {x : Str} {i : Nat} {p sp : Pos} {xs w : List α} {n : Int} {v : α} (hw : setI xs n v = some w) (h : At X x i) (he : XP Tb X e ds (f v)) (hb : XP Tb X b ds (.int n)) (g : ds[i]? = some (.ow (.lst (xs.map f)))) (q : P.nx (ds.set i (.ow (.lst (w.map f)))))
    (ha : ∀ v, assign (.Subscript (.Name x p) b sp) X.env v = (do
      let ov ← holding [v] (eval (.Name x p) X.env)
      let iv ← holding [v, ov] (eval b X.env)
      standAt sp
      holding [v, ov, iv] (setItem ov iv v)
      release [v, ov, iv] []) := by intro _; rfl)
    (hs : swapsWithSole [.Subscript (.Name x p) b sp] e pos.line X.env = pure false := by rfl) (hw' : swappedStores [.Subscript (.Name x p) b sp] e X.env = pure none := by rfl) (h1 : (assignEach [.Subscript (.Name x p) b sp] X.env).map (·.2) = [assign (.Subscript (.Name x p) b sp) X.env] := by rfl) :
    XS Tb X (.Assign [.Subscript (.Name x p) b sp] e pos) ds P := by
  unfold setI at hw
  cases hj : ixN xs.length n with
  | none => rw [hj] at hw; cases hw
  | some j =>
    rw [hj] at hw
    cases hw
    refine xs_setIx (j := j) h g he hb (by rw [List.length_map]; exact hj) ?_ ha hs hw' h1
    rw [← List.map_set]
    exact q
theorem app_st {f : α → Dt} {x : Str} {i : Nat} {p ap cp : Pos} {xs w : List α} {v : α} (hw : appM xs v = some w) (h : At X x i) (g : ds[i]? = some (.ow (.lst (xs.map f)))) (he : XP Tb X e ds (f v)) (q : P.nx (ds.set i (.ow (.lst (w.map f))))) (hline : (ap.endLine == cp.line) = true := by rfl)
    (hs : starEach [e] X.env = [(false, eval e X.env)] := by rfl) (hsw : swapsWith (.Call (.Attribute (.Name x p) "append" ap) [e] [] cp) none pos.line X.env = pure false := by rfl) (hb : attributeBase (.Name x p) "append" X.env (eval (.Name x p) X.env) = eval (.Name x p) X.env := by rfl) :
    XS Tb X (.Expr (.Call (.Attribute (.Name x p) "append" ap) [e] [] cp) pos) ds P := by
  obtain ⟨h1, rfl⟩ := ite_some hw
  refine xs_app h g he (by rw [List.length_map]; exact h1) ?_ hline hs hsw hb
  rw [List.map_append] at q
  exact q
theorem xs_augI_ {x : Str} {i : Nat} {p' : Pos} {op : Operator} {f : Int → Int → Int} {m n w : Int} (t : Tg X x i) (g : ds[i]? = some (.fz (eI m))) (h : XP Tb X e ds (.int n)) (ho : PIp X op (ipI f)) (hw : f m n = w) (q : P.nx (ds.set i (.fz (eI w)))) :
    XS Tb X (.AugAssign (.Name x p') op e pos) ds P := by
  subst hw
  exact xs_augI t g h ho q
/-- a turn of a loop that is never left -/
def JM (slots : S → List Slot) : S → Po := fun s => ⟨fun ds => Sub ds (slots s), noP, noP, fun ds => Sub ds (slots s)⟩
theorem bm_map {slots : S → List Slot} {rt : R → Ro → Prop} {m : Option S} (h : BM Tb X body ds (JM slots) m) : BM Tb X body ds (JL slots rt) (m.map .nx) := fun o q => by
  cases m with
  | none => cases q
  | some s =>
    cases q
    exact h s rfl
theorem bm_endM {slots : S → List Slot} {s : S} (z : Sub ds (slots s)) : BM Tb X [] ds (JM slots) (some s) := fun o q => by
  cases q
  exact xb_nil z
theorem bm_contM {slots : S → List Slot} {s : S} (z : Sub ds (slots s)) : BM Tb X (.Continue pos :: rest) ds (JM slots) (some s) := fun o q => by
  cases q
  exact xb_cons (xs_continue z)
theorem bm_contL {slots : S → List Slot} {rt : R → Ro → Prop} {s : S} (z : Sub ds (slots s)) : BM Tb X (.Continue pos :: rest) ds (JL slots rt) (some (.nx s)) := fun o q => by
  cases q
  exact xb_cons (xs_continue z)
theorem bm_brkL {slots : S → List Slot} {rt : R → Ro → Prop} {s : S} (z : Sub ds (slots s)) : BM Tb X (.Break pos :: rest) ds (JL slots rt) (some (.bk s)) := fun o q => by
  cases q
  exact xb_cons (xs_break z)
end

/-! ### orders -/
section
variable {α β γ δ : Type}
theorem ltP2_irr [DecidableEq α] {l1 : α → α → Bool} {l2 : β → β → Bool} (h : ∀ x, l2 x x = false) (p : α × β) : ltP2 l1 l2 p p = false := by
  unfold ltP2
  rw [if_pos rfl]
  exact h _
theorem ltP3_irr [DecidableEq α] [DecidableEq β] {l1 : α → α → Bool} {l2 : β → β → Bool} {l3 : γ → γ → Bool} (h : ∀ x, l3 x x = false) (p : α × β × γ) : ltP3 l1 l2 l3 p p = false := by
  unfold ltP3
  rw [if_pos rfl, if_pos rfl]
  exact h _
theorem ltP4_irr [DecidableEq α] [DecidableEq β] [DecidableEq γ] {l1 : α → α → Bool} {l2 : β → β → Bool} {l3 : γ → γ → Bool} {l4 : δ → δ → Bool} (h : ∀ x, l4 x x = false) (p : α × β × γ × δ) : ltP4 l1 l2 l3 l4 p p = false := by
  unfold ltP4
  rw [if_pos rfl, if_pos rfl, if_pos rfl]
  exact h _
theorem ltP4_ [DecidableEq α] [DecidableEq β] [DecidableEq γ] [DecidableEq δ] {f : α → Dt} {g : β → Dt} {k : γ → Dt} {j : δ → Dt} {l1 : α → α → Bool} {l2 : β → β → Bool} {l3 : γ → γ → Bool} {l4 : δ → δ → Bool} (h1 : Lt f l1) (h2 : Lt g l2) (h3 : Lt k l3) (h4 : Lt j l4) (e1 : Eqv f) (e2 : Eqv g) (e3 : Eqv k) (e4 : Eqv j) (k1 : Lk f) (k2 : Lk g) (k3 : Lk k) (k4 : Lk j) (i4 : ∀ x, l4 x x = false) :
    Lt (eP4 f g k j) (ltP4 l1 l2 l3 l4) := fun p q => by
  unfold eP4 ltP4
  rw [lex_cons (k1 _ _), lex_cons (k2 _ _), lex_cons (k3 _ _), lex_cons (k4 _ _), lex_nil, e1, e2, e3, e4, h1, h2, h3, h4]
  by_cases a : p.1 = q.1
  · rw [decide_eq_true a, if_pos rfl, if_pos a]
    by_cases b : p.2.1 = q.2.1
    · rw [decide_eq_true b, if_pos rfl, if_pos b]
      by_cases c : p.2.2.1 = q.2.2.1
      · rw [decide_eq_true c, if_pos rfl, if_pos c]
        by_cases d : p.2.2.2 = q.2.2.2
        · rw [decide_eq_true d, if_pos rfl, d, i4]
        · rw [decide_eq_false d, if_neg Bool.false_ne_true]
      · rw [decide_eq_false c, if_neg Bool.false_ne_true, if_neg c]
    · rw [decide_eq_false b, if_neg Bool.false_ne_true, if_neg b]
  · rw [decide_eq_false a, if_neg Bool.false_ne_true, if_neg a]
theorem ltS_irr (x : Str) : ltS x x = false := decide_eq_false (List.lt_irrefl _)
theorem ltT_irr [DecidableEq α] {l : α → α → Bool} (h : ∀ x, l x x = false) : ∀ xs : List α, ltT l xs xs = false
  | [] => rfl
  | x :: xs => by
    unfold ltT
    rw [if_pos rfl]
    exact ltT_irr h xs
theorem ltT_ [DecidableEq α] {f : α → Dt} {l : α → α → Bool} (h : Lt f l) (e : Eqv f) (k : Lk f) : Lt (eT f) (ltT l) := fun xs => by
  induction xs with
  | nil =>
    intro ys
    cases ys with
    | nil => exact lex_nil
    | cons y ys =>
      show PySem.W.dataLt (.tuple []) (.tuple (f y :: ys.map f)) = true
      rw [dataLt_tup]
      have : (PySem.W.keyToksAll (f y :: ys.map f)) ≠ [] := by
        simp [PySem.W.keyToksAll]
      rfl
  | cons x xs ih =>
    intro ys
    cases ys with
    | nil =>
      show PySem.W.dataLt (.tuple (f x :: xs.map f)) (.tuple []) = false
      rw [dataLt_tup]
      rfl
    | cons y ys =>
      have ih' := ih ys
      unfold eT at ih' ⊢
      rw [List.map_cons, List.map_cons, lex_cons (k _ _), e, ih', h]
      show _ = (if x = y then ltT l xs ys else l x y)
      by_cases a : x = y
      · rw [decide_eq_true a, if_pos rfl, if_pos a]
      · rw [decide_eq_false a, if_neg Bool.false_ne_true, if_neg a]
def ltB (x y : Bool) : Bool := !x && y
end
end Pk

set_option Elab.async false
set_option linter.all false
set_option maxRecDepth 100000
set_option maxHeartbeats 1000000
/-! GS: sorted(set(a list of numbers)). -/
namespace Pk
open PySem PySem.Spec PyProof.Rows L2 GxR
section
variable {P : Program} {w : World} {A : Around} {E : Value → Shared → Prop} {s : Shared}
set_option maxHeartbeats 3200000 in
/-- set(a list of numbers), as the kit shows it of a tuple -/
theorem set_listI {l : Addr} {items : Array Value} (ns : List Int) {Q : Value → Shared → Prop} (hh : A.handled = none) (hl : s.heap.IsList l items) (hit : IntsAre items.toList ns) (hb : ns.length + 1 < scanBound)
    (h : ∀ (h' : Heap) (tk c : Nat), SetR w h' s.heap.objs.size (fun j => decide (j ∈ ns)) c → c ≤ ns.length → (∀ b o, s.heap.get? b = some o → h'.get? b = some o) → Q (.ref s.heap.objs.size) { s with heap := h', toks := tk }) :
    wpAny (model P w) A (call (.type "set") [.ref l]) Q E s := by
  have hisz : items.size = ns.length := by
    have q := IntsAre.length hit
    rw [Array.length_toList] at q
    exact q
  obtain ⟨c, tl, hmro⟩ := F.called_set.mro
  have hmade := F.called_set.made
  have hsub := F.called_set.sub
  refine wpAny_call (codeAny_of_tree ?_)
  show wpAny _ _ (callAny (.type "set") _) _ _ _
  refine wpAny_pure ⟨Code.quiet_builtin _ (by decide +kernel), codeAny_builtin F.entry_type_call ?_⟩
  rw [Around.under_plain (weight_type_call_type "set" [.ref l] []) rfl]
  have h1 := F.called_set.notType
  have h2 := F.called_set.canCreate
  have hct := F.typeCall_set_1 (.ref l)
  repeat (any_goals (first | assumption | wp_step))
  refine codeAny_mono (code_set_led1 (.ref l) (E := E) (Q₁ := fun obj s₁ => obj = .ref s.heap.objs.size ∧ s₁ = { s with heap := s.heap.push { cls := .type "set", dict := none, data := .set #[] 0 (.fresh 0 0 (!w.params.followText "set-order")) } }) ⟨rfl, rfl⟩) fun r s₁ hr => ?_
  cases r with
  | error e => exact hr
  | ok fl =>
    cases fl with
    | ret obj =>
      obtain ⟨rfl, rfl⟩ := hr
      have hS : (s.heap.push { cls := .type "set", dict := none, data := .set #[] 0 (.fresh 0 0 (!w.params.followText "set-order")) }).get? s.heap.objs.size = some { cls := .type "set", dict := none, data := .set #[] 0 (.fresh 0 0 (!w.params.followText "set-order")) } := Heap.get?_push_size _ rfl
      have hT : Shared.TypeIs { s with heap := s.heap.push { cls := .type "set", dict := none, data := .set #[] 0 (.fresh 0 0 (!w.params.followText "set-order")) } } (.ref s.heap.objs.size) "set" := ⟨_, hS, rfl⟩
      have hli := F.called_set.init.lookup
      have hbi := F.called_set.init.bind (.ref s.heap.objs.size)
      repeat (any_goals (first | assumption | wp_step))
      refine codeAny_mono (codeAny_call_builtin (R := wants (fun r s₂ => r = .none ∧ ∃ h' tk c, s₂ = { s with heap := h', toks := tk } ∧ SetR w h' s.heap.objs.size (fun j => decide (j ∈ ns)) c ∧ c ≤ ns.length ∧
          (∀ b o, s.heap.get? b = some o → h'.get? b = some o)) E) F.called_set.init.plain F.entry_set_init (check_set_init_1 hT ?_)) fun r₂ s₂ hr₂ => ?_
      · obtain ⟨ol, hol, hcl, nl, hdl⟩ := hl
        obtain ⟨ocls, odict, odata, oslots⟩ := ol
        simp only at hcl hdl
        subst hcl
        subst hdl
        have hol' : (s.heap.push { cls := .type "set", dict := none, data := .set #[] 0 (.fresh 0 0 (!w.params.followText "set-order")) }).get? l = some { cls := .type "list", dict := odict, data := .seq items nl, slots := oslots } := Heap.get?_push_of_some _ hol
        have hsls := F.sub_list_set
        have hslf := F.sub_list_frozenset
        have hne : (Value.type "list" == Value.type "dict") = false := by decide
        have hl1 : (s.heap.push { cls := .type "set", dict := none, data := .set #[] 0 (.fresh 0 0 (!w.params.followText "set-order")) }).IsList l items := ⟨_, hol', rfl, nl, rfl⟩
        unfold Builtin.«set.__init__» noKeywords Builtin.Frozenset.updateFrom
        generalize hPI : pyIter = PI
        wp_walk
        subst hPI
        refine wpAny_pyIter_list hl1 ?_
        refine wpAny_bind (wpAny_runValue ?_)
        have hlS : l < s.heap.objs.size := Heap.lt_size hol
        have hh3 : A.in1.in1.in1.handled = none := by simp [hh]
        have hneI : l ≠ (s.heap.push { cls := .type "set", dict := none, data := .set #[] 0 (.fresh 0 0 (!w.params.followText "set-order")) }).objs.size := by
          rw [Heap.size_push]
          exact Nat.ne_of_lt (Nat.lt_succ_of_lt hlS)
        have hSf : s.heap.objs.size ∉ [(s.heap.push { cls := .type "set", dict := none, data := .set #[] 0 (.fresh 0 0 (!w.params.followText "set-order")) }).objs.size, l] := by
          rw [Heap.size_push]
          simp only [List.mem_cons, List.mem_singleton, List.not_mem_nil, or_false, not_or]
          exact ⟨Nat.ne_of_lt (Nat.lt_succ_self _), Nat.ne_of_gt hlS⟩
        have hval : ∀ (i : Nat) (v : Value), items[i]? = some v → ∃ k t, ns[i]? = some k ∧ v = .int k t := fun i v hv => by
          have hi : i < ns.length := by
            rw [← hisz]
            exact (Array.getElem?_eq_some_iff.mp hv).1
          obtain ⟨t, e⟩ := PyProof.Rows.IntsAre.int_at hit i v (by rw [Array.getElem?_toList]; exact hv)
          refine ⟨ns[i], t, List.getElem?_eq_getElem hi, ?_⟩
          rw [e, List.getD_eq_getElem?_getD, List.getElem?_eq_getElem hi] <;> rfl
        refine set_update_ints ((Walks.list hh3 _ l hneI items).toS) s.heap.objs.size
          hSf ns hisz hb hval (items.size - 0) 0 _ (by omega) (Nat.zero_le _)
          ⟨⟨_, Heap.get?_push_size _ rfl, rfl, rfl⟩, (hl1.push _)⟩ ?hS0 ?hR
        case hS0 => exact ⟨0, Nat.le_refl 0, setR_new_at (Heap.get?_push_of_some _ hS)⟩
        case hR =>
          intro s' c' hm hc' hS'
          obtain ⟨h', g2, d', tk', os'⟩ := s'
          have eg : g2 = s.gens := hm.gens
          have ed : d' = s.drawn := hm.drawn
          have eo : os' = s.os := hm.os
          subst eg
          subst ed
          subst eo
          show wpAny _ _ _ _ _ _
          refine wpAny_pure ?_
          show wpAny _ _ (ret Value.none) _ _ _
          rw [hisz] at hc'
          refine wpAny_pure ⟨rfl, h', tk', c', rfl, hS', hc', fun b o e => ?_⟩
          have hb0 : b < s.heap.objs.size := Heap.lt_size e
          have hb2 : b ≠ (s.heap.push { cls := .type "set", dict := none, data := .set #[] 0 (.fresh 0 0 (!w.params.followText "set-order")) }).objs.size := by
            rw [Heap.size_push]
            exact Nat.ne_of_lt (Nat.lt_succ_of_lt hb0)
          exact hm.heap b o (by simp only [List.mem_cons, List.mem_singleton, List.not_mem_nil, or_false, not_or]; exact ⟨Nat.ne_of_lt hb0, hb2⟩) (Heap.get?_push_of_some _ (Heap.get?_push_of_some _ e))
      · cases r₂ with
        | error e => exact hr₂
        | ok fl₂ =>
          cases fl₂ with
          | ret r =>
            obtain ⟨rfl, h', tk, c', rfl, hS', hc', hk'⟩ := hr₂
            repeat (any_goals (first | assumption | wp_step))
            exact h _ _ _ hS' hc' hk'
          | _ => exact hr₂.elim
    | _ => exact hr.elim
end
end Pk

set_option Elab.async false
set_option linter.all false
set_option maxRecDepth 100000
set_option maxHeartbeats 1000000
/-! GT: sorted(set(..)) as an expression. -/
namespace Pk
open PySem PySem.Spec PyProof.Rows L2 GxR
theorem RepL.ints {K : Frag} {H : Hp} : ∀ ns : List Int, RepL K H (ns.map V.int) (ns.map eI)
  | [] => .nil
  | n :: ns => .cons (.int n) (RepL.ints ns)
/-- into a rising list, once -/
def ins (k : Int) : List Int → List Int
  | [] => [k]
  | x :: r => if k < x then k :: x :: r else if k = x then x :: r else x :: ins k r
def sortU (ns : List Int) : List Int := ns.foldr ins []
theorem ins_mem (k : Int) : ∀ (r : List Int) (j : Int), j ∈ ins k r ↔ j = k ∨ j ∈ r
  | [], j => by simp [ins]
  | x :: r, j => by
    unfold ins
    split
    · simp
    · split
      · rename_i h
        subst h
        simp
      · rw [List.mem_cons, ins_mem k r j, List.mem_cons]
        constructor
        · rintro (h | h | h)
          · exact .inr (.inl h)
          · exact .inl h
          · exact .inr (.inr h)
        · rintro (h | h | h)
          · exact .inr (.inl h)
          · exact .inl h
          · exact .inr (.inr h)
theorem ins_rise (k : Int) : ∀ (r : List Int), r.Pairwise (· < ·) → (ins k r).Pairwise (· < ·)
  | [], _ => List.pairwise_cons.mpr ⟨by simp, .nil⟩
  | x :: r, h => by
    obtain ⟨h1, h2⟩ := List.pairwise_cons.mp h
    unfold ins
    split
    · rename_i hk
      refine List.pairwise_cons.mpr ⟨fun y hy => ?_, h⟩
      rcases List.mem_cons.mp hy with rfl | hy
      · exact hk
      · exact Int.lt_trans hk (h1 y hy)
    · split
      · exact h
      · rename_i hk1 hk2
        refine List.pairwise_cons.mpr ⟨fun y hy => ?_, ins_rise k r h2⟩
        rcases (ins_mem k r y).mp hy with rfl | hy
        · omega
        · exact h1 y hy
theorem sortU_mem : ∀ (ns : List Int) (j : Int), j ∈ sortU ns ↔ j ∈ ns
  | [], j => by simp [sortU]
  | x :: r, j => by
    show j ∈ ins x (sortU r) ↔ _
    rw [ins_mem, sortU_mem r j, List.mem_cons]
theorem sortU_rise : ∀ (ns : List Int), (sortU ns).Pairwise (· < ·)
  | [] => .nil
  | x :: r => ins_rise x _ (sortU_rise r)
theorem rise_eq : ∀ {a b : List Int}, a.Pairwise (· < ·) → b.Pairwise (· < ·) → (∀ k, k ∈ a ↔ k ∈ b) → a = b
  | [], [], _, _, _ => rfl
  | [], y :: b, _, _, h => by
    have := (h y).mpr List.mem_cons_self
    cases this
  | x :: a, [], _, _, h => by
    have := (h x).mp List.mem_cons_self
    cases this
  | x :: a, y :: b, ha, hb, h => by
    obtain ⟨a1, a2⟩ := List.pairwise_cons.mp ha
    obtain ⟨b1, b2⟩ := List.pairwise_cons.mp hb
    have e : x = y := by
      rcases List.mem_cons.mp ((h x).mp List.mem_cons_self) with q | q
      · exact q
      · rcases List.mem_cons.mp ((h y).mpr List.mem_cons_self) with p | p
        · exact p.symm
        · have := a1 y p
          have := b1 x q
          omega
    subst e
    rw [rise_eq a2 b2 fun k => ?_]
    have hk := h k
    rw [List.mem_cons, List.mem_cons] at hk
    constructor
    · intro q
      rcases hk.mp (.inr q) with rfl | z
      · exact absurd (a1 k q) (Int.lt_irrefl k)
      · exact z
    · intro q
      rcases hk.mpr (.inr q) with rfl | z
      · exact absurd (b1 k q) (Int.lt_irrefl k)
      · exact z
theorem rise_nodup {a : List Int} (h : a.Pairwise (· < ·)) : a.Nodup := h.imp fun h => by omega
/-- sorted(set(ns)) -/
def sset (ns : List Int) : Option (List Int) := if (decide ((sortU ns).length < 64) && decide (ns.length < 4000)) = true then some (sortU ns) else none
section
variable {X : Cx} {Tb : Tbs}
def rSetL (K : Frag) (w : World) : List V → Hp → VK → Prop := fun xs H Q => ∃ (a : Addr) (ns : List Int), xs = [V.ref a] ∧ SqL K H a (ns.map V.int) ∧ ns.length < 4000 ∧ ∀ p, H p = none → Q (.ref p) (upd H p (SetO w p (fun j => decide (j ∈ ns)) (sortU ns).length))
theorem cr_setL (hc : X.calm = true) : CallR X (.type "set") (rSetL X.K X.w) := by
  intro pins s σ H xs us Q I r h
  obtain ⟨a, ns, rfl, ha, hl, q⟩ := h
  obtain ⟨its, rv, hq, hz⟩ := I.list ha
  rw [Vals.ref1 r]
  refine set_listI ns (I.ok.hd hc) hq.isList (intsAre_of rv) (by unfold scanBound; omega) fun h' tk c R hcn k => ?_
  have hcc : c = (sortU ns).length := by
    obtain ⟨o, es, ep, t, ho, hx, hd, g, nd, hm, hb, hf, hn, _⟩ := R
    have pm : (es.toList.map keyOf).Perm (sortU ns) := (List.perm_ext_iff_of_nodup nd (rise_nodup (sortU_rise ns))).mpr fun k => by
      rw [← hm k, decide_eq_true_eq, sortU_mem]
    rw [← hn, ← pm.length_eq, List.length_map, Array.length_toList]
  subst hcc
  exact ⟨.ref _, upd H s.heap.objs.size (SetO X.w s.heap.objs.size (fun j => decide (j ∈ ns)) (sortU ns).length), I.laid (t' := tk) k (Nat.le_refl _) (setO_new R), rfl, q _ (I.hok.fresh (Nat.le_refl _))⟩
variable {e : Expr} {ds : List Slot} {p p2 pos pos2 : Pos} {ns out : List Int}
theorem xo_sortedSetI (hX : Bse X) (hs : Bn X "sorted" (.builtin "sorted")) (ht : Bn X "set" (.type "set")) (h : XR Tb X e ds (.list (ns.map eI))) (hv : sset ns = some out)
    (he : starEach [e] X.env = (false, eval e X.env) :: starEach [] X.env := by rfl) (hpl : (backTo pos2 (starEach [] X.env)).any (·.1) = false := by rfl)
    (he2 : starEach [.Call (.Name "set" p2) [e] [] pos2] X.env = (false, eval (.Call (.Name "set" p2) [e] [] pos2) X.env) :: starEach [] X.env := by rfl) (hpl2 : (backTo pos (starEach [] X.env)).any (·.1) = false := by rfl) :
    XO Tb X (.Call (.Name "sorted" p) [.Call (.Name "set" p2) [e] [] pos2] [] pos) ds (.lst (out.map eI)) := fun B σ Hf H E Q q => by
  obtain ⟨hv1, hv2⟩ := ite_some hv
  simp only [Bool.and_eq_true, decide_eq_true_eq] at hv1
  refine ⟨_, pe_callB (cr_sortedSet hX.calm) hs.g hs.m hs.v (pa_cons (pe_callTy (cr_setL hX.calm) ht.g ht.m ht.v (pa_cons pe_max pa_nil he) ht.n ht.d he hpl) pa_nil he2) hs.n hs.d he2 hpl2, ?_⟩
  refine h B σ Hf H E _ fun v Hf1 H1 x1 r => ?_
  have ll := r.lst_len
  obtain ⟨a, ws, rfl, ha, rr⟩ := r.lst_of x1.fh
  have e1 : ns.map eI = ns.map PyData.int := rfl
  rw [e1] at rr
  rw [rr.ints_of] at ha
  refine ⟨a, ns, rfl, ha, hv1.2, fun t ht => ?_⟩
  refine ⟨t, _, _, rfl, upd_same, hv1.1, fun ms z h1 h2 h3 hz => ?_⟩
  have em : ms = out := by
    rw [← hv2]
    exact rise_eq h1 (sortU_rise ns) fun k => by rw [h2 k, decide_eq_true_eq, sortU_mem]
  subst em
  have x2 := x1.kp.ow (o := SetO X.w t (fun j => decide (j ∈ ns)) (sortU ns).length) ht
  have x3 := x2.kp.ow (o := .lst (ms.map V.int)) hz
  have zt : Hf1 z = none := x2.kp.le.free hz
  refine q _ Hf1 _ [z] ((x1.trans x2).trans x3) ⟨z, _, rfl, rfl, upd_same, RepL.ints _, by rw [List.length_map, h3]; show (sortU ns).length ≤ 1000000; omega⟩ (List.nodup_cons.mpr ⟨by simp, .nil⟩) fun b hb => ?_
  cases List.mem_singleton.mp hb
  exact ⟨fresh_back (x1.trans x2) hz, zt⟩
end
end Pk

set_option Elab.async false
set_option linter.all false
set_option maxRecDepth 100000
set_option maxHeartbeats 1000000
/-! GU: more statements. -/
namespace Pk
open PySem PySem.Spec PyProof.Rows L2 GxR
section
variable {Tb : Tbs} {X : Cx} {e a b c tg : Expr} {es : List Expr} {ds ds' : List Slot} {d d1 d2 d3 : Dt} {o : Ob} {pos : Pos} {P : Po}
/-- x, y = a, b -/
theorem xs_par2 {i j : Nat} {x y : Str} {px py pt pt2 : Pos} {kt k2 : Nat} (hX : Bse X) (hi : X.N[i]? = some x) (hj : X.N[j]? = some y) (hij : i ≠ j) (hx : X.env.scope.names.lookup x = some .local) (hy : X.env.scope.names.lookup y = some .local)
    (ha : XA Tb X [a, b] ds [d1, d2]) (hw : swappedStores [.Tuple [.Name x px, .Name y py] kt pt] (.Tuple [a, b] k2 pt2) X.env = pure (some [x, y])) (q : P.nx ((ds.set i (.fz d1)).set j (.fz d2)))
    (hs : swapsWithSole [.Tuple [.Name x px, .Name y py] kt pt] (.Tuple [a, b] k2 pt2) pos.line X.env = pure false := by rfl) :
    XS Tb X (.Assign [.Tuple [.Name x px, .Name y py] kt pt] (.Tuple [a, b] k2 pt2) pos) ds P := fun B Kf σ Hf H D E kf A => by
  refine ⟨_, ps_par hX.calm hX.nd hi hj hij hx hy pa_max hw hs, ?_⟩
  refine ha B σ Hf H E _ fun vs Hf1 H1 x1 r => ?_
  obtain ⟨v, w, rfl, r1, r2⟩ := r.two_of
  exact ⟨v, w, rfl, A.nx _ _ Hf1 H1 q (((E.ext x1).setF r1).setF r2) (kf.trans x1.ff)⟩
theorem xs_par3 {i j l : Nat} {x y z : Str} {px py pz pt pt2 : Pos} {kt k2 : Nat} (hX : Bse X) (hi : X.N[i]? = some x) (hj : X.N[j]? = some y) (hl : X.N[l]? = some z) (hij : i ≠ j) (hil : i ≠ l) (hjl : j ≠ l) (hx : X.env.scope.names.lookup x = some .local) (hy : X.env.scope.names.lookup y = some .local) (hz : X.env.scope.names.lookup z = some .local)
    (ha : XA Tb X [a, b, c] ds [d1, d2, d3]) (hw : swappedStores [.Tuple [.Name x px, .Name y py, .Name z pz] kt pt] (.Tuple [a, b, c] k2 pt2) X.env = pure (some [x, y, z])) (q : P.nx (((ds.set i (.fz d1)).set j (.fz d2)).set l (.fz d3)))
    (hs : swapsWithSole [.Tuple [.Name x px, .Name y py, .Name z pz] kt pt] (.Tuple [a, b, c] k2 pt2) pos.line X.env = pure false := by rfl) :
    XS Tb X (.Assign [.Tuple [.Name x px, .Name y py, .Name z pz] kt pt] (.Tuple [a, b, c] k2 pt2) pos) ds P := fun B Kf σ Hf H D E kf A => by
  refine ⟨_, ps_par3 hX.calm hX.nd hi hj hl hij hil hjl hx hy hz pa_max hw hs, ?_⟩
  refine ha B σ Hf H E _ fun vs Hf1 H1 x1 r => ?_
  obtain ⟨u, r', rfl, r1, r2⟩ := r.cons_of
  obtain ⟨v, w, rfl, r2, r3⟩ := r2.two_of
  exact ⟨u, v, w, rfl, A.nx _ _ Hf1 H1 q ((((E.ext x1).setF r1).setF r2).setF r3) (kf.trans x1.ff)⟩
end
end Pk

set_option Elab.async false
set_option linter.all false
set_option maxRecDepth 100000
set_option maxHeartbeats 1000000
/-! GL: data of any form; the laws' shared helpers. -/
namespace Pk
open PySem PySem.Spec PyProof.Rows L2 GxR
theorem lnK (n : Nat) (h : decide (n ≤ 1000) = true := by decide) : n ≤ LN := Nat.le_trans (of_decide_eq_true h) (by decide)
def eqA (a b : Dt) : Option Bool := if (okD a && okD b) = true then some (PyData.eqv a b) else none
def lenA : Dt → Option Int
  | .tuple xs => some (xs.length : Int)
  | .list xs => some (xs.length : Int)
  | _ => none
def idxA : Dt → Int → Option Dt
  | .tuple xs, i => atI xs i
  | .list xs, i => atI xs i
  | _, _ => none
def itA : Dt → Option (List Dt)
  | .tuple xs => some xs
  | .list xs => some xs
  | _ => none
section
variable {Tb : Tbs} {X : Cx} {e a b c tg : Expr} {ds : List Slot} {d d1 d2 : Dt} {pos : Pos}
theorem opd_eqA {k : Bool} (h : eqA d1 d2 = some k) (hu : Deep X) : OpD Tb X (compareOp .Eq) d1 d2 (.bool k) := by
  obtain ⟨h1, h2⟩ := ite_some h
  simp only [Bool.and_eq_true] at h1
  rw [← h2]
  exact opd_eqD hu h1.1 h1.2
theorem opd_neA {k : Bool} (h : eqA d1 d2 = some k) (hu : Deep X) : OpD Tb X (compareOp .NotEq) d1 d2 (.bool (!k)) := by
  obtain ⟨h1, h2⟩ := ite_some h
  simp only [Bool.and_eq_true] at h1
  rw [← h2]
  exact opd_neD hu h1.1 h1.2
theorem xp_lenA {n : Int} {p : Pos} (hl : Bn X "len" (.builtin "len")) (h : XP Tb X e ds d) (hv : lenA d = some n)
    (he : starEach [e] X.env = (false, eval e X.env) :: starEach [] X.env := by rfl) (hpl : (backTo pos (starEach [] X.env)).any (·.1) = false := by rfl) : XP Tb X (.Call (.Name "len" p) [e] [] pos) ds (.int n) := by
  cases d with
  | tuple xs =>
    cases hv
    exact xp_callB hl cad_lenT (xar_cons h.r xar_nil he) he hpl
  | list xs =>
    cases hv
    exact xp_callB hl cad_lenL (xar_cons h.r xar_nil he) he hpl
  | _ => cases hv
theorem xp_ixA {i : Int} {v : Dt} (ha : XP Tb X a ds d) (hb : XP Tb X b ds (.int i)) (hv : idxA d i = some v) (hs : PlainIx b := by exact fun _ _ => rfl) : XP Tb X (.Subscript a b pos) ds v := by
  cases d with
  | tuple xs => exact xp_ixT ha.r hb hv hs
  | list xs => exact xp_ixL ha.r hb hv hs
  | _ => cases hv
theorem xq_ixT {α : Type} {f : α → Dt} {xs : List α} {i : Int} {v : α} (ha : XR Tb X a ds (eT f xs)) (hb : XP Tb X b ds (.int i)) (hi : idx xs i = some v) (hs : PlainIx b := by exact fun _ _ => rfl) : XP Tb X (.Subscript a b pos) ds (f v) := xp_ixT ha hb (atI_map hi) hs
theorem xq_ixL {α : Type} {f : α → Dt} {xs : List α} {i : Int} {v : α} (ha : XR Tb X a ds (.list (xs.map f))) (hb : XP Tb X b ds (.int i)) (hi : idx xs i = some v) (hs : PlainIx b := by exact fun _ _ => rfl) : XP Tb X (.Subscript a b pos) ds (f v) := xp_ixL ha hb (atI_map hi) hs
theorem eA_id (xs : List Dt) : xs.map eA = xs := List.map_id' xs
theorem xi_A {v : List Dt} (h : XP Tb X e ds d) (hv : itA d = some v) : XI Tb X tg e ds (v.map eA) true := by
  rw [eA_id]
  cases d with
  | tuple xs =>
    cases hv
    exact xi_tup h
  | list xs =>
    cases hv
    exact xi_lst h
  | _ => cases hv
theorem xi_rngA {n : Int} {p p2 pos2 : Pos} (hr : Bn X "range" (.type "range")) (hl : Bn X "len" (.builtin "len")) (h : XP Tb X e ds d) (hv : lenA d = some n)
    (he : starEach [e] X.env = (false, eval e X.env) :: starEach [] X.env := by rfl) (hpl : (backTo pos2 (starEach [] X.env)).any (·.1) = false := by rfl) (hs : starEach [.Call (.Name "len" p2) [e] [] pos2] X.env = [(false, eval (.Call (.Name "len" p2) [e] [] pos2) X.env)] := by rfl) :
    XI Tb X tg (.Call (.Name "range" p) [.Call (.Name "len" p2) [e] [] pos2] [] pos) ds ((rng 0 n).map eI) true := by
  cases d with
  | tuple xs =>
    cases hv
    exact xi_rngT hr hl h.r he hpl hs
  | list xs =>
    cases hv
    exact xi_rngLs hr hl h.r he hpl hs
  | _ => cases hv
end
/-! ### the shared helpers, as gen.py prints them -/
def f_law_cell (script_ : (List Int)) (k_ : Int) : Option Int :=
 (if (decide (k_ < (script_.length : Int))) = true then
 (Option.bind (idx script_ k_) fun t1 =>
 (some t1))
else
 (some (((5 : Int) * k_) + (3 : Int))))

def f_law_draws (cell_ : Int) (count_ : Int) : Option (List Int) :=
 (Option.bind (some (absI cell_)) fun rest_1 =>
 (Option.bind (some (decide ((1000000000000000000 : Int) ≤ rest_1))) fun digits_2 =>
 (Option.bind (rngM 0 count_) fun t3 =>
 (Option.bind (forM t3 (rest_1, []) fun x5 s4 =>
 (if (digits_2 && (decide ((0 : Int) < s4.1))) = true then
 (Option.bind (appM s4.2 (s4.1 % (5040 : Int))) fun draws_6 =>
 (Option.bind (some (s4.1 / (5040 : Int))) fun rest_7 =>
 (some (rest_7, draws_6))))
else
 (Option.bind (some ((((rest_1 * (48271 : Int)) + ((x5 + (1 : Int)) * (69621 : Int))) + (11 : Int)) % (2147483647 : Int))) fun mixed_8 =>
 (Option.bind (mulM mixed_8 mixed_8) fun t9 =>
 (Option.bind (some ((t9 + ((40692 : Int) * (x5 + (3 : Int)))) % (2147483399 : Int))) fun mixed_10 =>
 (Option.bind (appM s4.2 ((mixed_10 / (64 : Int)) % (5040 : Int))) fun draws_11 =>
 (some (s4.1, draws_11)))))))) fun s4 =>
 (some s4.2)))))

def f_law_is_integer (value_ : Dt) : Option Bool :=
 (some ((isI (eA value_)) && (!(isB (eA value_)))))

def f_law_is : Nat → Dt → Dt → Option Bool
  | 0, _, _ => none
  | n + 1, value_, due_ =>
      (if (isN due_) = true then
 (some (isN value_))
else
 (if (isB (eA due_)) = true then
 (Option.bind (if (isB (eA value_)) = true then (Option.bind (eqA value_ due_) fun t1 => (some t1)) else some false) fun t2 =>
 (some t2))
else
 (if (isI (eA due_)) = true then
 (Option.bind (f_law_is_integer value_) fun t3 =>
 (Option.bind (if t3 = true then (Option.bind (eqA value_ due_) fun t4 => (some t4)) else some false) fun t5 =>
 (some t5)))
else
 (if (isS (eA due_)) = true then
 (Option.bind (if (isS (eA value_)) = true then (Option.bind (eqA value_ due_) fun t6 => (some t6)) else some false) fun t7 =>
 (some t7))
else
 (Option.bind (if (!(isT (eA value_))) = true then some true else (Option.bind (lenA value_) fun t8 => (Option.bind (lenA due_) fun t9 => (some (!decide (t8 = t9)))))) fun t10 =>
 (if t10 = true then
 (some false)
else
 (Option.bind (lenA due_) fun t13 =>
 (Option.bind (compM (fun _ => some true) (fun x14 => (Option.bind (idxA value_ x14) fun t15 => (Option.bind (idxA due_ x14) fun t16 => (Option.bind (f_law_is n t15 t16) fun t17 => (some t17))))) (rng 0 t13)) fun t21 =>
 (some (t21.all id))))))))))

/-! ### own defs, by name -/
structure Cal (P : Program) (w : World) (K : Frag) (mg : Str → Option Value) (base : Heap) (Tb : Tbs) (x : Str) (n : Nat) (R : List Dt → Ro → Prop) (j : Nat) : Prop where
  ex : ∃ f fd ps, ps.length = n ∧ FnOk P w K mg base CX0 j f fd ps (Pur K Tb R) ∧ mg x = some (.ref f) ∧ PySem.W.keepIn K (.ref f) = true ∧ Binds K fd ps []
theorem Cal.fn {P : Program} {w : World} {K : Frag} {mg : Str → Option Value} {base : Heap} {Tb : Tbs} {x : Str} {n : Nat} {R : List Dt → Ro → Prop} {j : Nat} {N : List Str} {sc : Scope} {k : Nat} {X : Cx}
    (C : Cal P w K mg base Tb x n R j) (hX : Fx P w K mg base N sc k X) (hv : sc.names.lookup x = some .globalImplicit) (hd : (x == ("__debug__" : Str)) = false) (hj : j ≤ k) : Fn Tb X x n R := by
  obtain ⟨f, fd, ps, h1, h2, h3, h4, h5⟩ := C.ex
  exact hX.fn' hv hd h1 h2 hj h3 h4 h5
/-- names that stand in blocks alone -/
structure Bn0 (X : Cx) (x : Str) (f : Value) : Prop where
  m : X.mg x = none
  v : bootBuiltins x = some f
  n : x ≠ "__name__"
  d : (x == ("__debug__" : Str)) = false
structure Fn0 (Tb : Tbs) (X : Cx) (x : Str) (n : Nat) (R : List Dt → Ro → Prop) : Prop where
  d : (x == ("__debug__" : Str)) = false
  f : ∃ k f fd ps, ps.length = n ∧ FnOk X.prog X.w X.K X.mg X.base CX0 k f fd ps (Pur X.K Tb R) ∧ Room k X.A ∧ X.mg x = some (.ref f) ∧ PySem.W.keepIn X.K (.ref f) = true ∧ Binds X.K fd ps []
section
variable {X : Cx} {x : Str} {f : Value} {Tb : Tbs} {n : Nat} {R : List Dt → Ro → Prop} {scope : Scope} {s : Shared} {H : Hp} {C : Addr} {cl : List (Str × Addr)} {fp : List Addr}
theorem Bn0.blk (h : Bn0 X x f) (hv : scope.names.lookup x = some .globalImplicit) : Bn (Bk1 X scope s H C cl fp) x f := ⟨blk_look hv (by decide), h.m, h.v, h.n, h.d⟩
theorem Bn0.blk0 (h : Bn0 X x f) : Bn0 (Bk1 X scope s H C cl fp) x f := ⟨h.m, h.v, h.n, h.d⟩
theorem Fn0.blk (h : Fn0 Tb X x n R) (hv : scope.names.lookup x = some .globalImplicit) : Fn Tb (Bk1 X scope s H C cl fp) x n R := ⟨blk_look hv (by decide), h.d, h.f⟩
theorem Fn0.blk0 (h : Fn0 Tb X x n R) : Fn0 Tb (Bk1 X scope s H C cl fp) x n R := ⟨h.d, h.f⟩
end
theorem Fx.bn0 {P : Program} {w : World} {K : Frag} {mg : Str → Option Value} {base : Heap} {N : List Str} {sc : Scope} {k : Nat} {X : Cx} {x : Str} {f : Value} (h : Fx P w K mg base N sc k X) (hm : mg x = none) (hb : bootBuiltins x = some f) (hn : x ≠ "__name__") (hd : (x == ("__debug__" : Str)) = false) : Bn0 X x f :=
  ⟨by rw [h.mg]; exact hm, hb, hn, hd⟩
theorem Cal.fn0 {P : Program} {w : World} {K : Frag} {mg : Str → Option Value} {base : Heap} {Tb : Tbs} {x : Str} {n : Nat} {R : List Dt → Ro → Prop} {j : Nat} {N : List Str} {sc : Scope} {k : Nat} {X : Cx}
    (C : Cal P w K mg base Tb x n R j) (hX : Fx P w K mg base N sc k X) (hd : (x == ("__debug__" : Str)) = false) (hj : j ≤ k) : Fn0 Tb X x n R := by
  obtain ⟨f, fd, ps, h1, h2, h3, h4, h5⟩ := C.ex
  obtain ⟨e1, e2, e3, e4, e5, _, _, hr, _⟩ := hX
  subst e1 e2 e3 e4 e5
  exact ⟨hd, j, f, fd, ps, h1, h2, hr.mono hj, h3, h4, h5⟩
theorem law_end {K : Frag} {H : Hp} {a : Addr} {ns : List Int} {R : List Dt → Ro → Prop} {Ex : XK} {n : Nat} (hn : n ≤ LN) (hl : ns.length ≤ n) (hS : SqL K H a (ns.map V.int)) (hR : R [eL eI ns] (.fz (eB true))) : Pur K (fun _ => False) R [.ref a] H (fun v _ => v = .bl true) Ex :=
  ⟨noTbl H, _, _, ⟨noTbl_le H, fun _ z => z.elim⟩, .cons (.lst (noTbl_l hS) (by rw [List.length_map]; exact Nat.le_trans hl hn) (RepL.ints ns)) .nil, hR, fun v Hc' H' x r => by
    cases r
    rfl⟩
/-! ### what they answer -/
theorem compM_ok {α β : Type} {f : α → Option β} {g : α → β} : ∀ {xs : List α}, (∀ x, x ∈ xs → f x = some (g x)) → compM (fun _ => some true) f xs = some (xs.map g)
  | [], _ => rfl
  | x :: r, h => by
    unfold compM
    have h1 := h x List.mem_cons_self
    have h2 := compM_ok (xs := r) fun y hy => h y (List.mem_cons_of_mem _ hy)
    simp [h1, h2]
theorem rng_nat (n : Nat) : rng 0 (n : Int) = (List.range n).map fun (i : Nat) => (i : Int) := by
  unfold rng
  have : ((n : Int) - 0).toNat = n := by omega
  rw [this]
  apply List.map_congr_left
  intro i _
  omega
theorem mem_rng {lo hi i : Int} : i ∈ rng lo hi ↔ lo ≤ i ∧ i < hi := by
  unfold rng
  rw [List.mem_map]
  constructor
  · rintro ⟨a, ha, rfl⟩
    have := List.mem_range.mp ha
    omega
  · intro h
    exact ⟨(i - lo).toNat, List.mem_range.mpr (by omega), by omega⟩
theorem atI_of {α : Type} {xs : List α} {i : Int} (h : 0 ≤ i) : atI xs i = xs[i.toNat]? := by
  unfold atI ixN
  rw [if_pos h]
  by_cases g : i < (xs.length : Int)
  · rw [if_pos g]
    rfl
  · rw [if_neg g, List.getElem?_eq_none (by omega)]
    rfl
theorem lawis_tup {n : Nat} {vs ds : List Dt} {bs : List Bool} (hl : vs.length = ds.length) (hb : bs.length = ds.length)
    (h : ∀ (i : Nat) v d b, vs[i]? = some v → ds[i]? = some d → bs[i]? = some b → f_law_is n v d = some b) : f_law_is (n + 1) (.tuple vs) (.tuple ds) = some (bs.all id) := by
  unfold f_law_is
  have c : compM (fun _ => some true) (fun x => (Option.bind (idxA (.tuple vs) x) fun t => (Option.bind (idxA (.tuple ds) x) fun t' => (Option.bind (f_law_is n t t') fun t'' => some t'')))) (rng 0 (ds.length : Int)) = some ((rng 0 (ds.length : Int)).map fun i => bs.getD i.toNat false) := by
    refine compM_ok fun i hi => ?_
    obtain ⟨h0, h1⟩ := mem_rng.mp hi
    have hi : i.toNat < ds.length := by omega
    show (Option.bind (atI vs i) _) = _
    rw [atI_of h0, List.getElem?_eq_getElem (by omega : i.toNat < vs.length)]
    show (Option.bind (atI ds i) _) = _
    rw [atI_of h0, List.getElem?_eq_getElem hi]
    show (Option.bind (f_law_is n _ _) _) = _
    rw [h i.toNat _ _ bs[i.toNat] (List.getElem?_eq_getElem (by omega)) (List.getElem?_eq_getElem hi) (List.getElem?_eq_getElem (by omega))]
    show some _ = some _
    rw [List.getD_eq_getElem?_getD, List.getElem?_eq_getElem (by omega : i.toNat < bs.length)]
    rfl
  have e : ((rng 0 (ds.length : Int)).map fun i => bs.getD i.toNat false) = bs := by
    rw [rng_nat, List.map_map]
    apply List.ext_getElem?
    intro i
    rw [List.getElem?_map]
    by_cases g : i < ds.length
    · rw [List.getElem?_range g]
      show some (bs.getD (Int.toNat (i : Int)) false) = _
      rw [Int.toNat_natCast, List.getD_eq_getElem?_getD, List.getElem?_eq_getElem (by omega : i < bs.length)]
      rfl
    · rw [List.getElem?_eq_none (by rw [List.length_range]; omega), List.getElem?_eq_none (by omega)]
      rfl
  have h1 : isT (eA (PyData.tuple vs)) = true := rfl
  simp only [isN, isB, isI, isS, isT, eA, lenA, hl, decide_true, Bool.not_true, Option.bind_some, Bool.false_eq_true, if_false, if_true] at *
  rw [c, e]
  rfl
theorem lawis_len {n : Nat} {vs ds : List Dt} (hl : vs.length ≠ ds.length) : f_law_is (n + 1) (.tuple vs) (.tuple ds) = some false := by
  unfold f_law_is
  have h : decide ((vs.length : Int) = (ds.length : Int)) = false := decide_eq_false (by omega)
  simp only [isN, isB, isI, isS, isT, eA, lenA, h, Bool.not_true, Bool.not_false, Option.bind_some, Bool.false_eq_true, if_false, if_true]
/-- what is told is what is due -/
structure Isy {α : Type} (f : α → Dt) (n : Nat) [DecidableEq α] : Prop where
  eq : ∀ x y, f_law_is n (f x) (f y) = some (decide (x = y))
  no : ∀ y, f_law_is n .none (f y) = some false
theorem lawis_non {n : Nat} (v : Dt) : f_law_is (n + 1) v .none = some (isN v) := by
  unfold f_law_is
  rfl
theorem isyI {n : Nat} : Isy eI (n + 1) where
  eq := fun x y => by
    unfold f_law_is f_law_is_integer
    simp only [isN, isB, isI, isS, isT, eA, eI, eqA, okD_int, Bool.not_false, Bool.and_true, Bool.and_self, Option.bind_some, Bool.false_eq_true, if_false, if_true]
    exact congrArg some (eqI x y)
  no := fun y => by
    unfold f_law_is f_law_is_integer
    rfl
theorem isyB {n : Nat} : Isy eB (n + 1) where
  eq := fun x y => by
    unfold f_law_is
    simp only [isN, isB, isI, isS, isT, eA, eB, eqA, okD_bool, Bool.and_self, Option.bind_some, Bool.false_eq_true, if_false, if_true]
    exact congrArg some (eqB x y)
  no := fun y => by
    unfold f_law_is
    rfl
theorem isyS {n : Nat} : Isy eS (n + 1) where
  eq := fun x y => by
    unfold f_law_is
    simp only [isN, isB, isI, isS, isT, eA, eS, eqA, okD_str, Bool.and_self, Option.bind_some, Bool.false_eq_true, if_false, if_true]
    exact congrArg some (eqS x y)
  no := fun y => by
    unfold f_law_is
    rfl
theorem isyO {α : Type} [DecidableEq α] {f : α → Dt} {n : Nat} (h : Isy f (n + 1)) (nn : Nn f) : ∀ x y : Option α, f_law_is (n + 1) (eO f x) (eO f y) = some (decide (x = y))
  | none, none => rfl
  | some x, none => by
    show f_law_is (n + 1) (f x) .none = _
    rw [lawis_non, nn]
    rfl
  | none, some y => by
    show f_law_is (n + 1) .none (f y) = _
    rw [h.no, decide_eq_false (by simp)]
  | some x, some y => by
    show f_law_is (n + 1) (f x) (f y) = _
    rw [h.eq]
    by_cases e : x = y <;> simp [e]
theorem lawis_no {n : Nat} (ds : List Dt) : f_law_is (n + 1) .none (.tuple ds) = some false := by
  unfold f_law_is
  rfl
theorem isyT {α : Type} [DecidableEq α] {f : α → Dt} {n : Nat} (h : ∀ x y, f_law_is n (f x) (f y) = some (decide (x = y))) : Isy (eT f) (n + 1) where
  eq := fun xs ys => by
    unfold eT
    by_cases hl : xs.length = ys.length
    · rw [lawis_tup (bs := List.zipWith (fun x y => decide (x = y)) xs ys) (by rw [List.length_map, List.length_map]; exact hl) (by rw [List.length_zipWith, List.length_map]; omega) fun i v d b h1 h2 h3 => ?_]
      · congr 1
        induction xs generalizing ys with
        | nil =>
          cases ys with
          | nil => rfl
          | cons y ys => cases hl
        | cons x xs ih =>
          cases ys with
          | nil => cases hl
          | cons y ys =>
            rw [List.zipWith_cons_cons, List.all_cons, ih ys (by simpa using hl)]
            by_cases e1 : x = y <;> by_cases e2 : xs = ys <;> simp [e1, e2]
      · rw [List.getElem?_map] at h1 h2
        rw [List.getElem?_zipWith] at h3
        cases g1 : xs[i]? with
        | none => rw [g1] at h1; cases h1
        | some x =>
          cases g2 : ys[i]? with
          | none => rw [g2] at h2; cases h2
          | some y =>
            rw [g1] at h1
            rw [g2] at h2
            rw [g1, g2] at h3
            cases h1
            cases h2
            cases h3
            exact h x y
    · rw [lawis_len (by rw [List.length_map, List.length_map]; exact hl), decide_eq_false fun z => hl (by rw [z])]
  no := fun ys => lawis_no _
theorem isyP2 {α β : Type} [DecidableEq α] [DecidableEq β] {f : α → Dt} {g : β → Dt} {n : Nat} (h1 : ∀ x y, f_law_is n (f x) (f y) = some (decide (x = y))) (h2 : ∀ x y, f_law_is n (g x) (g y) = some (decide (x = y))) : Isy (eP2 f g) (n + 1) where
  eq := fun p q => by
    unfold eP2
    rw [lawis_tup (vs := [f p.1, g p.2]) (ds := [f q.1, g q.2]) (bs := [decide (p.1 = q.1), decide (p.2 = q.2)]) rfl rfl fun i v d b a1 a2 a3 => ?_]
    · obtain ⟨a, b⟩ := p
      obtain ⟨c, d⟩ := q
      by_cases e1 : a = c <;> by_cases e2 : b = d <;> simp [e1, e2]
    · match i with
      | 0 => cases a1; cases a2; cases a3; exact h1 _ _
      | 1 => cases a1; cases a2; cases a3; exact h2 _ _
      | i + 2 => cases a1
  no := fun ys => lawis_no _
theorem isyP3 {α β γ : Type} [DecidableEq α] [DecidableEq β] [DecidableEq γ] {f : α → Dt} {g : β → Dt} {k : γ → Dt} {n : Nat} (h1 : ∀ x y, f_law_is n (f x) (f y) = some (decide (x = y))) (h2 : ∀ x y, f_law_is n (g x) (g y) = some (decide (x = y))) (h3 : ∀ x y, f_law_is n (k x) (k y) = some (decide (x = y))) : Isy (eP3 f g k) (n + 1) where
  eq := fun p q => by
    unfold eP3
    rw [lawis_tup (vs := [f p.1, g p.2.1, k p.2.2]) (ds := [f q.1, g q.2.1, k q.2.2]) (bs := [decide (p.1 = q.1), decide (p.2.1 = q.2.1), decide (p.2.2 = q.2.2)]) rfl rfl fun i v d b a1 a2 a3 => ?_]
    · obtain ⟨a, b, c⟩ := p
      obtain ⟨a', b', c'⟩ := q
      by_cases e1 : a = a' <;> by_cases e2 : b = b' <;> by_cases e3 : c = c' <;> simp [e1, e2, e3]
    · match i with
      | 0 => cases a1; cases a2; cases a3; exact h1 _ _
      | 1 => cases a1; cases a2; cases a3; exact h2 _ _
      | 2 => cases a1; cases a2; cases a3; exact h3 _ _
      | i + 3 => cases a1
  no := fun ys => lawis_no _
theorem isyP4 {α β γ δ : Type} [DecidableEq α] [DecidableEq β] [DecidableEq γ] [DecidableEq δ] {f : α → Dt} {g : β → Dt} {k : γ → Dt} {j : δ → Dt} {n : Nat} (h1 : ∀ x y, f_law_is n (f x) (f y) = some (decide (x = y))) (h2 : ∀ x y, f_law_is n (g x) (g y) = some (decide (x = y))) (h3 : ∀ x y, f_law_is n (k x) (k y) = some (decide (x = y))) (h4 : ∀ x y, f_law_is n (j x) (j y) = some (decide (x = y))) : Isy (eP4 f g k j) (n + 1) where
  eq := fun p q => by
    unfold eP4
    rw [lawis_tup (vs := [f p.1, g p.2.1, k p.2.2.1, j p.2.2.2]) (ds := [f q.1, g q.2.1, k q.2.2.1, j q.2.2.2]) (bs := [decide (p.1 = q.1), decide (p.2.1 = q.2.1), decide (p.2.2.1 = q.2.2.1), decide (p.2.2.2 = q.2.2.2)]) rfl rfl fun i v d b a1 a2 a3 => ?_]
    · obtain ⟨a, b, c, d⟩ := p
      obtain ⟨a', b', c', d'⟩ := q
      by_cases e1 : a = a' <;> by_cases e2 : b = b' <;> by_cases e3 : c = c' <;> by_cases e4 : d = d' <;> simp [e1, e2, e3, e4]
    · match i with
      | 0 => cases a1; cases a2; cases a3; exact h1 _ _
      | 1 => cases a1; cases a2; cases a3; exact h2 _ _
      | 2 => cases a1; cases a2; cases a3; exact h3 _ _
      | 3 => cases a1; cases a2; cases a3; exact h4 _ _
      | i + 4 => cases a1
  no := fun ys => lawis_no _
end Pk

set_option Elab.async false
set_option linter.all false
set_option maxRecDepth 100000
set_option maxHeartbeats 1000000
/-! GE: enumerate of a tuple, of a list. -/
namespace Pk
open PySem PySem.Spec PyProof.Rows L2 GxR
set_option maxHeartbeats 2000000 in
/-- enumerate(v) of what may be walked -/
theorem meets_enum1 {v : Value} {o : Obj} {F : Heap → Prop} (B : Begins v o F) :
    Meets (Builtin.«enumerate.__new__» ⟨[.type "enumerate", v], []⟩) (fun _ R s => F s.heap ∧
      R (.ok (.ret (.ref (s.heap.push o).objs.size))) { s with heap := (s.heap.push o).push { cls := .type "enumerate", data := .fields #[.none, .bool false, .ref s.heap.objs.size, rawInt 0, .none, .none] } }) :=
  .of_wp fun prog w A R s h => by
    obtain ⟨hp, g, d, tk, os⟩ := s
    obtain ⟨h1, h⟩ := h
    have hsub := sub_enumerate
    have q1 : ∀ {A' : Around} {E : Value → Shared → Prop} {Q : Value → Shared → Prop}, Q (.ref hp.objs.size) ⟨hp.push o, g, d, tk, os⟩ → wpAny (model prog w) A' (pyIter v) Q E ⟨hp, g, d, tk, os⟩ :=
      fun q => B.iter prog w _ _ ⟨hp, g, d, tk, os⟩ _ h1 q
    wp_walk using q1
    refine wpAny_stack_any fun st => wpAny_pure ?_
    split
    · rename_i c _ _ _ _ _
      cases (c == Value.type "enumerate")
      · wp_walk using q1
        exact ⟨_, rfl, h⟩
      · wp_walk using q1
        exact ⟨_, rfl, h⟩
    · wp_walk using q1
      exact ⟨_, rfl, h⟩
section
variable {prog : Program} {w : World} {A : Around} {E : Value → Shared → Prop} {s : Shared}
theorem enum1 {v : Value} {o : Obj} {G : Heap → Prop} {Q : Value → Shared → Prop} (B : Begins v o G) (h1 : G s.heap)
    (h : ∀ h', IsEnum h' (s.heap.objs.size + 1) s.heap.objs.size 0 .none → h'.get? s.heap.objs.size = some o → h'.objs.size = s.heap.objs.size + 2 →
      (∀ b o, s.heap.get? b = some o → h'.get? b = some o) → Q (.ref (s.heap.objs.size + 1)) { s with heap := h' }) :
    wpAny (model prog w) A (call (.type "enumerate") [v]) Q E s := by
  refine callType_new F.called_enumerate (by decide) (F.typeCall_enumerate_1 _) (F.newCall_enumerate_1 _) (fun obj => F.args_object_init_2 obj _) F.entry_enumerate_new (meets_enum1 B) ⟨h1, ?_⟩
  have hz : (s.heap.push o).objs.size = s.heap.objs.size + 1 := Heap.size_push ..
  show _ ∧ _
  rw [hz]
  have he : IsEnum ((s.heap.push o).push { cls := .type "enumerate", data := .fields #[.none, .bool false, .ref s.heap.objs.size, rawInt 0, .none, .none] }) (s.heap.objs.size + 1) s.heap.objs.size 0 .none := by
    have := Heap.get?_push_size (s.heap.push o) (o := { cls := .type "enumerate", data := .fields #[.none, .bool false, .ref s.heap.objs.size, rawInt 0, .none, .none] }) rfl
    rw [hz] at this
    exact this
  refine ⟨⟨_, he, rfl⟩, h _ he (Heap.get?_push_of_some _ (Heap.get?_push_size _ B.free)) (by rw [Heap.size_push, hz]) fun b o x => Heap.get?_push_of_some _ (Heap.get?_push_of_some _ x)⟩
end
/-- the tuple at a, each item in a new pair -/
def IteT (K : Frag) (a : Addr) : It :=
  ⟨fun i H => ∃ (xs : List V) (x : V), SqT K H a xs ∧ xs[i]? = some x, fun i H v H' => ∃ T x, v = .ref T ∧ H T = none ∧ H' = upd H T (.tup [.int (i : Nat), x]) ∧ ∀ xs, SqT K H a xs → xs[i]? = some x, fun i H => ∃ xs : List V, SqT K H a xs ∧ xs.length ≤ i⟩
theorem turn_enumT {P : Program} {w : World} {K : Frag} {elts : List Expr} {kk : Nat} {tpos : Pos} (a e it : Addr) :
    Turn P w K (.Tuple elts kk tpos) (IteT K a) [e, it] e (fun i h => (∃ old, IsEnum h e it ((i : Nat) : Int) old) ∧ h.IsTupleIter it a i ∧ e ≠ it ∧ a ≠ it) where
  mem := by simp
  obj := fun i h st b hb => by
    obtain ⟨⟨old, he⟩, ⟨o, ho, hc, hd⟩, _⟩ := st
    have e' : b = e ∨ b = it := by simpa using hb
    rcases e' with z | z
    · rw [z]; exact ⟨_, he, fun v q => nomatch q⟩
    · rw [z]; exact ⟨o, ho, fun v q => by rw [hd] at q; cases q⟩
  keep := fun i h h' st k => let ⟨⟨old, he⟩, hi, hne⟩ := st; ⟨⟨old, k e (by simp) _ he⟩, hi.at fun o q => k it (by simp) o q, hne⟩
  item := by
    intro X hP hw hK hc i pins s σ H E I hf st hg
    subst hP hw hK
    obtain ⟨⟨old, he⟩, hit, hne, hna⟩ := st
    obtain ⟨xs, x, hq, hx⟩ := hg
    obtain ⟨its, rv, p, hz⟩ := I.tuple hq
    obtain ⟨u, hu, ru⟩ := rv.get hx
    have hel : e < s.heap.objs.size := Heap.lt_size he
    have hil : it < s.heap.objs.size := by obtain ⟨_, q, _⟩ := hit; exact Heap.lt_size q
    have hea : e ≠ a := fun z => by
      obtain ⟨o, ho, hc, _⟩ := (show s.heap.IsTuple a its.toArray from p)
      rw [← z, he] at ho
      cases ho
      simp at hc
    refine wpAny_pyNext_enum_itemD (Draws.tuple (A := X.A.in1) (show X.A.in1.handled = none from I.ok.hd hc) it a hna its.toArray) he ⟨hit, p⟩ (show i < its.toArray.size by simpa using (List.getElem?_eq_some_iff.mp hu).1) hne (by simp [hne, hea]) fun x' h' tk hP ho hst' hT hsz hk => ?_
    have ex : x' = u := by
      have : its.toArray[i]? = some x' := hP
      rw [Array.getElem?_eq_some_iff] at this
      obtain ⟨_, q⟩ := this
      rw [← q]
      obtain ⟨_, q2⟩ := List.getElem?_eq_some_iff.mp hu
      rw [← q2]
      rfl
    subst ex
    refine ⟨_, rfl, wpAny_letOwnedTupleGo_enum (s := { s with heap := h', toks := tk + 1 }) ho fun h'' he' sb => ?_⟩
    have hT2 : h''.get? s.heap.objs.size = some { cls := .type "tuple", data := .seq #[.int i tk, x'] } := (sb.2 _ (Nat.ne_of_gt hel)).trans hT
    have new : ObjOk X.prog X.w (upd H s.heap.objs.size (.tup [.int (i : Nat), x])) h'' s.heap.objs.size (.tup [.int (i : Nat), x]) :=
      ⟨by show 2 ≤ sizeLine; decide, [.int i tk, x'], .cons ⟨_, rfl⟩ (.cons ru .nil), ⟨_, hT2, rfl, _, rfl⟩⟩
    have I1 : Inv X pins σ (upd H s.heap.objs.size (.tup [.int (i : Nat), x])) { s with heap := h'', toks := tk + 1 } :=
      I.turnedNew (ch := [e, it]) (fun b ob hb q => (sb.2 b (fun z => hb (by simp [z]))).trans (hk b ob (fun z => hb (by simp [z])) (fun z => hb (by simp [z])) q)) hf (Nat.le_refl _) new
    refine ⟨.ref s.heap.objs.size, _, I1, rfl, ⟨_, x, rfl, I.hok.fresh (Nat.le_refl _), rfl, fun ys hy => by rw [I.tuple_inj hy hq]; exact hx⟩, ⟨⟨x', ?_⟩, hst'.1.at fun o q => (sb.2 it (Ne.symm hne)).trans q, hne, hna⟩, fun b hb => ?_⟩
    · have e1 : ((i + 1 : Nat) : Int) = (i : Int) + 1 := by omega
      rw [e1]; exact he'
    · have hb' : b < s.heap.objs.size := by
        have e' : b = e ∨ b = it := by simpa using hb
        rcases e' with z | z
        · rw [z]; exact hel
        · rw [z]; exact hil
      rw [upd_ne (Nat.ne_of_lt hb')]
      exact (hf b hb).1
  done := by
    intro X hP hw hK hc i pins s σ H E I hf st hg
    subst hP hw hK
    obtain ⟨⟨old, he⟩, hit, hne, hna⟩ := st
    obtain ⟨xs, hq, hx⟩ := hg
    obtain ⟨its, rv, p, hz⟩ := I.tuple hq
    obtain ⟨f0, f1, f2, f3, f4, f5⟩ := hf it (by simp)
    have hl := rv.length
    have hx' : its.toArray[i]? = none := by simp; omega
    have D : Draws X.prog X.w X.A.in1 it [it, a] i (fun _ _ => True) (fun j h => j = i ∧ h.IsTupleIter it a i ∧ h.IsTuple a its.toArray) :=
      { live := fun _ _ st => let ⟨o, ho, _⟩ := st.2.1; ⟨o, ho⟩
        frame := fun _ _ _ st hk => ⟨st.1, st.2.1.at fun o e => hk it (by simp) o e, st.2.2.at fun o e => hk a (by simp) o e⟩
        item := fun j s Q E hj st _ => absurd st.1 (Nat.ne_of_lt hj)
        done := fun s Q E st hE => wpAny_nextOf_tuple_end (show X.A.in1.handled = none from I.ok.hd hc) st.2.1 st.2.2 hx' hE }
    exact wpAny_pyNext_enum_endD D he ⟨rfl, hit, p⟩ fun h' eb => ⟨rfl, I.turned (t' := s.toks) (fun b o hb q => eb b o hb q) f0 f1 f3 f4 f5⟩
  self := fun A i s Q E st h => let ⟨⟨_, he⟩, _⟩ := st; wpAny_pyIter_enum he h
section
variable {X : Cx}
def iEnumT (K : Frag) (ta : TA) : TI := fun σ H R => ta σ H fun vs H1 => ∃ a xs, vs = [.ref a] ∧ SqT K H1 a xs ∧ R (IteT K a) H1
theorem pi_enumT {e : Expr} {ta : TA} {p pos tpos : Pos} {elts : List Expr} {kk : Nat} (hg : Gl X "enumerate") (hm : X.mg "enumerate" = none) (ha : PA X [e] ta) (hs : starEach [e] X.env = [(false, eval e X.env)] := by rfl) :
    PI X (.Tuple elts kk tpos) (.Call (.Name "enumerate" p) [e] [] pos) (iEnumT X.K ta) := by
  refine ⟨fun pins s σ H R I h => ?_⟩
  refine Call_ (ld_blt I hg hm boot_enumerate (PyProof.Rows.callWith_type1 (thn (ha.run pos pins s σ H _ I h) fun us s1 ⟨vs, H1, I1, r1, q1⟩ => ?_) hs rfl))
  obtain ⟨a, xs, ex, hq, q⟩ := q1
  subst ex
  cases r1 with
  | cons r rr =>
    cases rr
    cases r
    obtain ⟨its, rv, p', hz⟩ := I1.tuple hq
    have hlt : a < s1.heap.objs.size := by obtain ⟨_, q, _⟩ := (show s1.heap.IsTuple a its.toArray from p'); exact Heap.lt_size q
    refine enum1 (begins_tuple a its.toArray) p' fun h' he hit hsz hk => wpAny_pyIter_enum he ?_
    have I2 : Inv X pins σ H1 { s1 with heap := h' } := I1.kept (t' := s1.toks) hk
    refine ⟨s1.heap.objs.size + 1, [s1.heap.objs.size + 1, s1.heap.objs.size], _, _, H1, rfl, I2, turn_enumT a (s1.heap.objs.size + 1) s1.heap.objs.size, ⟨⟨.none, he⟩, ⟨_, hit, rfl, rfl⟩, Nat.succ_ne_self _, Nat.ne_of_lt hlt⟩, fun b hb => ?_, q⟩
    have e' : b = s1.heap.objs.size + 1 ∨ b = s1.heap.objs.size := by simpa using hb
    have hle : s1.heap.objs.size ≤ b := by
      rcases e' with z | z
      · rw [z]; exact Nat.le_add_right _ _
      · rw [z]; exact Nat.le_refl _
    exact I1.fpOk hle (I1.hok.fresh hle)
variable {α : Type} {Tb : Tbs} {e : Expr} {ds : List Slot} {ys : List Dt} {p pos tpos : Pos} {elts : List Expr} {kk : Nat}
/-- (0, x), (1, y), .. -/
def enu (xs : List α) : List (Int × α) := (rng 0 (xs.length : Int)).zip xs
theorem enu_len (xs : List α) : (enu xs).length = xs.length := by
  unfold enu
  rw [List.length_zip, rng_len]
  omega
theorem enu_get (xs : List α) (i : Nat) : (enu xs)[i]? = (xs[i]?).map fun x => ((i : Int), x) := by
  unfold enu
  by_cases h : i < xs.length
  · rw [(List.getElem?_zip_eq_some (z := ((0 : Int) + (i : Int), xs[i]))).mpr ⟨rng_get (by omega : i < ((xs.length : Int) - 0).toNat), List.getElem?_eq_getElem h⟩, List.getElem?_eq_getElem h]
    simp
  · rw [List.getElem?_eq_none (by rw [List.length_zip, rng_len]; omega), List.getElem?_eq_none (by omega)]
    rfl
theorem enu_map (f : α → Dt) (xs : List α) : (enu (xs.map f)).map (fun q => PyData.tuple [.int q.1, q.2]) = (enu xs).map (eP2 eI f) := by
  apply List.ext_getElem?
  intro i
  rw [List.getElem?_map, List.getElem?_map, enu_get, enu_get, List.getElem?_map]
  cases xs[i]? <;> rfl
theorem xi_enuT (hX : Bse X) (hn : Bn X "enumerate" (.type "enumerate")) (h : XR Tb X e ds (.tuple ys)) (hs : starEach [e] X.env = [(false, eval e X.env)] := by rfl) :
    XI Tb X (.Tuple elts kk tpos) (.Call (.Name "enumerate" p) [e] [] pos) ds ((enu ys).map fun q => PyData.tuple [.int q.1, q.2]) true := fun B σ Hf H E R q => by
  refine ⟨_, pi_enumT hn.g hn.m (pa_cons pe_max pa_nil hs) hs, ?_⟩
  refine h B σ Hf H E _ fun v Hf1 H1 x1 r => ?_
  have hl := r.tup_len
  obtain ⟨a, xs, e1⟩ : ∃ a xs, v = .ref a ∧ SqT X.K Hf1 a xs ∧ RepL X.K Hf1 xs ys := by
    cases r with
    | fz r => exact r.tup_of
  obtain ⟨rfl, h1, h2⟩ := e1
  have hlen : ((enu ys).map fun q => PyData.tuple [.int q.1, q.2]).length = ys.length := by rw [List.length_map, enu_len]
  refine ⟨a, xs, rfl, ex_t x1.fh.ex h1, q _ Hf1 H1 x1 ⟨fun i y Hf H hy ef kp => ?_, fun i Hf H hi ef kp => ?_⟩ fun _ => by rw [hlen]; exact hl⟩
  · have g : SqT X.K H a xs := ex_t (ef.trans kp.le.ex) h1
    rw [List.getElem?_map, enu_get] at hy
    cases hz : ys[i]? with
    | none => rw [hz] at hy; cases hy
    | some z =>
      rw [hz] at hy
      cases hy
      obtain ⟨v, hv, rv⟩ := h2.getD hz
      refine ⟨⟨xs, v, g, hv⟩, fun x H' w => ?_⟩
      obtain ⟨T, x', rfl, hT, rfl, hx'⟩ := w
      have e2 := hx' xs g
      rw [hv] at e2
      cases e2
      refine ⟨upd Hf T (.tup [.int (i : Nat), v]), kp.fz hT rfl, .tup (.inl (.inl upd_same)) (by show 2 ≤ LN; decide) (.cons (.int _) (.one ((rv.mono ef).mono (Ex.new (kp.le.free hT)))))⟩
  · exact ⟨xs, ex_t (ef.trans kp.le.ex) h1, by rw [h2.length]; omega⟩
theorem xi_enuL (hX : Bse X) (hn : Bn X "enumerate" (.type "enumerate")) (h : XP Tb X e ds (.list ys)) (hs : starEach [e] X.env = [(false, eval e X.env)] := by rfl) :
    XI Tb X (.Tuple elts kk tpos) (.Call (.Name "enumerate" p) [e] [] pos) ds ((enu ys).map fun q => PyData.tuple [.int q.1, q.2]) true := fun B σ Hf H E R q => by
  refine ⟨_, pi_enum hn.g hn.m (pa_cons pe_max pa_nil hs) hs, ?_⟩
  refine h B σ Hf H E _ fun v Hf1 H1 x1 r => ?_
  have hl := r.lst_len
  obtain ⟨a, xs, rfl, h1, h2⟩ := r.lst_of
  have hlen : ((enu ys).map fun q => PyData.tuple [.int q.1, q.2]).length = ys.length := by rw [List.length_map, enu_len]
  refine ⟨a, xs, rfl, ex_l x1.fh.ex h1, q _ Hf1 H1 x1 ⟨fun i y Hf H hy ef kp => ?_, fun i Hf H hi ef kp => ?_⟩ fun _ => by rw [hlen]; exact hl⟩
  · have g : SqL X.K H a xs := ex_l (ef.trans kp.le.ex) h1
    rw [List.getElem?_map, enu_get] at hy
    cases hz : ys[i]? with
    | none => rw [hz] at hy; cases hy
    | some z =>
      rw [hz] at hy
      cases hy
      obtain ⟨v, hv, rv⟩ := h2.getD hz
      refine ⟨⟨xs, v, g, hv⟩, fun x H' w => ?_⟩
      obtain ⟨T, x', rfl, hT, rfl, hx'⟩ := w
      have e2 := hx' xs g
      rw [hv] at e2
      cases e2
      refine ⟨upd Hf T (.tup [.int (i : Nat), v]), kp.fz hT rfl, .tup (.inl (.inl upd_same)) (by show 2 ≤ LN; decide) (.cons (.int _) (.one ((rv.mono ef).mono (Ex.new (kp.le.free hT)))))⟩
  · exact ⟨xs, ex_l (ef.trans kp.le.ex) h1, by rw [h2.length]; omega⟩
end
end Pk

set_option Elab.async false
set_option linter.all false
set_option maxRecDepth 100000
set_option maxHeartbeats 1000000
/-! GD: data of any form, taken for data of a type. -/
namespace Pk
open PySem PySem.Spec PyProof.Rows L2 GxR
section
variable {α β γ δ : Type}
def De (f : α → Dt) (d : Dt → Option α) : Prop := ∀ v x, d v = some x → v = f x
def dI : Dt → Option Int
  | .int i => some i
  | _ => none
def dB : Dt → Option Bool
  | .bool i => some i
  | _ => none
def dS : Dt → Option Str
  | .str i => some i
  | _ => none
def dN : Dt → Option Unit
  | .none => some ()
  | _ => none
def dA (v : Dt) : Option Dt := some v
def dO (d : Dt → Option α) : Dt → Option (Option α)
  | .none => some none
  | v => (d v).map some
def dTs (d : Dt → Option α) : List Dt → Option (List α)
  | [] => some []
  | v :: vs => (d v).bind fun x => (dTs d vs).bind fun xs => some (x :: xs)
def dT (d : Dt → Option α) : Dt → Option (List α)
  | .tuple vs => dTs d vs
  | _ => none
def dL (d : Dt → Option α) : Dt → Option (List α)
  | .list vs => dTs d vs
  | _ => none
def dP2 (d1 : Dt → Option α) (d2 : Dt → Option β) : Dt → Option (α × β)
  | .tuple [a, b] => (d1 a).bind fun x => (d2 b).bind fun y => some (x, y)
  | _ => none
def dP3 (d1 : Dt → Option α) (d2 : Dt → Option β) (d3 : Dt → Option γ) : Dt → Option (α × β × γ)
  | .tuple [a, b, c] => (d1 a).bind fun x => (d2 b).bind fun y => (d3 c).bind fun z => some (x, y, z)
  | _ => none
def dP4 (d1 : Dt → Option α) (d2 : Dt → Option β) (d3 : Dt → Option γ) (d4 : Dt → Option δ) : Dt → Option (α × β × γ × δ)
  | .tuple [a, b, c, d] => (d1 a).bind fun x => (d2 b).bind fun y => (d3 c).bind fun z => (d4 d).bind fun w => some (x, y, z, w)
  | _ => none
theorem deI : De eI dI := fun v x h => by cases v <;> cases h; rfl
theorem deB : De eB dB := fun v x h => by cases v <;> cases h; rfl
theorem deS : De eS dS := fun v x h => by cases v <;> cases h; rfl
theorem deN : De eN dN := fun v x h => by cases v <;> first | rfl | cases h
theorem deA : De eA dA := fun v x h => by cases h; rfl
theorem deO {f : α → Dt} {d : Dt → Option α} (h : De f d) : De (eO f) (dO d) := fun v x q => by
  unfold dO at q
  split at q
  · cases q
    rfl
  · cases z : d v with
    | none => rw [z] at q; cases q
    | some y =>
      rw [z] at q
      cases q
      exact h _ _ z
theorem deTs {f : α → Dt} {d : Dt → Option α} (h : De f d) : ∀ vs xs, dTs d vs = some xs → vs = xs.map f
  | [], xs, q => by cases q; rfl
  | v :: vs, xs, q => by
    unfold dTs at q
    obtain ⟨x, h1, q⟩ := bind_some q
    obtain ⟨ys, h2, q⟩ := bind_some q
    cases q
    rw [List.map_cons, ← h _ _ h1, ← deTs h _ _ h2]
theorem deT {f : α → Dt} {d : Dt → Option α} (h : De f d) : De (eT f) (dT d) := fun v x q => by
  cases v with
  | tuple vs => exact congrArg PyData.tuple (deTs h _ _ q)
  | _ => cases q
theorem deL {f : α → Dt} {d : Dt → Option α} (h : De f d) : De (eL f) (dL d) := fun v x q => by
  cases v with
  | list vs => exact congrArg PyData.list (deTs h _ _ q)
  | _ => cases q
theorem deP2 {f : α → Dt} {g : β → Dt} {d1 : Dt → Option α} {d2 : Dt → Option β} (h1 : De f d1) (h2 : De g d2) : De (eP2 f g) (dP2 d1 d2) := fun v x q => by
  unfold dP2 at q
  split at q
  · obtain ⟨x1, a1, q⟩ := bind_some q
    obtain ⟨x2, a2, q⟩ := bind_some q
    cases q
    rw [h1 _ _ a1, h2 _ _ a2]
    rfl
  · cases q
theorem deP3 {f : α → Dt} {g : β → Dt} {k : γ → Dt} {d1 : Dt → Option α} {d2 : Dt → Option β} {d3 : Dt → Option γ} (h1 : De f d1) (h2 : De g d2) (h3 : De k d3) : De (eP3 f g k) (dP3 d1 d2 d3) := fun v x q => by
  unfold dP3 at q
  split at q
  · obtain ⟨x1, a1, q⟩ := bind_some q
    obtain ⟨x2, a2, q⟩ := bind_some q
    obtain ⟨x3, a3, q⟩ := bind_some q
    cases q
    rw [h1 _ _ a1, h2 _ _ a2, h3 _ _ a3]
    rfl
  · cases q
theorem deP4 {f : α → Dt} {g : β → Dt} {k : γ → Dt} {j : δ → Dt} {d1 : Dt → Option α} {d2 : Dt → Option β} {d3 : Dt → Option γ} {d4 : Dt → Option δ} (h1 : De f d1) (h2 : De g d2) (h3 : De k d3) (h4 : De j d4) : De (eP4 f g k j) (dP4 d1 d2 d3 d4) := fun v x q => by
  unfold dP4 at q
  split at q
  · obtain ⟨x1, a1, q⟩ := bind_some q
    obtain ⟨x2, a2, q⟩ := bind_some q
    obtain ⟨x3, a3, q⟩ := bind_some q
    obtain ⟨x4, a4, q⟩ := bind_some q
    cases q
    rw [h1 _ _ a1, h2 _ _ a2, h3 _ _ a3, h4 _ _ a4]
    rfl
  · cases q
theorem XP.de {Tb : Tbs} {X : Cx} {e : Expr} {ds : List Slot} {v : Dt} {x : α} {f : α → Dt} {d : Dt → Option α} (h : XP Tb X e ds v) (D : De f d) (q : d v = some x) : XP Tb X e ds (f x) := D v x q ▸ h
theorem XP.ta {Tb : Tbs} {X : Cx} {e : Expr} {ds : List Slot} {xs : List Dt} (h : XP Tb X e ds (eT eA xs)) : XP Tb X e ds (.tuple xs) := h.is (congrArg PyData.tuple (eA_id xs))
end
end Pk

set_option Elab.async false
set_option linter.all false
set_option maxRecDepth 100000
set_option maxHeartbeats 1000000
/-! GM: what the mirrors' operations answer. -/
namespace Pk
open PySem PySem.Spec PyProof.Rows L2 GxR
section
variable {α β S R : Type}
/-! ### an answer comes, and it is fine -/
def Ok (m : Option α) (Q : α → Prop) : Prop := ∃ x, m = some x ∧ Q x
theorem Ok.eq {m : Option α} {x : α} (h : Ok m (· = x)) : m = some x := by
  obtain ⟨y, e, rfl⟩ := h
  exact e
theorem ok_eq {m : Option α} {x : α} {Q : α → Prop} (h : m = some x) (q : Q x) : Ok m Q := ⟨x, h, q⟩
theorem ok_some {x : α} {Q : α → Prop} (q : Q x) : Ok (some x) Q := ⟨x, rfl, q⟩
theorem Ok.imp {m : Option α} {P Q : α → Prop} (h : Ok m P) (k : ∀ x, P x → Q x) : Ok m Q := by
  obtain ⟨x, e, p⟩ := h
  exact ⟨x, e, k x p⟩
theorem ok_bind {m : Option α} {g : α → Option β} {P : α → Prop} {Q : β → Prop} (h : Ok m P) (k : ∀ x, P x → Ok (g x) Q) : Ok (Option.bind m g) Q := by
  obtain ⟨x, rfl, p⟩ := h
  exact k x p
theorem ok_let {x : α} {g : α → Option β} {Q : β → Prop} (k : Ok (g x) Q) : Ok (Option.bind (some x) g) Q := k
theorem ok_is {m : Option α} {x : α} {g : α → Option β} {Q : β → Prop} (h : m = some x) (k : Ok (g x) Q) : Ok (Option.bind m g) Q := by
  subst h
  exact k
theorem ok_if {c : Bool} {m1 m2 : Option α} {Q : α → Prop} (h1 : c = true → Ok m1 Q) (h2 : c = false → Ok m2 Q) : Ok (if c = true then m1 else m2) Q := by
  cases c with
  | true => exact h1 rfl
  | false => exact h2 rfl
/-! ### loops -/
theorem forM_pure {f : α → S → Option S} {g : α → S → S} : ∀ {xs : List α} {s : S}, (∀ x, x ∈ xs → ∀ s, f x s = some (g x s)) → forM xs s f = some (xs.foldl (fun s x => g x s) s)
  | [], s, _ => rfl
  | x :: r, s, h => by
    unfold forM
    rw [h x List.mem_cons_self]
    exact forM_pure fun y hy => h y (List.mem_cons_of_mem _ hy)
theorem forM_inv {f : α → S → Option S} (P : Nat → S → Prop) {xs : List α} {s : S} (h0 : P 0 s) (h : ∀ i x s, xs[i]? = some x → P i s → ∃ s', f x s = some s' ∧ P (i + 1) s') : ∃ s', forM xs s f = some s' ∧ P xs.length s' := by
  induction xs generalizing s P with
  | nil => exact ⟨s, rfl, h0⟩
  | cons x r ih =>
    obtain ⟨s1, e1, p1⟩ := h 0 x s rfl h0
    obtain ⟨s2, e2, p2⟩ := ih (fun i => P (i + 1)) p1 fun i y s hy hp => h (i + 1) y s hy hp
    refine ⟨s2, ?_, p2⟩
    unfold forM
    rw [e1]
    exact e2
/-- a loop that is gone through to its end -/
theorem forF_inv {f : α → S → Option (Fl S R)} (P : Nat → S → Prop) {xs : List α} {s : S} (h0 : P 0 s) (h : ∀ i x s, xs[i]? = some x → P i s → ∃ s', f x s = some (.nx s') ∧ P (i + 1) s') : ∃ s', forF xs s f = some (.nx s') ∧ P xs.length s' := by
  induction xs generalizing s P with
  | nil => exact ⟨s, rfl, h0⟩
  | cons x r ih =>
    obtain ⟨s1, e1, p1⟩ := h 0 x s rfl h0
    obtain ⟨s2, e2, p2⟩ := ih (fun i => P (i + 1)) p1 fun i y s hy hp => h (i + 1) y s hy hp
    refine ⟨s2, ?_, p2⟩
    unfold forF
    rw [e1]
    exact e2
theorem forF_all {f : α → Unit → Option (Fl Unit R)} {xs : List α} (h : ∀ x, x ∈ xs → f x () = some (.nx ())) : forF xs () f = some (.nx ()) := by
  obtain ⟨_, e, _⟩ := forF_inv (f := f) (xs := xs) (s := ()) (fun _ _ => True) trivial fun i x s hx _ => ⟨(), h x (List.mem_of_getElem? hx), trivial⟩
  exact e
theorem compM_map {f : α → Option β} {xs : List α} {ys : List β} (h : ys.length = xs.length) (hf : ∀ (i : Nat) x y, xs[i]? = some x → ys[i]? = some y → f x = some y) : compM (fun _ => some true) f xs = some ys := by
  induction xs generalizing ys with
  | nil =>
    cases ys with
    | nil => rfl
    | cons y ys => cases h
  | cons x r ih =>
    cases ys with
    | nil => cases h
    | cons y ys =>
      unfold compM
      rw [hf 0 x y rfl rfl, ih (by simpa using h) fun i x y hx hy => hf (i + 1) x y hx hy]
      rfl
theorem compM_filt {p : α → Option Bool} {f : α → Option β} {q : α → Bool} {g : α → β} : ∀ {xs : List α}, (∀ x, x ∈ xs → p x = some (q x)) → (∀ x, x ∈ xs → q x = true → f x = some (g x)) → compM p f xs = some ((xs.filter q).map g)
  | [], _, _ => rfl
  | x :: r, h1, h2 => by
    have ih := compM_filt (xs := r) (fun y hy => h1 y (List.mem_cons_of_mem _ hy)) fun y hy => h2 y (List.mem_cons_of_mem _ hy)
    unfold compM
    rw [h1 x List.mem_cons_self, ih]
    cases hq : q x with
    | true =>
      rw [List.filter_cons_of_pos hq, h2 x List.mem_cons_self hq]
      rfl
    | false =>
      rw [List.filter_cons_of_neg (by rw [hq]; exact Bool.false_ne_true)]
      rfl
/-! while -/
theorem whM_inv {c : S → Option Bool} {f : S → Option S} (P : S → Prop) (m : S → Nat) {Q : S → Prop} {n : Nat} : ∀ {s : S}, P s → m s < n → (∀ s, P s → ∃ b, c s = some b ∧ (b = false → Q s) ∧ (b = true → ∃ s', f s = some s' ∧ P s' ∧ m s' < m s)) → ∃ s', whM c f n s = some s' ∧ Q s' := by
  induction n with
  | zero => intro s _ h; omega
  | succ n ih =>
    intro s hp hm h
    obtain ⟨b, hc, h1, h2⟩ := h s hp
    unfold whM
    rw [hc]
    cases b with
    | false => exact ⟨s, rfl, h1 rfl⟩
    | true =>
      obtain ⟨s', hf, hp', hm'⟩ := h2 rfl
      obtain ⟨s2, e, q⟩ := ih hp' (by omega) h
      refine ⟨s2, ?_, q⟩
      show (f s).bind _ = _
      rw [hf]
      exact e
theorem ok_forM {f : α → S → Option S} (P : Nat → S → Prop) {xs : List α} {s : S} (h0 : P 0 s) (h : ∀ i x s, xs[i]? = some x → P i s → Ok (f x s) (P (i + 1))) : Ok (forM xs s f) (P xs.length) := forM_inv P h0 h
theorem ok_forF {f : α → S → Option (Fl S R)} (P : Nat → S → Prop) {xs : List α} {s : S} (h0 : P 0 s) (h : ∀ i x s, xs[i]? = some x → P i s → Ok (f x s) fun o => ∃ s', o = .nx s' ∧ P (i + 1) s') : Ok (forF xs s f) fun o => ∃ s', o = .nx s' ∧ P xs.length s' := by
  obtain ⟨s', e, p⟩ := forF_inv (f := f) P h0 fun i x s hx hp => by
    obtain ⟨o, e, s', rfl, p⟩ := h i x s hx hp
    exact ⟨s', e, p⟩
  exact ⟨_, e, s', rfl, p⟩
theorem ok_on {m : Option (Fl S R)} {k : S → Option β} {inj : R → β} {P : S → Prop} {Q : β → Prop} (h : Ok m fun o => ∃ s', o = .nx s' ∧ P s') (hk : ∀ s, P s → Ok (k s) Q) : Ok (Option.bind m (on k inj)) Q := by
  obtain ⟨o, rfl, s, rfl, p⟩ := h
  exact hk s p
/-- a loop of checks -/
theorem ok_checks {f : α → Unit → Option (Fl Unit R)} {xs : List α} {k : Unit → Option β} {inj : R → β} {Q : β → Prop} (h : ∀ x, x ∈ xs → Ok (f x ()) (· = .nx ())) (hk : Ok (k ()) Q) : Ok (Option.bind (forF xs () f) (on k inj)) Q := by
  rw [forF_all fun x hx => (h x hx).eq]
  exact hk
theorem ok_whM {c : S → Option Bool} {f : S → Option S} (P : S → Prop) (m : S → Nat) {Q : S → Prop} {n : Nat} {s : S} (hp : P s) (hm : m s < n) (h : ∀ s, P s → Ok (c s) fun b => (b = false → Q s) ∧ (b = true → Ok (f s) fun s' => P s' ∧ m s' < m s)) : Ok (whM c f n s) Q :=
  whM_inv P m hp hm fun s hs => by
    obtain ⟨b, e, h1, h2⟩ := h s hs
    exact ⟨b, e, h1, fun z => by
      obtain ⟨s', e', p, q⟩ := h2 z
      exact ⟨s', e', p, q⟩⟩
/-! ### places -/
theorem idx_nat {xs : List α} {i : Nat} {x : α} (h : xs[i]? = some x) : idx xs (i : Int) = some x := by
  unfold idx
  rw [atI_of (by omega)]
  exact h
theorem idx_int {xs : List α} {i : Int} (h0 : 0 ≤ i) : idx xs i = xs[i.toNat]? := atI_of h0
theorem idx_neg {xs : List α} {k : Nat} (h : 0 < k) (hk : k ≤ xs.length) : idx xs (-(k : Int)) = xs[xs.length - k]? := by
  unfold idx atI ixN
  rw [if_neg (by omega), if_pos (by omega)]
  show xs[(-(k : Int) + (xs.length : Int)).toNat]? = _
  congr 1
  omega
theorem idx_last (xs : List α) : idx xs (-(1 : Int)) = xs.getLast? := by
  cases xs with
  | nil => rfl
  | cons x r =>
    have := idx_neg (xs := x :: r) (k := 1) (by omega) (by simp)
    rw [List.getLast?_eq_getElem?]
    exact this
theorem idx_lt {xs : List α} {i : Int} {x : α} (h : idx xs i = some x) : x ∈ xs := by
  unfold idx atI at h
  obtain ⟨j, _, h⟩ := bind_some h
  exact List.mem_of_getElem? h
theorem appM_ok {xs : List α} {x : α} (h : xs.length < LN) : appM xs x = some (xs ++ [x]) := if_pos h
theorem catM_ok {xs ys : List α} (h : xs.length + ys.length ≤ LN) : catM xs ys = some (xs ++ ys) := if_pos h
theorem rngM_ok {lo hi : Int} (h1 : -(2 ^ 62) ≤ lo ∧ lo < 2 ^ 62) (h2 : -(2 ^ 62) ≤ hi ∧ hi < 2 ^ 62) : rngM lo hi = some (rng lo hi) := if_pos (by
  unfold rngOk
  simp only [Bool.and_eq_true, decide_eq_true_eq]
  exact ⟨h1, h2⟩)
theorem rngC_ok {lo hi : Int} (h1 : -(2 ^ 62) ≤ lo ∧ lo < 2 ^ 62) (h2 : -(2 ^ 62) ≤ hi ∧ hi < 2 ^ 62) (h3 : hi - lo ≤ 1000000) : rngC lo hi = some (rng lo hi) := if_pos (by
  unfold rngOk rngLn
  simp only [Bool.and_eq_true, decide_eq_true_eq]
  exact ⟨h1, h2, h3⟩)
theorem modM_ok {i j : Int} (h : 0 < j) : modM i j = some (i % j) := if_pos (decide_eq_true h)
theorem divM_ok {i j : Int} (h : 0 < j) (h2 : j < 1073741824) : divM i j = some (i / j) := if_pos (by
  simp only [Bool.and_eq_true, decide_eq_true_eq]
  exact ⟨h, h2⟩)
theorem mulM_ok {i j : Int} (h : -(2 ^ 64) < i ∧ i < 2 ^ 64) : mulM i j = some (i * j) := if_pos (by
  unfold mulOk
  simp only [Bool.or_eq_true, Bool.and_eq_true, decide_eq_true_eq]
  exact .inl h)
theorem setI_nat {xs : List α} {i : Nat} {x : α} (h : i < xs.length) : setI xs (i : Int) x = some (xs.set i x) := by
  unfold setI ixN
  rw [if_pos (by omega), if_pos (by omega)]
  rfl
theorem rng_nat' (n : Nat) (i : Nat) : (rng 0 (n : Int))[i]? = if i < n then some (i : Int) else none := by
  by_cases h : i < n
  · rw [if_pos h, rng_get (by omega)]
    simp
  · rw [if_neg h, List.getElem?_eq_none (by rw [rng_len]; omega)]
/-! slices -/
theorem cut_to {xs : List α} {j : Nat} (h : j ≤ xs.length) : cut xs none (some (j : Int)) = xs.take j := by
  unfold cut
  rw [HT.sIx_none, HT.sIx_nat, Nat.min_eq_left h, List.drop_zero, Nat.sub_zero]
theorem cut_from {xs : List α} {j : Nat} (h : j ≤ xs.length) : cut xs (some (j : Int)) none = xs.drop j := by
  unfold cut
  rw [HT.sIx_none, HT.sIx_nat, Nat.min_eq_left h, List.take_of_length_le]
  rw [List.length_drop]
  omega
end
/-! ### the draws -/
theorem draws_ok (c n : Int) (h0 : 0 ≤ n) (hn : n ≤ 1000) : Ok (f_law_draws c n) fun ds => (ds.length : Int) = n ∧ ∀ d, d ∈ ds → 0 ≤ d ∧ d < 5040 := by
  unfold f_law_draws
  refine ok_let (ok_let (ok_is (rngM_ok (by omega) (by omega)) ?_))
  have hl : (rng 0 n).length = n.toNat := by rw [rng_len]; omega
  refine ok_bind (ok_forM (fun i s => s.2.length = i ∧ ∀ d, d ∈ s.2 → 0 ≤ d ∧ d < 5040) ⟨rfl, fun d h => by cases h⟩ fun i x s hx hp => ?_) fun s hp => ok_some ⟨by rw [hp.1]; omega, hp.2⟩
  have hi : i < (rng 0 n).length := (List.getElem?_eq_some_iff.mp hx).1
  have hl2 : s.2.length < LN := by show _ < 1000000; omega
  have fin : ∀ y : Int, 0 ≤ y ∧ y < 5040 → (s.2 ++ [y]).length = i + 1 ∧ ∀ d, d ∈ s.2 ++ [y] → 0 ≤ d ∧ d < 5040 := fun y hy => ⟨by simp [hp.1], fun d hd => by
    rcases List.mem_append.mp hd with hd | hd
    · exact hp.2 d hd
    · rw [List.mem_singleton.mp hd]
      exact hy⟩
  refine ok_if (fun _ => ?_) fun _ => ?_
  · exact ok_is (appM_ok hl2) (ok_let (ok_some (fin _ (by omega))))
  · exact ok_let (ok_is (mulM_ok (by omega)) (ok_let (ok_is (appM_ok hl2) (ok_some (fin _ (by omega))))))
theorem cell_ok (ns : List Int) (k : Int) (h : 0 ≤ k) : Ok (f_law_cell ns k) fun _ => True := by
  unfold f_law_cell
  refine ok_if (fun q => ?_) fun _ => ok_some trivial
  have := of_decide_eq_true q
  exact ok_is (by rw [idx_int h, List.getElem?_eq_getElem (by omega)]) (ok_some trivial)
/-- a draw -/
theorem draw_at {ds : List Int} {n i : Int} (hl : (ds.length : Int) = n) (hb : ∀ d, d ∈ ds → 0 ≤ d ∧ d < 5040) (h0 : 0 ≤ i) (hi : i < n) : Ok (idx ds i) fun d => 0 ≤ d ∧ d < 5040 := by
  rw [idx_int h0, List.getElem?_eq_getElem (by omega)]
  exact ⟨_, rfl, hb _ (List.getElem_mem _)⟩
end Pk

set_option Elab.async false
set_option linter.all false
set_option maxRecDepth 100000
set_option maxHeartbeats 4000000
namespace Pk
open PySem PySem.Spec PyProof.Rows L2 GxR
def f_way_down (streams_ : (List Int)) (k_ : Int) : Option (List Int) :=
 (Option.bind (whM (fun s1 => (some ((!decide (s1.1 = (-(1 : Int)))) && (!(decide (s1.1 ∈ s1.2)))))) (fun s1 =>
 (Option.bind (appM s1.2 s1.1) fun row_2 =>
 (Option.bind (idx streams_ s1.1) fun t3 =>
 (some (t3, row_2))))) 100000 (k_, [])) fun s1 =>
 (some s1.2))

def f_is_above (streams_ : (List Int)) (i_ : Int) (k_ : Int) : Option Bool :=
 (Option.bind (f_way_down streams_ i_) fun t1 =>
 (some (decide (k_ ∈ t1))))

def f_all_above (streams_ : (List Int)) (k_ : Int) : Option (List Int) :=
 (Option.bind (compM (fun x1 => (Option.bind (f_is_above streams_ x1 k_) fun t2 => (some t2))) (fun x1 => some x1) (rng 0 (streams_.length : Int))) fun t4 =>
 (some t4))

def f_order_of : Nat → (List Int) → Int → Option Int
  | 0, _, _ => none
  | n + 1, streams_, k_ =>
      (Option.bind (compM (fun x1 => some (decide (x1.2 = k_))) (fun x1 => (Option.bind (f_order_of n streams_ x1.1) fun t2 => (some t2))) (enu streams_)) fun t4 =>
 (Option.bind (some (srt ltI t4)) fun orders_in_5 =>
 (if (decide ((orders_in_5.length : Int) = (0 : Int))) = true then
 (some (1 : Int))
else
 (Option.bind (if (decide ((1 : Int) < (orders_in_5.length : Int))) = true then (Option.bind (idx orders_in_5 (-(2 : Int))) fun t6 => (Option.bind (idx orders_in_5 (-(1 : Int))) fun t7 => (some (decide (t6 = t7))))) else some false) fun t8 =>
 (if t8 = true then
 (Option.bind (idx orders_in_5 (-(1 : Int))) fun t11 =>
 (some (t11 + (1 : Int))))
else
 (Option.bind (idx orders_in_5 (-(1 : Int))) fun t12 =>
 (some t12)))))))

def f_orders (streams_ : (List Int)) : Option (List Int) :=
 (Option.bind (compM (fun _ => some true) (fun x1 => (Option.bind (f_order_of 20 streams_ x1) fun t2 => (some t2))) (rng 0 (streams_.length : Int))) fun t4 =>
 (some t4))

def f_fan : Nat → (List Int) → Int → Int → Option Dt
  | 0, _, _, _ => none
  | n + 1, streams_, k_, h_ =>
      (Option.bind (f_order_of 20 streams_ k_) fun t1 =>
 (if (decide (t1 < h_)) = true then
 (some (eN ()))
else
 (if (decide (h_ = (1 : Int))) = true then
 (some ((eT eI) [k_]))
else
 (Option.bind (f_all_above streams_ k_) fun t2 =>
 (Option.bind (forF (R := Dt) t2 () fun x4 s3 =>
 (Option.bind (compM (fun x5 => (Option.bind (if (decide (x5.2 = x4)) = true then (Option.bind (f_order_of 20 streams_ x5.1) fun t6 => (some (decide ((h_ - (1 : Int)) ≤ t6)))) else some false) fun t7 => (some t7))) (fun x5 => some x5.1) (enu streams_)) fun t10 =>
 (if (decide ((1 : Int) < (t10.length : Int))) = true then
 (Option.bind (idx t10 (0 : Int)) fun t11 =>
 (Option.bind (f_fan n streams_ t11 (h_ - (1 : Int))) fun t12 =>
 (Option.bind (idx t10 (1 : Int)) fun t13 =>
 (Option.bind (f_fan n streams_ t13 (h_ - (1 : Int))) fun t14 =>
 (some (Fl.rt ((eP3 eI eA eA) (x4, t12, t14))))))))
else
 (some (Fl.nx ()))))) (on (fun s3 =>
 (some (eN ()))) id))))))

def f_is_fan : Nat → (List Int) → Int → Int → Dt → Option Bool
  | 0, _, _, _, _ => none
  | n + 1, streams_, k_, h_, tree_ =>
      (Option.bind (idxA tree_ (0 : Int)) fun t1 =>
 (Option.bind (dI t1) fun t2 =>
 (Option.bind (if (!((decide ((0 : Int) ≤ t2)) && (decide (t2 < (streams_.length : Int))))) = true then some true else (Option.bind (idxA tree_ (0 : Int)) fun t3 => (Option.bind (dI t3) fun t4 => (Option.bind (f_is_above streams_ t4 k_) fun t5 => (some (!t5)))))) fun t6 =>
 (if t6 = true then
 (some false)
else
 (Option.bind (if (decide (h_ = (1 : Int))) = true then some true else (Option.bind (lenA tree_) fun t10 => (some (decide (t10 = (1 : Int)))))) fun t11 =>
 (if t11 = true then
 (Option.bind (if (decide (h_ = (1 : Int))) = true then (Option.bind (lenA tree_) fun t13 => (some (decide (t13 = (1 : Int))))) else some false) fun t14 =>
 (some t14))
else
 (Option.bind ((dP3 dA dA dA) tree_) fun t15 =>
 (Option.bind (dI t15.1) fun t16 =>
 (Option.bind (f_is_fan n streams_ t16 (h_ - (1 : Int)) t15.2.1) fun t17 =>
 (Option.bind (if (!t17) = true then some true else (Option.bind (dI t15.1) fun t18 => (Option.bind (f_is_fan n streams_ t18 (h_ - (1 : Int)) t15.2.2) fun t19 => (some (!t19))))) fun t20 =>
 (if t20 = true then
 (some false)
else
 (Option.bind (idxA t15.2.1 (0 : Int)) fun t23 =>
 (Option.bind (dI t23) fun t25 =>
 (Option.bind (idxA t15.2.2 (0 : Int)) fun t24 =>
 (Option.bind (dI t24) fun t26 =>
 (Option.bind (f_is_above streams_ t25 t26) fun t27 =>
 (Option.bind (if (!t27) = true then (Option.bind (idxA t15.2.2 (0 : Int)) fun t28 => (Option.bind (dI t28) fun t30 => (Option.bind (idxA t15.2.1 (0 : Int)) fun t29 => (Option.bind (dI t29) fun t31 => (Option.bind (f_is_above streams_ t30 t31) fun t32 => (some (!t32))))))) else some false) fun t33 =>
 (some t33))))))))))))))))))

def f_law_down (streams_ : (List Int)) (k_ : Int) : Option (List Int) :=
 (Option.bind (some [k_]) fun row_1 =>
 (Option.bind (forM (rng 0 (streams_.length : Int)) row_1 fun x3 s2 =>
 (Option.bind (idx s2 (-(1 : Int))) fun t4 =>
 (Option.bind (idx streams_ t4) fun t5 =>
 (Option.bind (if (!decide (t5 = ((0 : Int) - (1 : Int)))) = true then (Option.bind (idx s2 (-(1 : Int))) fun t6 => (Option.bind (idx streams_ t6) fun t7 => (some (!(decide (t7 ∈ s2)))))) else some false) fun t8 =>
 (if t8 = true then
 (Option.bind (idx s2 (-(1 : Int))) fun t11 =>
 (Option.bind (idx streams_ t11) fun t12 =>
 (Option.bind (appM s2 t12) fun row_13 =>
 (some row_13))))
else
 (some s2)))))) fun s2 =>
 (some s2)))

def f_law_streams (kind_ : Int) (draws_ : (List Int)) : Option (List Int) :=
 (Option.bind (idx draws_ (0 : Int)) fun t1 =>
 (Option.bind (idx [(6 : Int), (8 : Int), (4 : Int), (11 : Int), (3 : Int), (2 : Int), (1 : Int), (0 : Int)] (t1 % (8 : Int))) fun t2 =>
 (Option.bind (rngM 0 t2) fun t3 =>
 (Option.bind (forM t3 [] fun x5 s4 =>
 (Option.bind (idx draws_ ((1 : Int) + x5)) fun t6 =>
 (Option.bind (modM t6 (x5 + (1 : Int))) fun t7 =>
 (Option.bind (catM (cut s4 none (some t7)) [x5]) fun t8 =>
 (Option.bind (catM t8 (cut s4 (some t7) none)) fun t9 =>
 (some t9)))))) fun s4 =>
 (Option.bind (repM [((0 : Int) - (1 : Int))] t2) fun t10 =>
 (Option.bind (idx draws_ (26 : Int)) fun t11 =>
 (Option.bind (idx [(9 : Int), (2 : Int), (3 : Int)] (t11 % (3 : Int))) fun t12 =>
 (Option.bind (rngM (1 : Int) t2) fun t13 =>
 (Option.bind (forM t13 t10 fun x15 s14 =>
 (Option.bind (idx draws_ ((13 : Int) + x15)) fun t16 =>
 (Option.bind (modM t16 t12) fun t17 =>
 (Option.bind (some (max (0 : Int) ((x15 - (1 : Int)) - t17))) fun over_18 =>
 (Option.bind (idx draws_ ((13 : Int) + x15)) fun t19 =>
 (if (decide ((0 : Int) < ((t19 / (60 : Int)) % (9 : Int)))) = true then
 (Option.bind (idx s4 over_18) fun t20 =>
 (Option.bind (idx s4 x15) fun t21 =>
 (Option.bind (setI s14 t21 t20) fun found_22 =>
 (some found_22))))
else
 (some s14))))))) fun s14 =>
 (Option.bind (if ((decide (kind_ = (1 : Int))) && (decide ((1 : Int) < t2))) = true then
 (Option.bind (idx draws_ (27 : Int)) fun t34 =>
 (Option.bind (modM t34 (t2 - (1 : Int))) fun t35 =>
 (Option.bind (some ((2 : Int) + t35)) fun many_36 =>
 (Option.bind (rngM 0 many_36) fun t37 =>
 (Option.bind (forM t37 s14 fun x39 s38 =>
 (Option.bind (modM (x39 + (1 : Int)) many_36) fun t40 =>
 (Option.bind (idx s4 t40) fun t41 =>
 (Option.bind (idx s4 x39) fun t42 =>
 (Option.bind (setI s38 t42 t41) fun found_43 =>
 (some found_43)))))) fun s38 =>
 (some s38))))))
else
 (some s14)) fun s23 =>
 (Option.bind (if ((decide (kind_ = (2 : Int))) && (decide ((3 : Int) < t2))) = true then
 (Option.bind (idx s4 (1 : Int)) fun t57 =>
 (Option.bind (idx s4 (0 : Int)) fun t58 =>
 (Option.bind (setI s23 t58 t57) fun found_59 =>
 (Option.bind (idx s4 (0 : Int)) fun t60 =>
 (Option.bind (idx s4 (1 : Int)) fun t61 =>
 (Option.bind (setI found_59 t61 t60) fun found_62 =>
 (Option.bind (idx s4 (3 : Int)) fun t63 =>
 (Option.bind (idx s4 (2 : Int)) fun t64 =>
 (Option.bind (setI found_62 t64 t63) fun found_65 =>
 (Option.bind (idx s4 (2 : Int)) fun t66 =>
 (Option.bind (idx s4 (3 : Int)) fun t67 =>
 (Option.bind (setI found_65 t67 t66) fun found_68 =>
 (some found_68)))))))))))))
else
 (some s23)) fun s44 =>
 (some s44))))))))))))

def f_law_orders (streams_ : (List Int)) (downs_ : (List (List Int))) : Option (List Int) :=
 (Option.bind (some (streams_.length : Int)) fun size_1 =>
 (Option.bind (repM [(0 : Int)] size_1) fun t2 =>
 (Option.bind (rngM 0 (size_1 + (1 : Int))) fun t3 =>
 (Option.bind (forM t3 t2 fun x5 s4 =>
 (Option.bind (rngM 0 size_1) fun t6 =>
 (Option.bind (forM t6 s4 fun x8 s7 =>
 (Option.bind (idx downs_ x8) fun t9 =>
 (if (decide ((t9.length : Int) = ((size_1 + (1 : Int)) - x5))) = true then
 (Option.bind (rngC 0 size_1) fun t10 =>
 (Option.bind (compM (fun x11 => (Option.bind (idx streams_ x11) fun t12 => (some (decide (t12 = x8))))) (fun x11 => (Option.bind (idx s7 x11) fun t13 => (some t13))) t10) fun t16 =>
 (Option.bind (some (srt ltI t16)) fun into_17 =>
 (Option.bind (if (decide ((1 : Int) < (into_17.length : Int))) = true then (Option.bind (idx into_17 (-(2 : Int))) fun t18 => (Option.bind (idx into_17 (-(1 : Int))) fun t19 => (some (decide (t18 = t19))))) else some false) fun t20 =>
 (Option.bind (if (decide ((into_17.length : Int) = (0 : Int))) = true then (some (1 : Int)) else (Option.bind (idx into_17 (-(1 : Int))) fun t21 => (some (t21 + (if t20 = true then (1 : Int) else (0 : Int)))))) fun t22 =>
 (Option.bind (setI s7 x8 t22) fun found_23 =>
 (some found_23)))))))
else
 (some s7)))) fun s7 =>
 (some s7)))) fun s4 =>
 (some s4)))))

def f_law_is_tree : Nat → Dt → Int → Option Bool
  | 0, _, _ => none
  | n + 1, value_, h_ =>
      (Option.bind (if (!(isT (eA value_))) = true then some true else (Option.bind (lenA value_) fun t1 => (Option.bind (if (!(decide (t1 ∈ [((1 : Int), (3 : Int)).1, ((1 : Int), (3 : Int)).2]))) = true then some true else (Option.bind (idxA value_ (0 : Int)) fun t2 => (Option.bind (f_law_is_integer t2) fun t3 => (some (!t3))))) fun t4 => (some t4)))) fun t7 =>
 (if t7 = true then
 (some false)
else
 (Option.bind (lenA value_) fun t10 =>
 (if (decide (t10 = (1 : Int))) = true then
 (some true)
else
 (Option.bind (if (decide ((0 : Int) < h_)) = true then (Option.bind (idxA value_ (1 : Int)) fun t11 => (Option.bind (f_law_is_tree n t11 (h_ - (1 : Int))) fun t12 => (Option.bind (if t12 = true then (Option.bind (idxA value_ (2 : Int)) fun t13 => (Option.bind (f_law_is_tree n t13 (h_ - (1 : Int))) fun t14 => (some t14))) else some false) fun t15 => (some t15)))) else some false) fun t16 =>
 (some t16))))))

def f_law_fan : Nat → (List (List Int)) → Int → Int → Dt → Option Bool
  | 0, _, _, _, _ => none
  | n + 1, downs_, k_, h_, tree_ =>
      (Option.bind (idxA tree_ (0 : Int)) fun t1 =>
 (Option.bind (dI t1) fun t2 =>
 (Option.bind (if (!((decide ((0 : Int) ≤ t2)) && (decide (t2 < (downs_.length : Int))))) = true then some true else (Option.bind (idxA tree_ (0 : Int)) fun t3 => (Option.bind (dI t3) fun t4 => (Option.bind (idx downs_ t4) fun t5 => (some (!(decide (k_ ∈ t5)))))))) fun t6 =>
 (if t6 = true then
 (some false)
else
 (Option.bind (if (decide (h_ = (1 : Int))) = true then some true else (Option.bind (lenA tree_) fun t10 => (some (decide (t10 = (1 : Int)))))) fun t11 =>
 (if t11 = true then
 (Option.bind (if (decide (h_ = (1 : Int))) = true then (Option.bind (lenA tree_) fun t13 => (some (decide (t13 = (1 : Int))))) else some false) fun t14 =>
 (some t14))
else
 (Option.bind (idxA tree_ (1 : Int)) fun t15 =>
 (Option.bind (idxA tree_ (2 : Int)) fun t16 =>
 (Option.bind (idxA tree_ (0 : Int)) fun t17 =>
 (Option.bind (dI t17) fun t18 =>
 (Option.bind (f_law_fan n downs_ t18 (h_ - (1 : Int)) t15) fun t19 =>
 (Option.bind (if (!t19) = true then some true else (Option.bind (idxA tree_ (0 : Int)) fun t20 => (Option.bind (dI t20) fun t21 => (Option.bind (f_law_fan n downs_ t21 (h_ - (1 : Int)) t16) fun t22 => (some (!t22)))))) fun t23 =>
 (if t23 = true then
 (some false)
else
 (Option.bind (idxA t15 (0 : Int)) fun t27 =>
 (Option.bind (dI t27) fun t31 =>
 (Option.bind (idxA t16 (0 : Int)) fun t28 =>
 (Option.bind (dI t28) fun t29 =>
 (Option.bind (idx downs_ t29) fun t30 =>
 (Option.bind (if (!(decide (t31 ∈ t30))) = true then (Option.bind (idxA t16 (0 : Int)) fun t32 => (Option.bind (dI t32) fun t36 => (Option.bind (idxA t15 (0 : Int)) fun t33 => (Option.bind (dI t33) fun t34 => (Option.bind (idx downs_ t34) fun t35 => (some (!(decide (t36 ∈ t35))))))))) else some false) fun t37 =>
 (some t37))))))))))))))))))))

def f_law_trees : Nat → Dt → Int → Option (List Dt)
  | 0, _, _ => none
  | n + 1, tree_, odd_ =>
      (Option.bind ((dT dA) tree_) fun t1 =>
 (Option.bind (catM [(eI odd_)] (cut t1 (some (1 : Int)) none)) fun t2 =>
 (Option.bind (some [tree_, (PyData.tuple t2)]) fun rows_3 =>
 (Option.bind (lenA tree_) fun t4 =>
 (if (decide (t4 = (1 : Int))) = true then
 (Option.bind (idxA tree_ (0 : Int)) fun t5 =>
 (Option.bind (catM rows_3 [((eP3 eA eA eA) (t5, tree_, tree_))]) fun t6 =>
 (some t6)))
else
 (Option.bind (idxA tree_ (0 : Int)) fun t7 =>
 (Option.bind (idxA tree_ (2 : Int)) fun t8 =>
 (Option.bind (idxA tree_ (1 : Int)) fun t9 =>
 (Option.bind (idxA tree_ (1 : Int)) fun t10 =>
 (Option.bind (idxA tree_ (1 : Int)) fun t11 =>
 (Option.bind (idxA tree_ (1 : Int)) fun t12 =>
 (Option.bind (idxA tree_ (2 : Int)) fun t13 =>
 (Option.bind (catM rows_3 [(PyData.tuple [t7]), ((eP3 eA eA eA) (t7, t8, t9)), ((eP3 eA eA eA) (t7, t10, t11)), t12, ((eP3 eA eA eA) (t7, tree_, t13))]) fun t14 =>
 (Option.bind (idxA tree_ (1 : Int)) fun t15 =>
 (Option.bind (f_law_trees n t15 odd_) fun t16 =>
 (Option.bind (forM t16 t14 fun x18 s17 =>
 (Option.bind (idxA tree_ (2 : Int)) fun t19 =>
 (Option.bind (appM s17 ((eP3 eA eA eA) (t7, x18, t19))) fun rows_20 =>
 (some rows_20)))) fun s17 =>
 (Option.bind (idxA tree_ (2 : Int)) fun t21 =>
 (Option.bind (f_law_trees n t21 odd_) fun t22 =>
 (Option.bind (forM t22 s17 fun x24 s23 =>
 (Option.bind (idxA tree_ (1 : Int)) fun t25 =>
 (Option.bind (appM s23 ((eP3 eA eA eA) (t7, t25, x24))) fun rows_26 =>
 (some rows_26)))) fun s23 =>
 (some s23))))))))))))))))))))

def f_law_bush (draws_ : (List Int)) : Option (List Int) :=
 (Option.bind (idx draws_ (0 : Int)) fun t1 =>
 (Option.bind (idx [(7 : Int), (15 : Int), (3 : Int)] (t1 % (3 : Int))) fun t2 =>
 (Option.bind (rngC (1 : Int) t2) fun t3 =>
 (Option.bind (catM [((0 : Int) - (1 : Int))] (List.map (fun x4 => ((x4 - (1 : Int)) / (2 : Int))) t3)) fun t5 =>
 (Option.bind (idx draws_ (1 : Int)) fun t6 =>
 (Option.bind (if ((decide ((0 : Int) < (t6 % (3 : Int)))) && (decide (t2 < (15 : Int)))) = true then
 (Option.bind (idx draws_ (2 : Int)) fun t14 =>
 (Option.bind (modM t14 t2) fun t15 =>
 (Option.bind (idx draws_ (3 : Int)) fun t16 =>
 (Option.bind (catM t5 (cut [t15, t2, t2] none (some ((1 : Int) + (t16 % (3 : Int)))))) fun t17 =>
 (some t17)))))
else
 (Option.bind (idx draws_ (4 : Int)) fun t18 =>
 (Option.bind (some (cut t5 none (some (t2 - (t18 % (4 : Int)))))) fun found_19 =>
 (some found_19)))) fun s7 =>
 (some s7)))))))

def f_law_right (streams_ : (List Int)) (draws_ : (List Int)) : Option Bool :=
 (Option.bind (some (streams_.length : Int)) fun size_1 =>
 (Option.bind (rngC 0 size_1) fun t2 =>
 (Option.bind (compM (fun _ => some true) (fun x3 => (Option.bind (f_law_down streams_ x3) fun t4 => (some t4))) t2) fun t6 =>
 (Option.bind (f_law_orders streams_ t6) fun t7 =>
 (Option.bind (f_orders streams_) fun t8 =>
 (Option.bind (f_law_is 8 ((eT eI) t8) ((eT eI) t7)) fun t9 =>
 (if (!t9) = true then
 (some false)
else
 (Option.bind (rngM 0 size_1) fun t10 =>
 (Option.bind (forF (R := Bool) t10 () fun x12 s11 =>
 (Option.bind (some ((eT eI) [((0 : Int) - (1 : Int))])) fun last_13 =>
 (Option.bind (idx t7 x12) fun t14 =>
 (Option.bind (rngM (1 : Int) (t14 + (2 : Int))) fun t15 =>
 (Option.bind (forF (R := Bool) t15 last_13 fun x17 s16 =>
 (Option.bind (f_fan 8 streams_ x12 x17) fun t18 =>
 (Option.bind (idx t7 x12) fun t19 =>
 (if (!decide ((isN t18) = (decide (t19 < x17)))) = true then
 (some (Fl.rt false))
else
 (if (!(isN t18)) = true then
 (Option.bind (f_law_is_tree 9 t18 (6 : Int)) fun t20 =>
 (Option.bind (if (!t20) = true then some true else (Option.bind (f_law_fan 9 t6 x12 x17 t18) fun t21 => (some (!t21)))) fun t22 =>
 (if t22 = true then
 (some (Fl.rt false))
else
 (some (Fl.nx t18)))))
else
 (some (Fl.nx s16))))))) (on (fun s16 =>
 (Option.bind (idx draws_ (0 : Int)) fun t24 =>
 (Option.bind (if (!decide ((x12 % (3 : Int)) = (t24 % (3 : Int)))) = true then (Option.bind (idx t7 x12) fun t25 => (some (decide (t25 < (3 : Int))))) else some false) fun t26 =>
 (if t26 = true then
 (some (Fl.nx ()))
else
 (Option.bind (idx draws_ ((1 : Int) + (x12 % (8 : Int)))) fun t32 =>
 (Option.bind (modM t32 size_1) fun t33 =>
 (Option.bind (idx t6 x12) fun t34 =>
 (Option.bind (idx t34 (-(1 : Int))) fun t35 =>
 (Option.bind (idx draws_ ((2 : Int) + (x12 % (8 : Int)))) fun t36 =>
 (Option.bind (idx [t33, ((0 : Int) - (1 : Int)), size_1, (100000000000000000000 : Int), t35] ((t36 / (12 : Int)) % (5 : Int))) fun t37 =>
 (Option.bind (f_law_trees 9 s16 t37) fun t38 =>
 (Option.bind (forF (R := Bool) t38 () fun x40 s39 =>
 (Option.bind (idx t7 x12) fun t44 =>
 (Option.bind (idx t7 x12) fun t45 =>
 (Option.bind (idx t7 x12) fun t46 =>
 (Option.bind (forF (R := Bool) [t44, (max (1 : Int) (t45 - (1 : Int))), (t46 + (1 : Int))] () fun x48 s47 =>
 (Option.bind (f_is_fan 9 streams_ x12 x48 x40) fun t49 =>
 (Option.bind (f_law_fan 9 t6 x12 x48 x40) fun t50 =>
 (Option.bind (f_law_is 8 (eB t49) (eB t50)) fun t51 =>
 (if (!t51) = true then
 (some (Fl.rt false))
else
 (some (Fl.nx ()))))))) (on (fun s47 =>
 (some (Fl.nx ()))) Fl.rt)))))) (on (fun s39 =>
 (Option.bind (rngM 0 size_1) fun t52 =>
 (Option.bind (forF (R := Bool) t52 () fun x54 s53 =>
 (Option.bind (idx t7 x12) fun t55 =>
 (Option.bind (f_is_fan 9 streams_ x54 t55 s16) fun t56 =>
 (Option.bind (idx t7 x12) fun t57 =>
 (Option.bind (f_law_fan 9 t6 x54 t57 s16) fun t58 =>
 (Option.bind (f_law_is 8 (eB t56) (eB t58)) fun t59 =>
 (if (!t59) = true then
 (some (Fl.rt false))
else
 (Option.bind (f_is_fan 9 streams_ x12 (1 : Int) ((eT eI) [x54])) fun t60 =>
 (Option.bind (idx t6 x54) fun t61 =>
 (Option.bind (f_law_is 8 (eB t60) (eB (decide (x12 ∈ t61)))) fun t62 =>
 (if (!t62) = true then
 (some (Fl.rt false))
else
 (Option.bind (f_is_fan 9 streams_ x12 (1 : Int) ((eT eI) [(x54 - size_1)])) fun t63 =>
 (Option.bind (f_law_is 8 (eB t63) (eB false)) fun t64 =>
 (if (!t64) = true then
 (some (Fl.rt false))
else
 (Option.bind (idx draws_ (3 : Int)) fun t65 =>
 (Option.bind (modM t65 size_1) fun t66 =>
 (Option.bind (some (x12, [x54], [t66])) fun tree_67 =>
 (Option.bind (f_is_fan 9 streams_ x12 (2 : Int) ((eP3 eI (eT eI) (eT eI)) tree_67)) fun t68 =>
 (Option.bind (f_law_fan 9 t6 x12 (2 : Int) ((eP3 eI (eT eI) (eT eI)) tree_67)) fun t69 =>
 (Option.bind (f_law_is 8 (eB t68) (eB t69)) fun t70 =>
 (if (!t70) = true then
 (some (Fl.rt false))
else
 (some (Fl.nx ()))))))))))))))))))))))) (on (fun s53 =>
 (some (Fl.nx ()))) Fl.rt)))) Fl.rt))))))))))))) Fl.rt)))))) (on (fun s11 =>
 (some true)) id))))))))))

def f_law (script_ : (List Int)) : Option Bool :=
 (Option.bind (f_law_cell script_ (0 : Int)) fun t1 =>
 (Option.bind (f_law_draws t1 (20 : Int)) fun t2 =>
 (Option.bind (forF (R := Bool) (rng 0 2) () fun x4 s3 =>
 (Option.bind (f_law_cell script_ ((1 : Int) + x4)) fun t5 =>
 (Option.bind (f_law_draws t5 (30 : Int)) fun t6 =>
 (Option.bind (f_law_streams (0 : Int) t6) fun t7 =>
 (Option.bind (f_law_right t7 (cut t2 (some x4) none)) fun t8 =>
 (Option.bind (if (!t8) = true then some true else (Option.bind (f_law_bush (cut t2 (some ((5 : Int) + x4)) none)) fun t9 => (Option.bind (f_law_right t9 (cut t2 (some ((2 : Int) + x4)) none)) fun t10 => (some (!t10))))) fun t11 =>
 (if t11 = true then
 (some (Fl.rt false))
else
 (some (Fl.nx ()))))))))) (on (fun s3 =>
 (some true)) id))))

end Pk

set_option Elab.async false
set_option linter.all false
set_option maxRecDepth 100000
set_option maxHeartbeats 4000000
namespace Pk
open PySem PySem.Spec PyProof.Rows L2 GxR

def topS (i : Nat) : Stmt := PySem.Challenge.pw_placekeep_k64_whole_orders_or_fans.main.body.getD i (.Pass ⟨0, 0, 0, 0⟩)
theorem nm_k : (("k" : Str) == ("__debug__" : Str)) = false ∧ (("k" : Str) == ("__classdict__" : Str)) = false := by decide +kernel
theorem nm_row : (("row" : Str) == ("__debug__" : Str)) = false ∧ (("row" : Str) == ("__classdict__" : Str)) = false := by decide +kernel
theorem nm_streams : (("streams" : Str) == ("__debug__" : Str)) = false ∧ (("streams" : Str) == ("__classdict__" : Str)) = false := by decide +kernel
theorem nm_i : (("i" : Str) == ("__debug__" : Str)) = false ∧ (("i" : Str) == ("__classdict__" : Str)) = false := by decide +kernel
theorem nm_into : (("into" : Str) == ("__debug__" : Str)) = false ∧ (("into" : Str) == ("__classdict__" : Str)) = false := by decide +kernel
theorem nm_orders_in : (("orders_in" : Str) == ("__debug__" : Str)) = false ∧ (("orders_in" : Str) == ("__classdict__" : Str)) = false := by decide +kernel
theorem nm_h : (("h" : Str) == ("__debug__" : Str)) = false ∧ (("h" : Str) == ("__classdict__" : Str)) = false := by decide +kernel
theorem nm_one : (("one" : Str) == ("__debug__" : Str)) = false ∧ (("one" : Str) == ("__classdict__" : Str)) = false := by decide +kernel
theorem nm_great : (("great" : Str) == ("__debug__" : Str)) = false ∧ (("great" : Str) == ("__classdict__" : Str)) = false := by decide +kernel
theorem nm_tree : (("tree" : Str) == ("__debug__" : Str)) = false ∧ (("tree" : Str) == ("__classdict__" : Str)) = false := by decide +kernel
theorem nm_head : (("head" : Str) == ("__debug__" : Str)) = false ∧ (("head" : Str) == ("__classdict__" : Str)) = false := by decide +kernel
theorem nm_other : (("other" : Str) == ("__debug__" : Str)) = false ∧ (("other" : Str) == ("__classdict__" : Str)) = false := by decide +kernel
theorem nm_script : (("script" : Str) == ("__debug__" : Str)) = false ∧ (("script" : Str) == ("__classdict__" : Str)) = false := by decide +kernel
theorem nm_cell : (("cell" : Str) == ("__debug__" : Str)) = false ∧ (("cell" : Str) == ("__classdict__" : Str)) = false := by decide +kernel
theorem nm_rest : (("rest" : Str) == ("__debug__" : Str)) = false ∧ (("rest" : Str) == ("__classdict__" : Str)) = false := by decide +kernel
theorem nm_many : (("many" : Str) == ("__debug__" : Str)) = false ∧ (("many" : Str) == ("__classdict__" : Str)) = false := by decide +kernel
theorem nm_digits : (("digits" : Str) == ("__debug__" : Str)) = false ∧ (("digits" : Str) == ("__classdict__" : Str)) = false := by decide +kernel
theorem nm_draws : (("draws" : Str) == ("__debug__" : Str)) = false ∧ (("draws" : Str) == ("__classdict__" : Str)) = false := by decide +kernel
theorem nm_seed : (("seed" : Str) == ("__debug__" : Str)) = false ∧ (("seed" : Str) == ("__classdict__" : Str)) = false := by decide +kernel
theorem nm_mixed : (("mixed" : Str) == ("__debug__" : Str)) = false ∧ (("mixed" : Str) == ("__classdict__" : Str)) = false := by decide +kernel
theorem nm_value : (("value" : Str) == ("__debug__" : Str)) = false ∧ (("value" : Str) == ("__classdict__" : Str)) = false := by decide +kernel
theorem nm_due : (("due" : Str) == ("__debug__" : Str)) = false ∧ (("due" : Str) == ("__classdict__" : Str)) = false := by decide +kernel
theorem nm_at : (("at" : Str) == ("__debug__" : Str)) = false ∧ (("at" : Str) == ("__classdict__" : Str)) = false := by decide +kernel
theorem nm_size : (("size" : Str) == ("__debug__" : Str)) = false ∧ (("size" : Str) == ("__classdict__" : Str)) = false := by decide +kernel
theorem nm_names : (("names" : Str) == ("__debug__" : Str)) = false ∧ (("names" : Str) == ("__classdict__" : Str)) = false := by decide +kernel
theorem nm_place : (("place" : Str) == ("__debug__" : Str)) = false ∧ (("place" : Str) == ("__classdict__" : Str)) = false := by decide +kernel
theorem nm_wide : (("wide" : Str) == ("__debug__" : Str)) = false ∧ (("wide" : Str) == ("__classdict__" : Str)) = false := by decide +kernel
theorem nm_over : (("over" : Str) == ("__debug__" : Str)) = false ∧ (("over" : Str) == ("__classdict__" : Str)) = false := by decide +kernel
theorem nm_found : (("found" : Str) == ("__debug__" : Str)) = false ∧ (("found" : Str) == ("__classdict__" : Str)) = false := by decide +kernel
theorem nm_kind : (("kind" : Str) == ("__debug__" : Str)) = false ∧ (("kind" : Str) == ("__classdict__" : Str)) = false := by decide +kernel
theorem nm_downs : (("downs" : Str) == ("__debug__" : Str)) = false ∧ (("downs" : Str) == ("__classdict__" : Str)) = false := by decide +kernel
theorem nm_deep : (("deep" : Str) == ("__debug__" : Str)) = false ∧ (("deep" : Str) == ("__classdict__" : Str)) = false := by decide +kernel
theorem nm_more : (("more" : Str) == ("__debug__" : Str)) = false ∧ (("more" : Str) == ("__classdict__" : Str)) = false := by decide +kernel
theorem nm_odd : (("odd" : Str) == ("__debug__" : Str)) = false ∧ (("odd" : Str) == ("__classdict__" : Str)) = false := by decide +kernel
theorem nm_rows : (("rows" : Str) == ("__debug__" : Str)) = false ∧ (("rows" : Str) == ("__classdict__" : Str)) = false := by decide +kernel
theorem nm_part : (("part" : Str) == ("__debug__" : Str)) = false ∧ (("part" : Str) == ("__classdict__" : Str)) = false := by decide +kernel
theorem nm_last : (("last" : Str) == ("__debug__" : Str)) = false ∧ (("last" : Str) == ("__classdict__" : Str)) = false := by decide +kernel
abbrev s_way_down : Stmt := topS 1
def Ns_way_down : List Str := ["streams", "k", "row"]
theorem scs_way_down : FnScope Ns_way_down ["streams", "k"] (defScope s_way_down) := ⟨rfl, rfl, rfl, by decide +kernel, rfl, by decide +kernel, by decide +kernel⟩
theorem cts_way_down {P : Program} {w : World} {K : Frag} {mg : Str → Option Value} {base : Heap} {k : Nat} {Tb : Tbs} {X : Cx} (hX : Fx P w K mg base Ns_way_down (defScope s_way_down) k X) (streams_ : (List Int)) (k_ : Int) :
    BM Tb X (defBody s_way_down) [.fz ((eT eI) streams_), .fz (eI k_), .any] (JR (fun r => Ro.ow (Ob.lst (List.map eI r)))) (f_way_down streams_ k_) := by
  have A0 : At X "streams" 0 := hX.at rfl (by first | exact .inl rfl | exact .inr rfl) nm_streams.1 nm_streams.2
  have A1 : At X "k" 1 := hX.at rfl (by first | exact .inl rfl | exact .inr rfl) nm_k.1 nm_k.2
  have T1 : Tg X "k" 1 := hX.tg rfl (by first | exact .inl rfl | exact .inr rfl)
  have A2 : At X "row" 2 := hX.at rfl (by first | exact .inl rfl | exact .inr rfl) nm_row.1 nm_row.2
  have T2 : Tg X "row" 2 := hX.tg rfl (by first | exact .inl rfl | exact .inr rfl)
  unfold f_way_down
  exact (bm_st (fun _ q => xs_setO T2 (xo_lst xa_nil (lnK 0)) q) (ds' := [.fz ((eT eI) streams_), .fz (eI k_), .ow (.lst (List.map eI []))])
 (bm_whileM (slots := (fun (s1 : Int × (List Int)) => [.fz ((eT eI) streams_), .fz (eI s1.1), .ow (.lst (List.map eI s1.2))])) (s0 := (k_, [])) hX.bse (Sub.s (Sub.s (Sub.s Sub.n))) (fun s1 => (xtm_some (xt_w (xw_and (xt_cmp opd_neI (XP.r (xp_var A1 rfl)) (XP.r (xp_un und_neg (XP.r xp_int))) (nomark _)) (fun _ => (xw_and1 (xt_cmp (OpD.is (opd_niL hX.deep (Pl.ok plI (by decide) _) (Pl.oks plI (by decide) _)) (congrArg (fun z => PyData.bool (!z)) (inDs_map eqI _ _))) (XP.r (xp_var A1 rfl)) (xr_own A2 rfl) rfl))))))) (fun s1 _ => bm_map
 (bm_bind fun row_2 hrow_2 =>
 (bm_st (fun _ q => app_st hrow_2 A2 rfl (xp_var A1 rfl) q) (ds' := [.fz ((eT eI) streams_), .fz (eI s1.1), .ow (.lst (List.map eI row_2))])
 (bm_bind fun t3 ht3 =>
 (bm_st (fun _ q => xs_set T1 (xq_ixT (f := eI) (XP.r (xp_var A0 rfl)) (xp_var A1 rfl) ht3) q) (ds' := [.fz ((eT eI) streams_), .fz (eI t3), .ow (.lst (List.map eI row_2))])
 (bm_endM (s := (t3, row_2)) (Sub.s (Sub.s (Sub.s Sub.n))))))))) (fun s1 =>
 (bm_retJ (o' := s1.2) rfl (fun _ q => xs_retV A2 rfl q)))))

abbrev s_is_above : Stmt := topS 2
def Ns_is_above : List Str := ["streams", "i", "k"]
theorem scs_is_above : FnScope Ns_is_above ["streams", "i", "k"] (defScope s_is_above) := ⟨rfl, rfl, rfl, by decide +kernel, rfl, by decide +kernel, by decide +kernel⟩
theorem cts_is_above {P : Program} {w : World} {K : Frag} {mg : Str → Option Value} {base : Heap} {k : Nat} {Tb : Tbs} {X : Cx} (hX : Fx P w K mg base Ns_is_above (defScope s_is_above) k X) (streams_ : (List Int)) (i_ : Int) (k_ : Int)
    (F_way_down : Fn Tb X "way_down" 2 (fun ds ro => ∃ (a0 : (List Int)) (a1 : Int) (r : (List Int)), ds = [(eT eI) a0, eI a1] ∧ ro = Ro.ow (Ob.lst (List.map eI r)) ∧ f_way_down a0 a1 = some r)) :
    BM Tb X (defBody s_is_above) [.fz ((eT eI) streams_), .fz (eI i_), .fz (eI k_)] (JR (fun r => Ro.fz (eB r))) (f_is_above streams_ i_ k_) := by
  have A0 : At X "streams" 0 := hX.at rfl (by first | exact .inl rfl | exact .inr rfl) nm_streams.1 nm_streams.2
  have A1 : At X "i" 1 := hX.at rfl (by first | exact .inl rfl | exact .inr rfl) nm_i.1 nm_i.2
  have A2 : At X "k" 2 := hX.at rfl (by first | exact .inl rfl | exact .inr rfl) nm_k.1 nm_k.2
  unfold f_is_above
  exact (bm_bind fun t1 ht1 =>
 (bm_retJ (o' := (decide (k_ ∈ t1))) rfl (fun _ q => xs_ret (xp_cmp (OpD.is (opd_inL hX.deep (Pl.ok plI (by decide) _) (Pl.oks plI (by decide) _)) (congrArg PyData.bool (inDs_map eqI _ _))) (XP.r (xp_var A2 rfl)) (XO.r (xo_call F_way_down (xa_cons (xp_var A0 rfl) (xa_cons (xp_var A1 rfl) xa_nil)) ⟨_, _, _, rfl, rfl, ht1⟩)) rfl) q)))

abbrev s_all_above : Stmt := topS 3
def Ns_all_above : List Str := ["streams", "k", "i"]
theorem scs_all_above : FnScope Ns_all_above ["streams", "k"] (defScope s_all_above) := ⟨rfl, rfl, rfl, by decide +kernel, rfl, by decide +kernel, by decide +kernel⟩
theorem cts_all_above {P : Program} {w : World} {K : Frag} {mg : Str → Option Value} {base : Heap} {k : Nat} {Tb : Tbs} {X : Cx} (hX : Fx P w K mg base Ns_all_above (defScope s_all_above) k X) (streams_ : (List Int)) (k_ : Int)
    (B_len : Bn X "len" (.builtin "len"))
    (B_range : Bn X "range" (.type "range"))
    (B_tuple : Bn X "tuple" (.type "tuple"))
    (F0_is_above : Fn0 Tb X "is_above" 3 (fun ds ro => ∃ (a0 : (List Int)) (a1 : Int) (a2 : Int) (r : Bool), ds = [(eT eI) a0, eI a1, eI a2] ∧ ro = Ro.fz (eB r) ∧ f_is_above a0 a1 a2 = some r)) :
    BM Tb X (defBody s_all_above) [.fz ((eT eI) streams_), .fz (eI k_), .any] (JR (fun r => Ro.fz ((eT eI) r))) (f_all_above streams_ k_) := by
  have A0 : At X "streams" 0 := hX.at rfl (by first | exact .inl rfl | exact .inr rfl) nm_streams.1 nm_streams.2
  have A1 : At X "k" 1 := hX.at rfl (by first | exact .inl rfl | exact .inr rfl) nm_k.1 nm_k.2
  have n2 : X.N[2]? = some ("i" : Str) := by rw [hX.N]; rfl
  unfold f_all_above
  exact (bm_bind fun t4 ht4 =>
 (bm_retJ (o' := t4) rfl (fun _ q => xs_ret (xp_callTy B_tuple cad_tupL (xar_cons (XO.r (xo_lc (own := [("i", 2)]) hX.bse (by rw [hX.N, hX.sc]; exact blkOk_by (own := [("i", 2)]) (by decide +kernel)) (show Lc Tb _ _ _ _ _ _ _ _ _ eI eI (fun x1 => (Option.bind (f_is_above streams_ x1 k_) fun t2 => (some t2))) (fun x1 => some x1) (fun x1 => [.fz ((eT eI) streams_), .fz (eI k_), .fz (eI x1)]) [2] from ⟨(XI.is (xi_rngT B_range B_len (XP.r (xp_var A0 rfl))) (rngl_map eI streams_)), (by decide), fun x1 _ _ _ _ _ => (xg_name (Tg.own hX.bse n2 (.inl rfl))), fun x1 _ _ _ _ _ _ hb => (let ⟨t2, ht2, q3⟩ := bind_some hb; xts_one (XT.is (xt_val (xp_call (Fn0.blk F0_is_above rfl) (xa_cons (xp_var (At.blk A0 rfl) rfl) (xa_cons (xp_var (At.own n2 (.inl rfl) nm_i.1 nm_i.2) rfl) (xa_cons (xp_var (At.blk A1 rfl) rfl) xa_nil))) ⟨_, _, _, _, rfl, rfl, ht2⟩)) (Option.some.inj q3))), fun x1 _ _ _ _ _ _ _ hb => (by cases hb; exact (xp_var (At.own n2 (.inl rfl) nm_i.1 nm_i.2) rfl))⟩) ht4)) xar_nil)) q)))

abbrev s_order_of : Stmt := topS 4
def Ns_order_of : List Str := ["streams", "k", "orders_in", "i", "into"]
theorem scs_order_of : FnScope Ns_order_of ["streams", "k"] (defScope s_order_of) := ⟨rfl, rfl, rfl, by decide +kernel, rfl, by decide +kernel, by decide +kernel⟩
theorem cts_order_of {P : Program} {w : World} {K : Frag} {mg : Str → Option Value} {base : Heap} {k : Nat} {Tb : Tbs} {X : Cx} (hX : Fx P w K mg base Ns_order_of (defScope s_order_of) k X) (n : Nat) (streams_ : (List Int)) (k_ : Int)
    (B_enumerate : Bn X "enumerate" (.type "enumerate"))
    (B_len : Bn X "len" (.builtin "len"))
    (B_sorted : Bn X "sorted" (.builtin "sorted"))
    (F0_order_of : Fn0 Tb X "order_of" 2 (fun ds ro => ∃ (a0 : (List Int)) (a1 : Int) (r : Int), ds = [(eT eI) a0, eI a1] ∧ ro = Ro.fz (eI r) ∧ f_order_of n a0 a1 = some r)) :
    BM Tb X (defBody s_order_of) [.fz ((eT eI) streams_), .fz (eI k_), .any, .any, .any] (JR (fun r => Ro.fz (eI r))) (f_order_of (n + 1) streams_ k_) := by
  have A0 : At X "streams" 0 := hX.at rfl (by first | exact .inl rfl | exact .inr rfl) nm_streams.1 nm_streams.2
  have A1 : At X "k" 1 := hX.at rfl (by first | exact .inl rfl | exact .inr rfl) nm_k.1 nm_k.2
  have A2 : At X "orders_in" 2 := hX.at rfl (by first | exact .inl rfl | exact .inr rfl) nm_orders_in.1 nm_orders_in.2
  have T2 : Tg X "orders_in" 2 := hX.tg rfl (by first | exact .inl rfl | exact .inr rfl)
  have n3 : X.N[3]? = some ("i" : Str) := by rw [hX.N]; rfl
  have n4 : X.N[4]? = some ("into" : Str) := by rw [hX.N]; rfl
  unfold f_order_of
  exact (bm_bind fun t4 ht4 =>
 (bm_bind fun orders_in_5 horders_in_5 =>
 (bm_st (fun _ q => xs_set T2 (XP.is (XO.p (XO.is (xo_callB B_sorted (cao_sorted hX.deep (Sb.ok sbI lkI plI (by decide) _)) (xar_cons (XO.r (xo_lc (own := [("i", 3), ("into", 4)]) hX.bse (by rw [hX.N, hX.sc]; exact blkOk_by (own := [("i", 3), ("into", 4)]) (by decide +kernel)) (show Lc Tb _ _ _ _ _ _ _ _ _ (eP2 eI eI) eI (fun x1 => some (decide (x1.2 = k_))) (fun x1 => (Option.bind (f_order_of n streams_ x1.1) fun t2 => (some t2))) (fun x1 => [.fz ((eT eI) streams_), .fz (eI k_), .any, .fz (eI x1.1), .fz (eI x1.2)]) [3, 4] from ⟨(XI.is (xi_enuT hX.bse B_enumerate (XP.r (xp_var A0 rfl))) (enu_map eI streams_)), (by decide), fun x1 _ _ _ _ _ => (xg_tup (Bse.blk hX.bse).calm (xgs_cons (xg_name (Tg.own hX.bse n3 (.inl rfl))) (xgs_cons (xg_name (Tg.own hX.bse n4 (.inl rfl))) xgs_nil))), fun x1 _ _ _ _ _ _ hb => (by cases hb; exact xts_one (xt_cmp opd_eqI (XP.r (xp_var (At.own n4 (.inl rfl) nm_into.1 nm_into.2) rfl)) (XP.r (xp_var (At.blk A1 rfl) rfl)) (nomark _))), fun x1 _ _ _ _ _ _ _ hb => (let ⟨t2, ht2, q3⟩ := bind_some hb; (XP.is (xp_call (Fn0.blk F0_order_of rfl) (xa_cons (xp_var (At.blk A0 rfl) rfl) (xa_cons (xp_var (At.own n3 (.inl rfl) nm_i.1 nm_i.2) rfl) xa_nil)) ⟨_, _, _, rfl, rfl, ht2⟩) (congrArg eI (Option.some.inj q3))))⟩) ht4)) xar_nil)) (congrArg Ob.lst (srt_map ltI_ _)))) (congrArg (eL eI) (Option.some.inj horders_in_5))) q) (ds' := [.fz ((eT eI) streams_), .fz (eI k_), .fz ((eL eI) orders_in_5), .any, .any])
 (bm_if (xt_cmp opd_eqI (XP.r (XP.is (xp_callB B_len cad_lenL (xar_cons (XP.r (xp_var A2 rfl)) xar_nil)) (len_map eI orders_in_5))) (XP.r xp_int) (nomark _)) (fun _ =>
 (bm_retJ (o' := (1 : Int)) rfl (fun _ q => xs_ret xp_int q))) (fun _ =>
 (bm_end (bm_bind fun t8 ht8 =>
 (bm_if (xt_w (xw_andM (xt_cmp opd_gt (XP.r (XP.is (xp_callB B_len cad_lenL (xar_cons (XP.r (xp_var A2 rfl)) xar_nil)) (len_map eI orders_in_5))) (XP.r xp_int) (nomark _)) (fun _ => (fun z hz => (let ⟨t6, ht6, q9⟩ := bind_some hz; (let ⟨t7, ht7, q10⟩ := bind_some q9; (XW.is (xw_and1 (xt_cmp opd_eqI (XP.r (xq_ixL (f := eI) (XP.r (xp_var A2 rfl)) (xp_un und_neg (XP.r xp_int)) ht6)) (XP.r (xq_ixL (f := eI) (XP.r (xp_var A2 rfl)) (xp_un und_neg (XP.r xp_int)) ht7)) (nomark _))) (Option.some.inj q10)))))) ht8)) (fun _ =>
 (bm_bind fun t11 ht11 =>
 (bm_retJ (o' := (t11 + (1 : Int))) rfl (fun _ q => xs_ret (xp_bin opd_add (XP.r (xq_ixL (f := eI) (XP.r (xp_var A2 rfl)) (xp_un und_neg (XP.r xp_int)) ht11)) (XP.r xp_int)) q)))) (fun _ =>
 (bm_end (bm_bind fun t12 ht12 =>
 (bm_retJ (o' := t12) rfl (fun _ q => xs_ret (xq_ixL (f := eI) (XP.r (xp_var A2 rfl)) (xp_un und_neg (XP.r xp_int)) ht12) q)))))))))))))

abbrev s_orders : Stmt := topS 5
def Ns_orders : List Str := ["streams", "k"]
theorem scs_orders : FnScope Ns_orders ["streams"] (defScope s_orders) := ⟨rfl, rfl, rfl, by decide +kernel, rfl, by decide +kernel, by decide +kernel⟩
theorem cts_orders {P : Program} {w : World} {K : Frag} {mg : Str → Option Value} {base : Heap} {k : Nat} {Tb : Tbs} {X : Cx} (hX : Fx P w K mg base Ns_orders (defScope s_orders) k X) (streams_ : (List Int))
    (B_len : Bn X "len" (.builtin "len"))
    (B_range : Bn X "range" (.type "range"))
    (B_tuple : Bn X "tuple" (.type "tuple"))
    (F0_order_of : Fn0 Tb X "order_of" 2 (fun ds ro => ∃ (a0 : (List Int)) (a1 : Int) (r : Int), ds = [(eT eI) a0, eI a1] ∧ ro = Ro.fz (eI r) ∧ f_order_of 20 a0 a1 = some r)) :
    BM Tb X (defBody s_orders) [.fz ((eT eI) streams_), .any] (JR (fun r => Ro.fz ((eT eI) r))) (f_orders streams_) := by
  have A0 : At X "streams" 0 := hX.at rfl (by first | exact .inl rfl | exact .inr rfl) nm_streams.1 nm_streams.2
  have n1 : X.N[1]? = some ("k" : Str) := by rw [hX.N]; rfl
  unfold f_orders
  exact (bm_bind fun t4 ht4 =>
 (bm_retJ (o' := t4) rfl (fun _ q => xs_ret (xp_callTy B_tuple cad_tupL (xar_cons (XO.r (xo_lc (own := [("k", 1)]) hX.bse (by rw [hX.N, hX.sc]; exact blkOk_by (own := [("k", 1)]) (by decide +kernel)) (show Lc Tb _ _ _ _ _ _ _ _ _ eI eI (fun _ => some true) (fun x1 => (Option.bind (f_order_of 20 streams_ x1) fun t2 => (some t2))) (fun x1 => [.fz ((eT eI) streams_), .fz (eI x1)]) [1] from ⟨(XI.is (xi_rngT B_range B_len (XP.r (xp_var A0 rfl))) (rngl_map eI streams_)), (by decide), fun x1 _ _ _ _ _ => (xg_name (Tg.own hX.bse n1 (.inl rfl))), fun _ _ _ _ _ _ _ hb => (by cases hb; exact xts_nil), fun x1 _ _ _ _ _ _ _ hb => (let ⟨t2, ht2, q3⟩ := bind_some hb; (XP.is (xp_call (Fn0.blk F0_order_of rfl) (xa_cons (xp_var (At.blk A0 rfl) rfl) (xa_cons (xp_var (At.own n1 (.inl rfl) nm_k.1 nm_k.2) rfl) xa_nil)) ⟨_, _, _, rfl, rfl, ht2⟩) (congrArg eI (Option.some.inj q3))))⟩) ht4)) xar_nil)) q)))

abbrev s_fan : Stmt := topS 6
def Ns_fan : List Str := ["streams", "k", "h", "i", "great", "one", "into"]
theorem scs_fan : FnScope Ns_fan ["streams", "k", "h"] (defScope s_fan) := ⟨rfl, rfl, rfl, by decide +kernel, rfl, by decide +kernel, by decide +kernel⟩
theorem cts_fan {P : Program} {w : World} {K : Frag} {mg : Str → Option Value} {base : Heap} {k : Nat} {Tb : Tbs} {X : Cx} (hX : Fx P w K mg base Ns_fan (defScope s_fan) k X) (n : Nat) (streams_ : (List Int)) (k_ : Int) (h_ : Int)
    (B_enumerate : Bn X "enumerate" (.type "enumerate"))
    (B_len : Bn X "len" (.builtin "len"))
    (F_all_above : Fn Tb X "all_above" 2 (fun ds ro => ∃ (a0 : (List Int)) (a1 : Int) (r : (List Int)), ds = [(eT eI) a0, eI a1] ∧ ro = Ro.fz ((eT eI) r) ∧ f_all_above a0 a1 = some r))
    (F_fan : Fn Tb X "fan" 3 (fun ds ro => ∃ (a0 : (List Int)) (a1 : Int) (a2 : Int) (r : Dt), ds = [(eT eI) a0, eI a1, eI a2] ∧ ro = Ro.fz (eA r) ∧ f_fan n a0 a1 a2 = some r))
    (F_order_of : Fn Tb X "order_of" 2 (fun ds ro => ∃ (a0 : (List Int)) (a1 : Int) (r : Int), ds = [(eT eI) a0, eI a1] ∧ ro = Ro.fz (eI r) ∧ f_order_of 20 a0 a1 = some r))
    (F0_order_of : Fn0 Tb X "order_of" 2 (fun ds ro => ∃ (a0 : (List Int)) (a1 : Int) (r : Int), ds = [(eT eI) a0, eI a1] ∧ ro = Ro.fz (eI r) ∧ f_order_of 20 a0 a1 = some r)) :
    BM Tb X (defBody s_fan) [.fz ((eT eI) streams_), .fz (eI k_), .fz (eI h_), .any, .any, .any, .any] (JR (fun r => Ro.fz (eA r))) (f_fan (n + 1) streams_ k_ h_) := by
  have A0 : At X "streams" 0 := hX.at rfl (by first | exact .inl rfl | exact .inr rfl) nm_streams.1 nm_streams.2
  have A1 : At X "k" 1 := hX.at rfl (by first | exact .inl rfl | exact .inr rfl) nm_k.1 nm_k.2
  have A2 : At X "h" 2 := hX.at rfl (by first | exact .inl rfl | exact .inr rfl) nm_h.1 nm_h.2
  have A3 : At X "i" 3 := hX.at rfl (by first | exact .inl rfl | exact .inr rfl) nm_i.1 nm_i.2
  have T3 : Tg X "i" 3 := hX.tg rfl (by first | exact .inl rfl | exact .inr rfl)
  have n4 : X.N[4]? = some ("great" : Str) := by rw [hX.N]; rfl
  have A4 : At X "great" 4 := hX.at rfl (by first | exact .inl rfl | exact .inr rfl) nm_great.1 nm_great.2
  have n5 : X.N[5]? = some ("one" : Str) := by rw [hX.N]; rfl
  have n6 : X.N[6]? = some ("into" : Str) := by rw [hX.N]; rfl
  have L4 : X.env.scope.names.lookup ("great" : Str) = some .local := by rw [hX.sc]; rfl
  unfold f_fan
  exact (bm_bind fun t1 ht1 =>
 (bm_if (xt_cmp opd_lt (XP.r (xp_call F_order_of (xa_cons (xp_var A0 rfl) (xa_cons (xp_var A1 rfl) xa_nil)) ⟨_, _, _, rfl, rfl, ht1⟩)) (XP.r (xp_var A2 rfl)) (nomark _)) (fun _ =>
 (bm_retJ (o' := (eN ())) rfl (fun _ q => xs_ret xp_non q))) (fun _ =>
 (bm_end (bm_if (xt_cmp opd_eqI (XP.r (xp_var A2 rfl)) (XP.r xp_int) (nomark _)) (fun _ =>
 (bm_retJ (o' := ((eT eI) [k_])) rfl (fun _ q => xs_ret (xp_tup (ys := [eI k_]) (xa_cons (xp_var A1 rfl) xa_nil) (lnK 1)) q))) (fun _ =>
 (bm_end (bm_bind fun t2 ht2 =>
 (bm_for (en := eI) (slots := (fun (s3 : Unit) => [.fz ((eT eI) streams_), .fz (eI k_), .fz (eI h_), .any, .any, .any, .any])) (rt := (fun r ro => ro = (fun r => Ro.fz (eA r)) r)) (s0 := ()) (inj := id) hX.bse (xi_tup (xp_call F_all_above (xa_cons (xp_var A0 rfl) (xa_cons (xp_var A1 rfl) xa_nil)) ⟨_, _, _, rfl, rfl, ht2⟩)) (Sub.s (Sub.s (Sub.s (Sub.a (Sub.a (Sub.a (Sub.a Sub.n))))))) (fun x4 s3 => [.fz ((eT eI) streams_), .fz (eI k_), .fz (eI h_), .fz (eI x4), .any, .any, .any]) [3] (fun x4 s3 => (xg_name T3)) (fun x4 s3 =>
 (bm_bind fun t10 ht10 =>
 (bm_st (fun _ q => xs_setC (own := [("one", 5), ("into", 6)]) hX.bse n4 L4 (sw_true (by rw [hX.sc]; rfl) L4 rfl rfl) (by rw [hX.N, hX.sc]; exact blkOk_by (own := [("one", 5), ("into", 6)]) (by decide +kernel)) (show Lc Tb _ _ _ _ _ _ _ _ _ (eP2 eI eI) eI (fun x5 => (Option.bind (if (decide (x5.2 = x4)) = true then (Option.bind (f_order_of 20 streams_ x5.1) fun t6 => (some (decide ((h_ - (1 : Int)) ≤ t6)))) else some false) fun t7 => (some t7))) (fun x5 => some x5.1) (fun x5 => [.fz ((eT eI) streams_), .fz (eI k_), .fz (eI h_), .fz (eI x4), .any, .fz (eI x5.1), .fz (eI x5.2)]) [5, 6] from ⟨(XI.is (xi_enuT hX.bse B_enumerate (XP.r (xp_var A0 rfl))) (enu_map eI streams_)), (by decide), fun x5 _ _ _ _ _ => (xg_tup (Bse.blk hX.bse).calm (xgs_cons (xg_name (Tg.own hX.bse n5 (.inl rfl))) (xgs_cons (xg_name (Tg.own hX.bse n6 (.inl rfl))) xgs_nil))), fun x5 _ _ _ _ _ _ hb => (let ⟨t7, ht7, q9⟩ := bind_some hb; xts_one (XT.is (xt_w (xw_andM (xt_cmp opd_eqI (XP.r (xp_var (At.own n6 (.inl rfl) nm_into.1 nm_into.2) rfl)) (XP.r (xp_var (At.blk A3 rfl) rfl)) (nomark _)) (fun _ => (fun z hz => (let ⟨t6, ht6, q8⟩ := bind_some hz; (XW.is (xw_and1 (xt_cmp opd_ge (XP.r (xp_call (Fn0.blk F0_order_of rfl) (xa_cons (xp_var (At.blk A0 rfl) rfl) (xa_cons (xp_var (At.own n5 (.inl rfl) nm_one.1 nm_one.2) rfl) xa_nil)) ⟨_, _, _, rfl, rfl, ht6⟩)) (XP.r (xp_bin opd_sub (XP.r (xp_var (At.blk A2 rfl) rfl)) (XP.r xp_int))) (nomark _))) (Option.some.inj q8))))) ht7)) (Option.some.inj q9))), fun x5 _ _ _ _ _ _ _ hb => (by cases hb; exact (xp_var (At.own n5 (.inl rfl) nm_one.1 nm_one.2) rfl))⟩) ht10 q) (ds' := [.fz ((eT eI) streams_), .fz (eI k_), .fz (eI h_), .fz (eI x4), .ow (.lst (List.map eI t10)), .any, .any]) (bm_frz (i := 4) rfl (show BM Tb _ _ [.fz ((eT eI) streams_), .fz (eI k_), .fz (eI h_), .fz (eI x4), .fz ((eL eI) t10), .any, .any] _ _ from
 (bm_if1 (xt_cmp opd_gt (XP.r (XP.is (xp_callB B_len cad_lenL (xar_cons (XP.r (xp_var A4 rfl)) xar_nil)) (len_map eI t10))) (XP.r xp_int) (nomark _)) (fun _ =>
 (bm_bind fun t11 ht11 =>
 (bm_bind fun t12 ht12 =>
 (bm_bind fun t13 ht13 =>
 (bm_bind fun t14 ht14 =>
 (bm_retJ (o' := Fl.rt ((eP3 eI eA eA) (x4, t12, t14))) rfl (fun _ q => xs_ret (xp_tup (ys := [eI x4, eA t12, eA t14]) (xa_cons (xp_var A3 rfl) (xa_cons (xp_call F_fan (xa_cons (xp_var A0 rfl) (xa_cons (xq_ixL (f := eI) (XP.r (xp_var A4 rfl)) xp_int ht11) (xa_cons (xp_bin opd_sub (XP.r (xp_var A2 rfl)) (XP.r xp_int)) xa_nil))) ⟨_, _, _, _, rfl, rfl, ht12⟩) (xa_cons (xp_call F_fan (xa_cons (xp_var A0 rfl) (xa_cons (xq_ixL (f := eI) (XP.r (xp_var A4 rfl)) xp_int ht13) (xa_cons (xp_bin opd_sub (XP.r (xp_var A2 rfl)) (XP.r xp_int)) xa_nil))) ⟨_, _, _, _, rfl, rfl, ht14⟩) xa_nil))) (lnK 3)) q))))))) (fun _ =>
 (bm_endL (s := ()) (Sub.s (Sub.s (Sub.s (Sub.a (Sub.a (Sub.a (Sub.a Sub.n))))))))))))))) (fun _ _ h => h) (fun s3 =>
 (bm_retJ (o' := (eN ())) rfl (fun _ q => xs_ret xp_non q))))))))))))

abbrev s_is_fan : Stmt := topS 7
def Ns_is_fan : List Str := ["streams", "k", "h", "tree", "head", "one", "other"]
theorem scs_is_fan : FnScope Ns_is_fan ["streams", "k", "h", "tree"] (defScope s_is_fan) := ⟨rfl, rfl, rfl, by decide +kernel, rfl, by decide +kernel, by decide +kernel⟩
theorem cts_is_fan {P : Program} {w : World} {K : Frag} {mg : Str → Option Value} {base : Heap} {k : Nat} {Tb : Tbs} {X : Cx} (hX : Fx P w K mg base Ns_is_fan (defScope s_is_fan) k X) (n : Nat) (streams_ : (List Int)) (k_ : Int) (h_ : Int) (tree_ : Dt)
    (B_len : Bn X "len" (.builtin "len"))
    (F_is_above : Fn Tb X "is_above" 3 (fun ds ro => ∃ (a0 : (List Int)) (a1 : Int) (a2 : Int) (r : Bool), ds = [(eT eI) a0, eI a1, eI a2] ∧ ro = Ro.fz (eB r) ∧ f_is_above a0 a1 a2 = some r))
    (F_is_fan : Fn Tb X "is_fan" 4 (fun ds ro => ∃ (a0 : (List Int)) (a1 : Int) (a2 : Int) (a3 : Dt) (r : Bool), ds = [(eT eI) a0, eI a1, eI a2, eA a3] ∧ ro = Ro.fz (eB r) ∧ f_is_fan n a0 a1 a2 a3 = some r)) :
    BM Tb X (defBody s_is_fan) [.fz ((eT eI) streams_), .fz (eI k_), .fz (eI h_), .fz (eA tree_), .any, .any, .any] (JR (fun r => Ro.fz (eB r))) (f_is_fan (n + 1) streams_ k_ h_ tree_) := by
  have A0 : At X "streams" 0 := hX.at rfl (by first | exact .inl rfl | exact .inr rfl) nm_streams.1 nm_streams.2
  have A1 : At X "k" 1 := hX.at rfl (by first | exact .inl rfl | exact .inr rfl) nm_k.1 nm_k.2
  have A2 : At X "h" 2 := hX.at rfl (by first | exact .inl rfl | exact .inr rfl) nm_h.1 nm_h.2
  have A3 : At X "tree" 3 := hX.at rfl (by first | exact .inl rfl | exact .inr rfl) nm_tree.1 nm_tree.2
  have A4 : At X "head" 4 := hX.at rfl (by first | exact .inl rfl | exact .inr rfl) nm_head.1 nm_head.2
  have T4 : Tg X "head" 4 := hX.tg rfl (by first | exact .inl rfl | exact .inr rfl)
  have A5 : At X "one" 5 := hX.at rfl (by first | exact .inl rfl | exact .inr rfl) nm_one.1 nm_one.2
  have T5 : Tg X "one" 5 := hX.tg rfl (by first | exact .inl rfl | exact .inr rfl)
  have A6 : At X "other" 6 := hX.at rfl (by first | exact .inl rfl | exact .inr rfl) nm_other.1 nm_other.2
  have T6 : Tg X "other" 6 := hX.tg rfl (by first | exact .inl rfl | exact .inr rfl)
  unfold f_is_fan
  exact (bm_bind fun t1 ht1 =>
 (bm_bind fun t2 ht2 =>
 (bm_bind fun t6 ht6 =>
 (bm_if (xt_w (xw_orM (xt_not (xt_chain opd_le opd_lt (XP.r xp_int) (XP.r (XP.de (f := eI) (xp_ixA (xp_var A3 rfl) xp_int ht1) deI ht2)) (fun _ => (XP.r (XP.is (xp_callB B_len cad_lenT (xar_cons (XP.r (xp_var A0 rfl)) xar_nil)) (len_map eI streams_)))))) (fun _ => (fun z hz => (let ⟨t3, ht3, q7⟩ := bind_some hz; (let ⟨t4, ht4, q8⟩ := bind_some q7; (let ⟨t5, ht5, q9⟩ := bind_some q8; (XW.is (xw_or1 (xt_not (xt_val (xp_call F_is_above (xa_cons (xp_var A0 rfl) (xa_cons (XP.de (f := eI) (xp_ixA (xp_var A3 rfl) xp_int ht3) deI ht4) (xa_cons (xp_var A1 rfl) xa_nil))) ⟨_, _, _, _, rfl, rfl, ht5⟩)))) (Option.some.inj q9))))))) ht6)) (fun _ =>
 (bm_retJ (o' := false) rfl (fun _ q => xs_ret xp_bl q))) (fun _ =>
 (bm_end (bm_bind fun t11 ht11 =>
 (bm_if (xt_w (xw_orM (xt_cmp opd_eqI (XP.r (xp_var A2 rfl)) (XP.r xp_int) (nomark _)) (fun _ => (fun z hz => (let ⟨t10, ht10, q12⟩ := bind_some hz; (XW.is (xw_or1 (xt_cmp opd_eqI (XP.r (xp_lenA B_len (xp_var A3 rfl) ht10)) (XP.r xp_int) (nomark _))) (Option.some.inj q12))))) ht11)) (fun _ =>
 (bm_bind fun t14 ht14 =>
 (bm_retJ (o' := t14) rfl (fun _ q => xs_ret (xp_andM (xp_cmp opd_eqI (XP.r (xp_var A2 rfl)) (XP.r xp_int) (nomark _)) (fun _ => (xm_bind fun t13 ht13 => (xm_some (xp_one (xp_cmp opd_eqI (XP.r (xp_lenA B_len (xp_var A3 rfl) ht13)) (XP.r xp_int) (nomark _)))))) ht14) q)))) (fun _ =>
 (bm_end (bm_bind fun t15 ht15 =>
 (bm_st (fun _ q => xs_asg (XP.de (f := (eP3 eA eA eA)) (xp_var A3 rfl) (deP3 deA deA deA) ht15) (xg_tup hX.bse.calm (xgs_cons (xg_name T4) (xgs_cons (xg_name T5) (xgs_cons (xg_name T6) xgs_nil)))) q) (ds' := [.fz ((eT eI) streams_), .fz (eI k_), .fz (eI h_), .fz (eA tree_), .fz (eA t15.1), .fz (eA t15.2.1), .fz (eA t15.2.2)])
 (bm_bind fun t16 ht16 =>
 (bm_bind fun t17 ht17 =>
 (bm_bind fun t20 ht20 =>
 (bm_if (xt_w (xw_orM (xt_not (xt_val (xp_call F_is_fan (xa_cons (xp_var A0 rfl) (xa_cons (XP.de (f := eI) (xp_var A4 rfl) deI ht16) (xa_cons (xp_bin opd_sub (XP.r (xp_var A2 rfl)) (XP.r xp_int)) (xa_cons (xp_var A5 rfl) xa_nil)))) ⟨_, _, _, _, _, rfl, rfl, ht17⟩))) (fun _ => (fun z hz => (let ⟨t18, ht18, q21⟩ := bind_some hz; (let ⟨t19, ht19, q22⟩ := bind_some q21; (XW.is (xw_or1 (xt_not (xt_val (xp_call F_is_fan (xa_cons (xp_var A0 rfl) (xa_cons (XP.de (f := eI) (xp_var A4 rfl) deI ht18) (xa_cons (xp_bin opd_sub (XP.r (xp_var A2 rfl)) (XP.r xp_int)) (xa_cons (xp_var A6 rfl) xa_nil)))) ⟨_, _, _, _, _, rfl, rfl, ht19⟩)))) (Option.some.inj q22)))))) ht20)) (fun _ =>
 (bm_retJ (o' := false) rfl (fun _ q => xs_ret xp_bl q))) (fun _ =>
 (bm_end (bm_bind fun t23 ht23 =>
 (bm_bind fun t25 ht25 =>
 (bm_bind fun t24 ht24 =>
 (bm_bind fun t26 ht26 =>
 (bm_bind fun t27 ht27 =>
 (bm_bind fun t33 ht33 =>
 (bm_retJ (o' := t33) rfl (fun _ q => xs_ret (xp_andM (xp_not (xp_call F_is_above (xa_cons (xp_var A0 rfl) (xa_cons (XP.de (f := eI) (xp_ixA (xp_var A5 rfl) xp_int ht23) deI ht25) (xa_cons (XP.de (f := eI) (xp_ixA (xp_var A6 rfl) xp_int ht24) deI ht26) xa_nil))) ⟨_, _, _, _, rfl, rfl, ht27⟩)) (fun _ => (xm_bind fun t28 ht28 => (xm_bind fun t30 ht30 => (xm_bind fun t29 ht29 => (xm_bind fun t31 ht31 => (xm_bind fun t32 ht32 => (xm_some (xp_one (xp_not (xp_call F_is_above (xa_cons (xp_var A0 rfl) (xa_cons (XP.de (f := eI) (xp_ixA (xp_var A6 rfl) xp_int ht28) deI ht30) (xa_cons (XP.de (f := eI) (xp_ixA (xp_var A5 rfl) xp_int ht29) deI ht31) xa_nil))) ⟨_, _, _, _, rfl, rfl, ht32⟩)))))))))) ht33) q))))))))))))))))))))))))))

abbrev s_law_cell : Stmt := topS 9
def Ns_law_cell : List Str := ["script", "k"]
theorem scs_law_cell : FnScope Ns_law_cell ["script", "k"] (defScope s_law_cell) := ⟨rfl, rfl, rfl, by decide +kernel, rfl, by decide +kernel, by decide +kernel⟩
theorem cts_law_cell {P : Program} {w : World} {K : Frag} {mg : Str → Option Value} {base : Heap} {k : Nat} {Tb : Tbs} {X : Cx} (hX : Fx P w K mg base Ns_law_cell (defScope s_law_cell) k X) (script_ : (List Int)) (k_ : Int)
    (B_len : Bn X "len" (.builtin "len")) :
    BM Tb X (defBody s_law_cell) [.fz ((eL eI) script_), .fz (eI k_)] (JR (fun r => Ro.fz (eI r))) (f_law_cell script_ k_) := by
  have A0 : At X "script" 0 := hX.at rfl (by first | exact .inl rfl | exact .inr rfl) nm_script.1 nm_script.2
  have A1 : At X "k" 1 := hX.at rfl (by first | exact .inl rfl | exact .inr rfl) nm_k.1 nm_k.2
  unfold f_law_cell
  exact (bm_if (xt_cmp opd_lt (XP.r (xp_var A1 rfl)) (XP.r (XP.is (xp_callB B_len cad_lenL (xar_cons (XP.r (xp_var A0 rfl)) xar_nil)) (len_map eI script_))) (nomark _)) (fun _ =>
 (bm_bind fun t1 ht1 =>
 (bm_retJ (o' := t1) rfl (fun _ q => xs_ret (xq_ixL (f := eI) (XP.r (xp_var A0 rfl)) (xp_var A1 rfl) ht1) q)))) (fun _ =>
 (bm_end (bm_retJ (o' := (((5 : Int) * k_) + (3 : Int))) rfl (fun _ q => xs_ret (xp_bin opd_add (XP.r (xp_bin (opd_mul (mulOk_l (by decide))) (XP.r xp_int) (XP.r (xp_var A1 rfl)))) (XP.r xp_int)) q)))))

abbrev s_law_draws : Stmt := topS 10
def Ns_law_draws : List Str := ["cell", "many", "rest", "digits", "seed", "draws", "k", "mixed"]
theorem scs_law_draws : FnScope Ns_law_draws ["cell", "many"] (defScope s_law_draws) := ⟨rfl, rfl, rfl, by decide +kernel, rfl, by decide +kernel, by decide +kernel⟩
theorem cts_law_draws {P : Program} {w : World} {K : Frag} {mg : Str → Option Value} {base : Heap} {k : Nat} {Tb : Tbs} {X : Cx} (hX : Fx P w K mg base Ns_law_draws (defScope s_law_draws) k X) (cell_ : Int) (many_ : Int)
    (B_abs : Bn X "abs" (.builtin "abs"))
    (B_int : Bn X "int" (.type "int"))
    (B_range : Bn X "range" (.type "range")) :
    BM Tb X (defBody s_law_draws) [.fz (eI cell_), .fz (eI many_), .any, .any, .any, .any, .any, .any] (JR (fun r => Ro.ow (Ob.lst (List.map eI r)))) (f_law_draws cell_ many_) := by
  have A0 : At X "cell" 0 := hX.at rfl (by first | exact .inl rfl | exact .inr rfl) nm_cell.1 nm_cell.2
  have A1 : At X "many" 1 := hX.at rfl (by first | exact .inl rfl | exact .inr rfl) nm_many.1 nm_many.2
  have A2 : At X "rest" 2 := hX.at rfl (by first | exact .inl rfl | exact .inr rfl) nm_rest.1 nm_rest.2
  have T2 : Tg X "rest" 2 := hX.tg rfl (by first | exact .inl rfl | exact .inr rfl)
  have A3 : At X "digits" 3 := hX.at rfl (by first | exact .inl rfl | exact .inr rfl) nm_digits.1 nm_digits.2
  have T3 : Tg X "digits" 3 := hX.tg rfl (by first | exact .inl rfl | exact .inr rfl)
  have A4 : At X "seed" 4 := hX.at rfl (by first | exact .inl rfl | exact .inr rfl) nm_seed.1 nm_seed.2
  have T4 : Tg X "seed" 4 := hX.tg rfl (by first | exact .inl rfl | exact .inr rfl)
  have A5 : At X "draws" 5 := hX.at rfl (by first | exact .inl rfl | exact .inr rfl) nm_draws.1 nm_draws.2
  have T5 : Tg X "draws" 5 := hX.tg rfl (by first | exact .inl rfl | exact .inr rfl)
  have A6 : At X "k" 6 := hX.at rfl (by first | exact .inl rfl | exact .inr rfl) nm_k.1 nm_k.2
  have T6 : Tg X "k" 6 := hX.tg rfl (by first | exact .inl rfl | exact .inr rfl)
  have A7 : At X "mixed" 7 := hX.at rfl (by first | exact .inl rfl | exact .inr rfl) nm_mixed.1 nm_mixed.2
  have T7 : Tg X "mixed" 7 := hX.tg rfl (by first | exact .inl rfl | exact .inr rfl)
  unfold f_law_draws
  exact (bm_bind fun rest_1 hrest_1 =>
 (bm_st (fun _ q => xs_set T2 (XP.is (xp_callB B_abs cad_abs (xar_cons (XP.r (xp_callTy B_int cad_int (xar_cons (XP.r (xp_var A0 rfl)) xar_nil))) xar_nil)) (congrArg eI (Option.some.inj hrest_1))) q) (ds' := [.fz (eI cell_), .fz (eI many_), .fz (eI rest_1), .any, .any, .any, .any, .any])
 (bm_bind fun digits_2 hdigits_2 =>
 (bm_st (fun _ q => xs_set T3 (XP.is (xp_cmp opd_ge (XP.r (xp_var A2 rfl)) (XP.r (XP.is (xp_bin (opd_pow (i := 10) (j := 18) (by decide)) (XP.r xp_int) (XP.r xp_int)) (congrArg PyData.int (by decide +kernel)))) (nomark _)) (congrArg eB (Option.some.inj hdigits_2))) q) (ds' := [.fz (eI cell_), .fz (eI many_), .fz (eI rest_1), .fz (eB digits_2), .any, .any, .any, .any])
 (bm_st (fun _ q => xs_set T4 (xp_var A2 rfl) q) (ds' := [.fz (eI cell_), .fz (eI many_), .fz (eI rest_1), .fz (eB digits_2), .fz (eI rest_1), .any, .any, .any])
 (bm_st (fun _ q => xs_setO T5 (xo_lst xa_nil (lnK 0)) q) (ds' := [.fz (eI cell_), .fz (eI many_), .fz (eI rest_1), .fz (eB digits_2), .fz (eI rest_1), .ow (.lst (List.map eI [])), .any, .any])
 (bm_bind fun t3 ht3 =>
 (bm_forM (en := eI) (slots := (fun (s4 : Int × (List Int)) => [.fz (eI cell_), .fz (eI many_), .fz (eI s4.1), .fz (eB digits_2), .fz (eI rest_1), .ow (.lst (List.map eI s4.2)), .any, .any])) (s0 := (rest_1, [])) hX.bse (xi_rng1_m B_range (xa_cons (xp_var A1 rfl) xa_nil) ht3) (Sub.s (Sub.s (Sub.s (Sub.s (Sub.s (Sub.s (Sub.a (Sub.a Sub.n)))))))) (fun x5 s4 => [.fz (eI cell_), .fz (eI many_), .fz (eI s4.1), .fz (eB digits_2), .fz (eI rest_1), .ow (.lst (List.map eI s4.2)), .fz (eI x5), .any]) [6] (fun x5 s4 => (xg_name T6)) (fun x5 s4 => bm_map
 (bm_if1 (xt_w (xw_and (xt_val (xp_var A3 rfl)) (fun _ => (xw_and1 (xt_cmp opd_gt (XP.r (xp_var A2 rfl)) (XP.r xp_int) (nomark _)))))) (fun _ =>
 (bm_bind fun draws_6 hdraws_6 =>
 (bm_st (fun _ q => app_st hdraws_6 A5 rfl (xp_bin (opd_mod (by decide)) (XP.r (xp_callTy B_int cad_int (xar_cons (XP.r (xp_var A2 rfl)) xar_nil))) (XP.r xp_int)) q) (ds' := [.fz (eI cell_), .fz (eI many_), .fz (eI s4.1), .fz (eB digits_2), .fz (eI rest_1), .ow (.lst (List.map eI draws_6)), .fz (eI x5), .any])
 (bm_bind fun rest_7 hrest_7 =>
 (bm_st (fun _ q => xs_set T2 (XP.is (xp_bin (opd_fdiv (by decide)) (XP.r (xp_var A2 rfl)) (XP.r xp_int)) (congrArg eI (Option.some.inj hrest_7))) q) (ds' := [.fz (eI cell_), .fz (eI many_), .fz (eI rest_7), .fz (eB digits_2), .fz (eI rest_1), .ow (.lst (List.map eI draws_6)), .fz (eI x5), .any])
 (bm_endM (s := (rest_7, draws_6)) (Sub.s (Sub.s (Sub.s (Sub.s (Sub.s (Sub.s (Sub.a (Sub.a Sub.n)))))))))))))) (fun _ =>
 (bm_bind fun mixed_8 hmixed_8 =>
 (bm_st (fun _ q => xs_set T7 (XP.is (xp_bin (opd_mod (by decide)) (XP.r (xp_callTy B_int cad_int (xar_cons (XP.r (xp_bin opd_add (XP.r (xp_bin opd_add (XP.r (xp_bin (opd_mul (mulOk_r (by decide))) (XP.r (xp_var A4 rfl)) (XP.r xp_int))) (XP.r (xp_bin (opd_mul (mulOk_r (by decide))) (XP.r (xp_bin opd_add (XP.r (xp_var A6 rfl)) (XP.r xp_int))) (XP.r xp_int))))) (XP.r xp_int))) xar_nil))) (XP.r xp_int)) (congrArg eI (Option.some.inj hmixed_8))) q) (ds' := [.fz (eI cell_), .fz (eI many_), .fz (eI s4.1), .fz (eB digits_2), .fz (eI rest_1), .ow (.lst (List.map eI s4.2)), .fz (eI x5), .fz (eI mixed_8)])
 (bm_bind fun t9 ht9 =>
 (bm_bind fun mixed_10 hmixed_10 =>
 (bm_st (fun _ q => xs_set T7 (XP.is (xp_bin (opd_mod (by decide)) (XP.r (xp_callTy B_int cad_int (xar_cons (XP.r (xp_bin opd_add (XP.r (XP.is (xp_bin (opd_mul (ite_some ht9).1) (XP.r (xp_var A7 rfl)) (XP.r (xp_var A7 rfl))) (congrArg eI (ite_some ht9).2))) (XP.r (xp_bin (opd_mul (mulOk_l (by decide))) (XP.r xp_int) (XP.r (xp_bin opd_add (XP.r (xp_var A6 rfl)) (XP.r xp_int))))))) xar_nil))) (XP.r xp_int)) (congrArg eI (Option.some.inj hmixed_10))) q) (ds' := [.fz (eI cell_), .fz (eI many_), .fz (eI s4.1), .fz (eB digits_2), .fz (eI rest_1), .ow (.lst (List.map eI s4.2)), .fz (eI x5), .fz (eI mixed_10)])
 (bm_bind fun draws_11 hdraws_11 =>
 (bm_st (fun _ q => app_st hdraws_11 A5 rfl (xp_bin (opd_mod (by decide)) (XP.r (xp_callTy B_int cad_int (xar_cons (XP.r (xp_bin (opd_fdiv (by decide)) (XP.r (xp_var A7 rfl)) (XP.r xp_int))) xar_nil))) (XP.r xp_int)) q) (ds' := [.fz (eI cell_), .fz (eI many_), .fz (eI s4.1), .fz (eB digits_2), .fz (eI rest_1), .ow (.lst (List.map eI draws_11)), .fz (eI x5), .fz (eI mixed_10)])
 (bm_endM (s := (s4.1, draws_11)) (Sub.s (Sub.s (Sub.s (Sub.s (Sub.s (Sub.s (Sub.a (Sub.a Sub.n))))))))))))))))))) (fun s4 =>
 (bm_retJ (o' := s4.2) rfl (fun _ q => xs_retV A5 rfl q)))))))))))

abbrev s_law_is_integer : Stmt := topS 11
def Ns_law_is_integer : List Str := ["value"]
theorem scs_law_is_integer : FnScope Ns_law_is_integer ["value"] (defScope s_law_is_integer) := ⟨rfl, rfl, rfl, by decide +kernel, rfl, by decide +kernel, by decide +kernel⟩
theorem cts_law_is_integer {P : Program} {w : World} {K : Frag} {mg : Str → Option Value} {base : Heap} {k : Nat} {Tb : Tbs} {X : Cx} (hX : Fx P w K mg base Ns_law_is_integer (defScope s_law_is_integer) k X) (value_ : Dt)
    (B_bool : Bn X "bool" (.type "bool"))
    (B_int : Bn X "int" (.type "int"))
    (B_isinstance : Bn X "isinstance" (.builtin "isinstance")) :
    BM Tb X (defBody s_law_is_integer) [.fz (eA value_)] (JR (fun r => Ro.fz (eB r))) (f_law_is_integer value_) := by
  have A0 : At X "value" 0 := hX.at rfl (by first | exact .inl rfl | exact .inr rfl) nm_value.1 nm_value.2
  unfold f_law_is_integer
  exact (bm_retJ (o' := ((isI (eA value_)) && (!(isB (eA value_))))) rfl (fun _ q => xs_ret (xp_and (xp_isi B_isinstance B_int (xp_var A0 rfl) (kit_int _)) (fun _ => (xp_one (xp_not (xp_isi B_isinstance B_bool (xp_var A0 rfl) (kit_bool _)))))) q))

abbrev s_law_is : Stmt := topS 12
def Ns_law_is : List Str := ["value", "due", "at"]
theorem scs_law_is : FnScope Ns_law_is ["value", "due"] (defScope s_law_is) := ⟨rfl, rfl, rfl, by decide +kernel, rfl, by decide +kernel, by decide +kernel⟩
theorem cts_law_is {P : Program} {w : World} {K : Frag} {mg : Str → Option Value} {base : Heap} {k : Nat} {Tb : Tbs} {X : Cx} (hX : Fx P w K mg base Ns_law_is (defScope s_law_is) k X) (n : Nat) (value_ : Dt) (due_ : Dt)
    (B_all : Bn X "all" (.builtin "all"))
    (B_bool : Bn X "bool" (.type "bool"))
    (B_int : Bn X "int" (.type "int"))
    (B_isinstance : Bn X "isinstance" (.builtin "isinstance"))
    (B_len : Bn X "len" (.builtin "len"))
    (B_range : Bn X "range" (.type "range"))
    (B_str : Bn X "str" (.type "str"))
    (B_tuple : Bn X "tuple" (.type "tuple"))
    (F__law_is_integer : Fn Tb X "_law_is_integer" 1 (fun ds ro => ∃ (a0 : Dt) (r : Bool), ds = [eA a0] ∧ ro = Ro.fz (eB r) ∧ f_law_is_integer a0 = some r))
    (F0__law_is : Fn0 Tb X "_law_is" 2 (fun ds ro => ∃ (a0 : Dt) (a1 : Dt) (r : Bool), ds = [eA a0, eA a1] ∧ ro = Ro.fz (eB r) ∧ f_law_is n a0 a1 = some r)) :
    BM Tb X (defBody s_law_is) [.fz (eA value_), .fz (eA due_), .any] (JR (fun r => Ro.fz (eB r))) (f_law_is (n + 1) value_ due_) := by
  have A0 : At X "value" 0 := hX.at rfl (by first | exact .inl rfl | exact .inr rfl) nm_value.1 nm_value.2
  have A1 : At X "due" 1 := hX.at rfl (by first | exact .inl rfl | exact .inr rfl) nm_due.1 nm_due.2
  have n2 : X.N[2]? = some ("at" : Str) := by rw [hX.N]; rfl
  unfold f_law_is
  exact (bm_if (xt_cmp (OpD.is opd_is (congrArg PyData.bool rfl)) (XP.r (xp_var A1 rfl)) (XP.r xp_non) (nomark _)) (fun _ =>
 (bm_retJ (o' := (isN value_)) rfl (fun _ q => xs_ret (xp_cmp (OpD.is opd_is (congrArg PyData.bool rfl)) (XP.r (xp_var A0 rfl)) (XP.r xp_non) (nomark _)) q))) (fun _ =>
 (bm_end (bm_if (xt_val (xp_isi B_isinstance B_bool (xp_var A1 rfl) (kit_bool _))) (fun _ =>
 (bm_bind fun t2 ht2 =>
 (bm_retJ (o' := t2) rfl (fun _ q => xs_ret (xp_andM (xp_isi B_isinstance B_bool (xp_var A0 rfl) (kit_bool _)) (fun _ => (xm_bind fun t1 ht1 => (xm_some (xp_one (xp_cmp (opd_eqA ht1 hX.deep) (XP.r (xp_var A0 rfl)) (XP.r (xp_var A1 rfl)) (nomark _)))))) ht2) q)))) (fun _ =>
 (bm_end (bm_if (xt_val (xp_isi B_isinstance B_int (xp_var A1 rfl) (kit_int _))) (fun _ =>
 (bm_bind fun t3 ht3 =>
 (bm_bind fun t5 ht5 =>
 (bm_retJ (o' := t5) rfl (fun _ q => xs_ret (xp_andM (xp_call F__law_is_integer (xa_cons (xp_var A0 rfl) xa_nil) ⟨_, _, rfl, rfl, ht3⟩) (fun _ => (xm_bind fun t4 ht4 => (xm_some (xp_one (xp_cmp (opd_eqA ht4 hX.deep) (XP.r (xp_var A0 rfl)) (XP.r (xp_var A1 rfl)) (nomark _)))))) ht5) q))))) (fun _ =>
 (bm_end (bm_if (xt_val (xp_isi B_isinstance B_str (xp_var A1 rfl) (kit_str _))) (fun _ =>
 (bm_bind fun t7 ht7 =>
 (bm_retJ (o' := t7) rfl (fun _ q => xs_ret (xp_andM (xp_isi B_isinstance B_str (xp_var A0 rfl) (kit_str _)) (fun _ => (xm_bind fun t6 ht6 => (xm_some (xp_one (xp_cmp (opd_eqA ht6 hX.deep) (XP.r (xp_var A0 rfl)) (XP.r (xp_var A1 rfl)) (nomark _)))))) ht7) q)))) (fun _ =>
 (bm_end (bm_bind fun t10 ht10 =>
 (bm_if (xt_w (xw_orM (xt_not (xt_val (xp_isi B_isinstance B_tuple (xp_var A0 rfl) (kit_tuple _)))) (fun _ => (fun z hz => (let ⟨t8, ht8, q11⟩ := bind_some hz; (let ⟨t9, ht9, q12⟩ := bind_some q11; (XW.is (xw_or1 (xt_cmp opd_neI (XP.r (xp_lenA B_len (xp_var A0 rfl) ht8)) (XP.r (xp_lenA B_len (xp_var A1 rfl) ht9)) (nomark _))) (Option.some.inj q12)))))) ht10)) (fun _ =>
 (bm_retJ (o' := false) rfl (fun _ q => xs_ret xp_bl q))) (fun _ =>
 (bm_end (bm_bind fun t13 ht13 =>
 (bm_bind fun t21 ht21 =>
 (bm_retJ (o' := (t21.all id)) rfl (fun _ q => xs_ret (xp_callB B_all (cad_all hX.bse.calm) (xar_cons (XO.r (xo_lc (own := [("at", 2)]) hX.bse (by rw [hX.N, hX.sc]; exact blkOk_by (own := [("at", 2)]) (by decide +kernel)) (show Lc Tb _ _ _ _ _ _ _ _ _ eI eB (fun _ => some true) (fun x14 => (Option.bind (idxA value_ x14) fun t15 => (Option.bind (idxA due_ x14) fun t16 => (Option.bind (f_law_is n t15 t16) fun t17 => (some t17))))) (fun x14 => [.fz (eA value_), .fz (eA due_), .fz (eI x14)]) [2] from ⟨(xi_rngA B_range B_len (xp_var A1 rfl) ht13), (by decide), fun x14 _ _ _ _ _ => (xg_name (Tg.own hX.bse n2 (.inl rfl))), fun _ _ _ _ _ _ _ hb => (by cases hb; exact xts_nil), fun x14 _ _ _ _ _ _ _ hb => (let ⟨t15, ht15, q18⟩ := bind_some hb; (let ⟨t16, ht16, q19⟩ := bind_some q18; (let ⟨t17, ht17, q20⟩ := bind_some q19; (XP.is (xp_call (Fn0.blk F0__law_is rfl) (xa_cons (xp_ixA (xp_var (At.blk A0 rfl) rfl) (xp_var (At.own n2 (.inl rfl) nm_at.1 nm_at.2) rfl) ht15) (xa_cons (xp_ixA (xp_var (At.blk A1 rfl) rfl) (xp_var (At.own n2 (.inl rfl) nm_at.1 nm_at.2) rfl) ht16) xa_nil)) ⟨_, _, _, rfl, rfl, ht17⟩) (congrArg eB (Option.some.inj q20))))))⟩) ht21)) xar_nil)) q))))))))))))))))))))

abbrev s_law_down : Stmt := topS 13
def Ns_law_down : List Str := ["streams", "k", "row", "step"]
theorem scs_law_down : FnScope Ns_law_down ["streams", "k"] (defScope s_law_down) := ⟨rfl, rfl, rfl, by decide +kernel, rfl, by decide +kernel, by decide +kernel⟩
theorem cts_law_down {P : Program} {w : World} {K : Frag} {mg : Str → Option Value} {base : Heap} {k : Nat} {Tb : Tbs} {X : Cx} (hX : Fx P w K mg base Ns_law_down (defScope s_law_down) k X) (streams_ : (List Int)) (k_ : Int)
    (B_len : Bn X "len" (.builtin "len"))
    (B_range : Bn X "range" (.type "range")) :
    BM Tb X (defBody s_law_down) [.fz ((eT eI) streams_), .fz (eI k_), .any, .any] (JR (fun r => Ro.ow (Ob.lst (List.map eI r)))) (f_law_down streams_ k_) := by
  have A0 : At X "streams" 0 := hX.at rfl (by first | exact .inl rfl | exact .inr rfl) nm_streams.1 nm_streams.2
  have A1 : At X "k" 1 := hX.at rfl (by first | exact .inl rfl | exact .inr rfl) nm_k.1 nm_k.2
  have A2 : At X "row" 2 := hX.at rfl (by first | exact .inl rfl | exact .inr rfl) nm_row.1 nm_row.2
  have T2 : Tg X "row" 2 := hX.tg rfl (by first | exact .inl rfl | exact .inr rfl)
  have T3 : Tg X "step" 3 := hX.tg rfl (by first | exact .inl rfl | exact .inr rfl)
  unfold f_law_down
  exact (bm_bind fun row_1 hrow_1 =>
 (bm_st (fun _ q => xs_setO T2 (XO.is (xo_lst (ys := [eI k_]) (xa_cons (xp_var A1 rfl) xa_nil) (lnK 1)) (congrArg (fun z => Ob.lst (List.map eI z)) (Option.some.inj hrow_1))) q) (ds' := [.fz ((eT eI) streams_), .fz (eI k_), .ow (.lst (List.map eI row_1)), .any])
 (bm_forM (en := eI) (slots := (fun (s2 : (List Int)) => [.fz ((eT eI) streams_), .fz (eI k_), .ow (.lst (List.map eI s2)), .any])) (s0 := row_1) hX.bse (XI.is (xi_rngT B_range B_len (XP.r (xp_var A0 rfl))) (rngl_map eI streams_)) (Sub.s (Sub.s (Sub.s (Sub.a Sub.n)))) (fun x3 s2 => [.fz ((eT eI) streams_), .fz (eI k_), .ow (.lst (List.map eI s2)), .fz (eI x3)]) [3] (fun x3 s2 => (xg_name T3)) (fun x3 s2 => bm_map
 (bm_bind fun t4 ht4 =>
 (bm_bind fun t5 ht5 =>
 (bm_bind fun t8 ht8 =>
 (bm_if1 (xt_w (xw_andM (xt_cmp opd_neI (XP.r (xq_ixT (f := eI) (XP.r (xp_var A0 rfl)) (xq_ixL (f := eI) (xr_own A2 rfl) (xp_un und_neg (XP.r xp_int)) ht4) ht5)) (XP.r (xp_bin opd_sub (XP.r xp_int) (XP.r xp_int))) (nomark _)) (fun _ => (fun z hz => (let ⟨t6, ht6, q9⟩ := bind_some hz; (let ⟨t7, ht7, q10⟩ := bind_some q9; (XW.is (xw_and1 (xt_cmp (OpD.is (opd_niL hX.deep (Pl.ok plI (by decide) _) (Pl.oks plI (by decide) _)) (congrArg (fun z => PyData.bool (!z)) (inDs_map eqI _ _))) (XP.r (xq_ixT (f := eI) (XP.r (xp_var A0 rfl)) (xq_ixL (f := eI) (xr_own A2 rfl) (xp_un und_neg (XP.r xp_int)) ht6) ht7)) (xr_own A2 rfl) rfl)) (Option.some.inj q10)))))) ht8)) (fun _ =>
 (bm_bind fun t11 ht11 =>
 (bm_bind fun t12 ht12 =>
 (bm_bind fun row_13 hrow_13 =>
 (bm_st (fun _ q => app_st hrow_13 A2 rfl (xq_ixT (f := eI) (XP.r (xp_var A0 rfl)) (xq_ixL (f := eI) (xr_own A2 rfl) (xp_un und_neg (XP.r xp_int)) ht11) ht12) q) (ds' := [.fz ((eT eI) streams_), .fz (eI k_), .ow (.lst (List.map eI row_13)), .fz (eI x3)])
 (bm_endM (s := row_13) (Sub.s (Sub.s (Sub.s (Sub.a Sub.n)))))))))) (fun _ =>
 (bm_endM (s := s2) (Sub.s (Sub.s (Sub.s (Sub.a Sub.n))))))))))) (fun s2 =>
 (bm_retJ (o' := s2) rfl (fun _ q => xs_retV A2 rfl q))))))

abbrev s_law_streams : Stmt := topS 14
def Ns_law_streams : List Str := ["kind", "draws", "size", "names", "at", "found", "wide", "place", "over", "many"]
theorem scs_law_streams : FnScope Ns_law_streams ["kind", "draws"] (defScope s_law_streams) := ⟨rfl, rfl, rfl, by decide +kernel, rfl, by decide +kernel, by decide +kernel⟩
theorem cts_law_streams {P : Program} {w : World} {K : Frag} {mg : Str → Option Value} {base : Heap} {k : Nat} {Tb : Tbs} {X : Cx} (hX : Fx P w K mg base Ns_law_streams (defScope s_law_streams) k X) (kind_ : Int) (draws_ : (List Int))
    (B_int : Bn X "int" (.type "int"))
    (B_max : Bn X "max" (.builtin "max"))
    (B_range : Bn X "range" (.type "range"))
    (B_tuple : Bn X "tuple" (.type "tuple")) :
    BM Tb X (defBody s_law_streams) [.fz (eI kind_), .fz ((eL eI) draws_), .any, .any, .any, .any, .any, .any, .any, .any] (JR (fun r => Ro.fz ((eT eI) r))) (f_law_streams kind_ draws_) := by
  have A0 : At X "kind" 0 := hX.at rfl (by first | exact .inl rfl | exact .inr rfl) nm_kind.1 nm_kind.2
  have A1 : At X "draws" 1 := hX.at rfl (by first | exact .inl rfl | exact .inr rfl) nm_draws.1 nm_draws.2
  have A2 : At X "size" 2 := hX.at rfl (by first | exact .inl rfl | exact .inr rfl) nm_size.1 nm_size.2
  have T2 : Tg X "size" 2 := hX.tg rfl (by first | exact .inl rfl | exact .inr rfl)
  have A3 : At X "names" 3 := hX.at rfl (by first | exact .inl rfl | exact .inr rfl) nm_names.1 nm_names.2
  have T3 : Tg X "names" 3 := hX.tg rfl (by first | exact .inl rfl | exact .inr rfl)
  have A4 : At X "at" 4 := hX.at rfl (by first | exact .inl rfl | exact .inr rfl) nm_at.1 nm_at.2
  have T4 : Tg X "at" 4 := hX.tg rfl (by first | exact .inl rfl | exact .inr rfl)
  have A5 : At X "found" 5 := hX.at rfl (by first | exact .inl rfl | exact .inr rfl) nm_found.1 nm_found.2
  have T5 : Tg X "found" 5 := hX.tg rfl (by first | exact .inl rfl | exact .inr rfl)
  have A6 : At X "wide" 6 := hX.at rfl (by first | exact .inl rfl | exact .inr rfl) nm_wide.1 nm_wide.2
  have T6 : Tg X "wide" 6 := hX.tg rfl (by first | exact .inl rfl | exact .inr rfl)
  have A7 : At X "place" 7 := hX.at rfl (by first | exact .inl rfl | exact .inr rfl) nm_place.1 nm_place.2
  have T7 : Tg X "place" 7 := hX.tg rfl (by first | exact .inl rfl | exact .inr rfl)
  have A8 : At X "over" 8 := hX.at rfl (by first | exact .inl rfl | exact .inr rfl) nm_over.1 nm_over.2
  have T8 : Tg X "over" 8 := hX.tg rfl (by first | exact .inl rfl | exact .inr rfl)
  have A9 : At X "many" 9 := hX.at rfl (by first | exact .inl rfl | exact .inr rfl) nm_many.1 nm_many.2
  have T9 : Tg X "many" 9 := hX.tg rfl (by first | exact .inl rfl | exact .inr rfl)
  unfold f_law_streams
  exact (bm_bind fun t1 ht1 =>
 (bm_bind fun t2 ht2 =>
 (bm_st (fun _ q => xs_set T2 (xq_ixT (f := eI) (XP.r (xp_tup (ys := [eI (6 : Int), eI (8 : Int), eI (4 : Int), eI (11 : Int), eI (3 : Int), eI (2 : Int), eI (1 : Int), eI (0 : Int)]) (xa_cons xp_int (xa_cons xp_int (xa_cons xp_int (xa_cons xp_int (xa_cons xp_int (xa_cons xp_int (xa_cons xp_int (xa_cons xp_int xa_nil)))))))) (lnK 8))) (xp_bin (opd_mod (by decide)) (XP.r (xp_callTy B_int cad_int (xar_cons (XP.r (xq_ixL (f := eI) (XP.r (xp_var A1 rfl)) xp_int ht1)) xar_nil))) (XP.r xp_int)) ht2) q) (ds' := [.fz (eI kind_), .fz ((eL eI) draws_), .fz (eI t2), .any, .any, .any, .any, .any, .any, .any])
 (bm_st (fun _ q => xs_set T3 (XO.p (xo_lst xa_nil (lnK 0))) q) (ds' := [.fz (eI kind_), .fz ((eL eI) draws_), .fz (eI t2), .fz ((eL eI) []), .any, .any, .any, .any, .any, .any])
 (bm_bind fun t3 ht3 =>
 (bm_forM (en := eI) (slots := (fun (s4 : (List Int)) => [.fz (eI kind_), .fz ((eL eI) draws_), .fz (eI t2), .fz ((eL eI) s4), .any, .any, .any, .any, .any, .any])) (s0 := []) hX.bse (xi_rng1_m B_range (xa_cons (xp_var A2 rfl) xa_nil) ht3) (Sub.s (Sub.s (Sub.s (Sub.s (Sub.a (Sub.a (Sub.a (Sub.a (Sub.a (Sub.a Sub.n)))))))))) (fun x5 s4 => [.fz (eI kind_), .fz ((eL eI) draws_), .fz (eI t2), .fz ((eL eI) s4), .fz (eI x5), .any, .any, .any, .any, .any]) [4] (fun x5 s4 => (xg_name T4)) (fun x5 s4 => bm_map
 (bm_bind fun t6 ht6 =>
 (bm_bind fun t7 ht7 =>
 (bm_st (fun _ q => xs_set T7 (XP.is (xp_bin (opd_mod (ite_some ht7).1) (XP.r (xp_callTy B_int cad_int (xar_cons (XP.r (xq_ixL (f := eI) (XP.r (xp_var A1 rfl)) (xp_bin opd_add (XP.r xp_int) (XP.r (xp_var A4 rfl))) ht6)) xar_nil))) (XP.r (xp_bin opd_add (XP.r (xp_var A4 rfl)) (XP.r xp_int)))) (congrArg eI (ite_some ht7).2)) q) (ds' := [.fz (eI kind_), .fz ((eL eI) draws_), .fz (eI t2), .fz ((eL eI) s4), .fz (eI x5), .any, .any, .fz (eI t7), .any, .any])
 (bm_bind fun t8 ht8 =>
 (bm_bind fun t9 ht9 =>
 (bm_st (fun _ q => xs_set T3 (XO.p (XO.is (xo_catL (cat_len (ite_some ht9).1) (XO.is (xo_catL (cat_len (ite_some ht8).1) (XO.is (xo_slL (XP.r (xp_var A3 rfl)) xpo_none (xpo_some (xp_var A7 rfl))) (cutL_map eI s4 _ _)) (xo_lst (ys := [eI x5]) (xa_cons (xp_var A4 rfl) xa_nil) (lnK 1))) (cat_mapL ht8)) (XO.is (xo_slL (XP.r (xp_var A3 rfl)) (xpo_some (xp_var A7 rfl)) xpo_none) (cutL_map eI s4 _ _))) (cat_mapL ht9))) q) (ds' := [.fz (eI kind_), .fz ((eL eI) draws_), .fz (eI t2), .fz ((eL eI) t9), .fz (eI x5), .any, .any, .fz (eI t7), .any, .any])
 (bm_endM (s := t9) (Sub.s (Sub.s (Sub.s (Sub.s (Sub.a (Sub.a (Sub.a (Sub.a (Sub.a (Sub.a Sub.n)))))))))))))))))) (fun s4 =>
 (bm_bind fun t10 ht10 =>
 (bm_st (fun _ q => xs_setO T5 (XO.is (xo_rep (rep_ok ht10) (xo_lst (ys := [eI ((0 : Int) - (1 : Int))]) (xa_cons (xp_bin opd_sub (XP.r xp_int) (XP.r xp_int)) xa_nil) (lnK 1)) (xp_var A2 rfl)) (rep_map ht10)) q) (ds' := [.fz (eI kind_), .fz ((eL eI) draws_), .fz (eI t2), .fz ((eL eI) s4), .any, .ow (.lst (List.map eI t10)), .any, .any, .any, .any])
 (bm_bind fun t11 ht11 =>
 (bm_bind fun t12 ht12 =>
 (bm_st (fun _ q => xs_set T6 (xq_ixT (f := eI) (XP.r (xp_tup (ys := [eI (9 : Int), eI (2 : Int), eI (3 : Int)]) (xa_cons xp_int (xa_cons xp_int (xa_cons xp_int xa_nil))) (lnK 3))) (xp_bin (opd_mod (by decide)) (XP.r (xp_callTy B_int cad_int (xar_cons (XP.r (xq_ixL (f := eI) (XP.r (xp_var A1 rfl)) xp_int ht11)) xar_nil))) (XP.r xp_int)) ht12) q) (ds' := [.fz (eI kind_), .fz ((eL eI) draws_), .fz (eI t2), .fz ((eL eI) s4), .any, .ow (.lst (List.map eI t10)), .fz (eI t12), .any, .any, .any])
 (bm_bind fun t13 ht13 =>
 (bm_forM (en := eI) (slots := (fun (s14 : (List Int)) => [.fz (eI kind_), .fz ((eL eI) draws_), .fz (eI t2), .fz ((eL eI) s4), .any, .ow (.lst (List.map eI s14)), .fz (eI t12), .any, .any, .any])) (s0 := t10) hX.bse (xi_rng2_m B_range (xa_cons xp_int (xa_cons (xp_var A2 rfl) xa_nil)) ht13) (Sub.s (Sub.s (Sub.s (Sub.s (Sub.a (Sub.s (Sub.s (Sub.a (Sub.a (Sub.a Sub.n)))))))))) (fun x15 s14 => [.fz (eI kind_), .fz ((eL eI) draws_), .fz (eI t2), .fz ((eL eI) s4), .fz (eI x15), .ow (.lst (List.map eI s14)), .fz (eI t12), .any, .any, .any]) [4] (fun x15 s14 => (xg_name T4)) (fun x15 s14 => bm_map
 (bm_bind fun t16 ht16 =>
 (bm_bind fun t17 ht17 =>
 (bm_bind fun over_18 hover_18 =>
 (bm_st (fun _ q => xs_set T8 (XP.is (xp_callB B_max (cad_max2 hX.bse.calm) (xar_cons (XP.r xp_int) (xar_cons (XP.r (xp_bin opd_sub (XP.r (xp_bin opd_sub (XP.r (xp_var A4 rfl)) (XP.r xp_int))) (XP.r (XP.is (xp_bin (opd_mod (ite_some ht17).1) (XP.r (xp_callTy B_int cad_int (xar_cons (XP.r (xq_ixL (f := eI) (XP.r (xp_var A1 rfl)) (xp_bin opd_add (XP.r xp_int) (XP.r (xp_var A4 rfl))) ht16)) xar_nil))) (XP.r (xp_var A6 rfl))) (congrArg eI (ite_some ht17).2))))) xar_nil))) (congrArg eI (Option.some.inj hover_18))) q) (ds' := [.fz (eI kind_), .fz ((eL eI) draws_), .fz (eI t2), .fz ((eL eI) s4), .fz (eI x15), .ow (.lst (List.map eI s14)), .fz (eI t12), .any, .fz (eI over_18), .any])
 (bm_bind fun t19 ht19 =>
 (bm_if1 (xt_cmp opd_gt (XP.r (xp_bin (opd_mod (by decide)) (XP.r (xp_bin (opd_fdiv (by decide)) (XP.r (xp_callTy B_int cad_int (xar_cons (XP.r (xq_ixL (f := eI) (XP.r (xp_var A1 rfl)) (xp_bin opd_add (XP.r xp_int) (XP.r (xp_var A4 rfl))) ht19)) xar_nil))) (XP.r xp_int))) (XP.r xp_int))) (XP.r xp_int) (nomark _)) (fun _ =>
 (bm_bind fun t20 ht20 =>
 (bm_bind fun t21 ht21 =>
 (bm_bind fun found_22 hfound_22 =>
 (bm_st (fun _ q => set_ix hfound_22 A5 (xq_ixL (f := eI) (XP.r (xp_var A3 rfl)) (xp_var A8 rfl) ht20) (xq_ixL (f := eI) (XP.r (xp_var A3 rfl)) (xp_var A4 rfl) ht21) rfl q) (ds' := [.fz (eI kind_), .fz ((eL eI) draws_), .fz (eI t2), .fz ((eL eI) s4), .fz (eI x15), .ow (.lst (List.map eI found_22)), .fz (eI t12), .any, .fz (eI over_18), .any])
 (bm_endM (s := found_22) (Sub.s (Sub.s (Sub.s (Sub.s (Sub.a (Sub.s (Sub.s (Sub.a (Sub.a (Sub.a Sub.n)))))))))))))))) (fun _ =>
 (bm_endM (s := s14) (Sub.s (Sub.s (Sub.s (Sub.s (Sub.a (Sub.s (Sub.s (Sub.a (Sub.a (Sub.a Sub.n))))))))))))))))))) (fun s14 =>
 (bm_ifS (slots := (fun (s23 : (List Int)) => [.fz (eI kind_), .fz ((eL eI) draws_), .fz (eI t2), .fz ((eL eI) s4), .any, .ow (.lst (List.map eI s23)), .fz (eI t12), .any, .any, .any])) (xt_w (xw_and (xt_cmp opd_eqI (XP.r (xp_var A0 rfl)) (XP.r xp_int) (nomark _)) (fun _ => (xw_and1 (xt_cmp opd_gt (XP.r (xp_var A2 rfl)) (XP.r xp_int) (nomark _)))))) (fun _ =>
 (bm_bind fun t34 ht34 =>
 (bm_bind fun t35 ht35 =>
 (bm_bind fun many_36 hmany_36 =>
 (bm_st (fun _ q => xs_set T9 (XP.is (xp_bin opd_add (XP.r xp_int) (XP.r (XP.is (xp_bin (opd_mod (ite_some ht35).1) (XP.r (xp_callTy B_int cad_int (xar_cons (XP.r (xq_ixL (f := eI) (XP.r (xp_var A1 rfl)) xp_int ht34)) xar_nil))) (XP.r (xp_bin opd_sub (XP.r (xp_var A2 rfl)) (XP.r xp_int)))) (congrArg eI (ite_some ht35).2)))) (congrArg eI (Option.some.inj hmany_36))) q) (ds' := [.fz (eI kind_), .fz ((eL eI) draws_), .fz (eI t2), .fz ((eL eI) s4), .any, .ow (.lst (List.map eI s14)), .fz (eI t12), .any, .any, .fz (eI many_36)])
 (bm_bind fun t37 ht37 =>
 (bm_forM (en := eI) (slots := (fun (s38 : (List Int)) => [.fz (eI kind_), .fz ((eL eI) draws_), .fz (eI t2), .fz ((eL eI) s4), .any, .ow (.lst (List.map eI s38)), .fz (eI t12), .any, .any, .fz (eI many_36)])) (s0 := s14) hX.bse (xi_rng1_m B_range (xa_cons (xp_var A9 rfl) xa_nil) ht37) (Sub.s (Sub.s (Sub.s (Sub.s (Sub.a (Sub.s (Sub.s (Sub.a (Sub.a (Sub.s Sub.n)))))))))) (fun x39 s38 => [.fz (eI kind_), .fz ((eL eI) draws_), .fz (eI t2), .fz ((eL eI) s4), .fz (eI x39), .ow (.lst (List.map eI s38)), .fz (eI t12), .any, .any, .fz (eI many_36)]) [4] (fun x39 s38 => (xg_name T4)) (fun x39 s38 => bm_map
 (bm_bind fun t40 ht40 =>
 (bm_bind fun t41 ht41 =>
 (bm_bind fun t42 ht42 =>
 (bm_bind fun found_43 hfound_43 =>
 (bm_st (fun _ q => set_ix hfound_43 A5 (xq_ixL (f := eI) (XP.r (xp_var A3 rfl)) (XP.is (xp_bin (opd_mod (ite_some ht40).1) (XP.r (xp_bin opd_add (XP.r (xp_var A4 rfl)) (XP.r xp_int))) (XP.r (xp_var A9 rfl))) (congrArg eI (ite_some ht40).2)) ht41) (xq_ixL (f := eI) (XP.r (xp_var A3 rfl)) (xp_var A4 rfl) ht42) rfl q) (ds' := [.fz (eI kind_), .fz ((eL eI) draws_), .fz (eI t2), .fz ((eL eI) s4), .fz (eI x39), .ow (.lst (List.map eI found_43)), .fz (eI t12), .any, .any, .fz (eI many_36)])
 (bm_endM (s := found_43) (Sub.s (Sub.s (Sub.s (Sub.s (Sub.a (Sub.s (Sub.s (Sub.a (Sub.a (Sub.s Sub.n))))))))))))))))) (fun s38 =>
 (bm_endS (s := s38) (Sub.s (Sub.s (Sub.s (Sub.s (Sub.a (Sub.s (Sub.s (Sub.a (Sub.a (Sub.a Sub.n))))))))))))))))))) (fun _ =>
 (bm_endS (s := s14) (Sub.s (Sub.s (Sub.s (Sub.s (Sub.a (Sub.s (Sub.s (Sub.a (Sub.a (Sub.a Sub.n)))))))))))) (fun s23 =>
 (bm_ifS (slots := (fun (s44 : (List Int)) => [.fz (eI kind_), .fz ((eL eI) draws_), .fz (eI t2), .fz ((eL eI) s4), .any, .ow (.lst (List.map eI s44)), .fz (eI t12), .any, .any, .any])) (xt_w (xw_and (xt_cmp opd_eqI (XP.r (xp_var A0 rfl)) (XP.r xp_int) (nomark _)) (fun _ => (xw_and1 (xt_cmp opd_gt (XP.r (xp_var A2 rfl)) (XP.r xp_int) (nomark _)))))) (fun _ =>
 (bm_bind fun t57 ht57 =>
 (bm_bind fun t58 ht58 =>
 (bm_bind fun found_59 hfound_59 =>
 (bm_st (fun _ q => set_ix hfound_59 A5 (xq_ixL (f := eI) (XP.r (xp_var A3 rfl)) xp_int ht57) (xq_ixL (f := eI) (XP.r (xp_var A3 rfl)) xp_int ht58) rfl q) (ds' := [.fz (eI kind_), .fz ((eL eI) draws_), .fz (eI t2), .fz ((eL eI) s4), .any, .ow (.lst (List.map eI found_59)), .fz (eI t12), .any, .any, .any])
 (bm_bind fun t60 ht60 =>
 (bm_bind fun t61 ht61 =>
 (bm_bind fun found_62 hfound_62 =>
 (bm_st (fun _ q => set_ix hfound_62 A5 (xq_ixL (f := eI) (XP.r (xp_var A3 rfl)) xp_int ht60) (xq_ixL (f := eI) (XP.r (xp_var A3 rfl)) xp_int ht61) rfl q) (ds' := [.fz (eI kind_), .fz ((eL eI) draws_), .fz (eI t2), .fz ((eL eI) s4), .any, .ow (.lst (List.map eI found_62)), .fz (eI t12), .any, .any, .any])
 (bm_bind fun t63 ht63 =>
 (bm_bind fun t64 ht64 =>
 (bm_bind fun found_65 hfound_65 =>
 (bm_st (fun _ q => set_ix hfound_65 A5 (xq_ixL (f := eI) (XP.r (xp_var A3 rfl)) xp_int ht63) (xq_ixL (f := eI) (XP.r (xp_var A3 rfl)) xp_int ht64) rfl q) (ds' := [.fz (eI kind_), .fz ((eL eI) draws_), .fz (eI t2), .fz ((eL eI) s4), .any, .ow (.lst (List.map eI found_65)), .fz (eI t12), .any, .any, .any])
 (bm_bind fun t66 ht66 =>
 (bm_bind fun t67 ht67 =>
 (bm_bind fun found_68 hfound_68 =>
 (bm_st (fun _ q => set_ix hfound_68 A5 (xq_ixL (f := eI) (XP.r (xp_var A3 rfl)) xp_int ht66) (xq_ixL (f := eI) (XP.r (xp_var A3 rfl)) xp_int ht67) rfl q) (ds' := [.fz (eI kind_), .fz ((eL eI) draws_), .fz (eI t2), .fz ((eL eI) s4), .any, .ow (.lst (List.map eI found_68)), .fz (eI t12), .any, .any, .any])
 (bm_endS (s := found_68) (Sub.s (Sub.s (Sub.s (Sub.s (Sub.a (Sub.s (Sub.s (Sub.a (Sub.a (Sub.a Sub.n)))))))))))))))))))))))))))) (fun _ =>
 (bm_endS (s := s23) (Sub.s (Sub.s (Sub.s (Sub.s (Sub.a (Sub.s (Sub.s (Sub.a (Sub.a (Sub.a Sub.n)))))))))))) (fun s44 =>
 (bm_retJ (o' := s44) rfl (fun _ q => xs_ret (xp_callTy B_tuple cad_tupL (xar_cons (xr_own A5 rfl) xar_nil)) q)))))))))))))))))))))

abbrev s_law_orders : Stmt := topS 15
def Ns_law_orders : List Str := ["streams", "downs", "size", "found", "deep", "k", "into", "more", "i"]
theorem scs_law_orders : FnScope Ns_law_orders ["streams", "downs"] (defScope s_law_orders) := ⟨rfl, rfl, rfl, by decide +kernel, rfl, by decide +kernel, by decide +kernel⟩
theorem cts_law_orders {P : Program} {w : World} {K : Frag} {mg : Str → Option Value} {base : Heap} {k : Nat} {Tb : Tbs} {X : Cx} (hX : Fx P w K mg base Ns_law_orders (defScope s_law_orders) k X) (streams_ : (List Int)) (downs_ : (List (List Int)))
    (B_len : Bn X "len" (.builtin "len"))
    (B_range : Bn X "range" (.type "range"))
    (B_sorted : Bn X "sorted" (.builtin "sorted"))
    (B_tuple : Bn X "tuple" (.type "tuple")) :
    BM Tb X (defBody s_law_orders) [.fz ((eT eI) streams_), .fz ((eL (eL eI)) downs_), .any, .any, .any, .any, .any, .any, .any] (JR (fun r => Ro.fz ((eT eI) r))) (f_law_orders streams_ downs_) := by
  have A0 : At X "streams" 0 := hX.at rfl (by first | exact .inl rfl | exact .inr rfl) nm_streams.1 nm_streams.2
  have A1 : At X "downs" 1 := hX.at rfl (by first | exact .inl rfl | exact .inr rfl) nm_downs.1 nm_downs.2
  have A2 : At X "size" 2 := hX.at rfl (by first | exact .inl rfl | exact .inr rfl) nm_size.1 nm_size.2
  have T2 : Tg X "size" 2 := hX.tg rfl (by first | exact .inl rfl | exact .inr rfl)
  have A3 : At X "found" 3 := hX.at rfl (by first | exact .inl rfl | exact .inr rfl) nm_found.1 nm_found.2
  have T3 : Tg X "found" 3 := hX.tg rfl (by first | exact .inl rfl | exact .inr rfl)
  have A4 : At X "deep" 4 := hX.at rfl (by first | exact .inl rfl | exact .inr rfl) nm_deep.1 nm_deep.2
  have T4 : Tg X "deep" 4 := hX.tg rfl (by first | exact .inl rfl | exact .inr rfl)
  have A5 : At X "k" 5 := hX.at rfl (by first | exact .inl rfl | exact .inr rfl) nm_k.1 nm_k.2
  have T5 : Tg X "k" 5 := hX.tg rfl (by first | exact .inl rfl | exact .inr rfl)
  have A6 : At X "into" 6 := hX.at rfl (by first | exact .inl rfl | exact .inr rfl) nm_into.1 nm_into.2
  have T6 : Tg X "into" 6 := hX.tg rfl (by first | exact .inl rfl | exact .inr rfl)
  have A7 : At X "more" 7 := hX.at rfl (by first | exact .inl rfl | exact .inr rfl) nm_more.1 nm_more.2
  have T7 : Tg X "more" 7 := hX.tg rfl (by first | exact .inl rfl | exact .inr rfl)
  have n8 : X.N[8]? = some ("i" : Str) := by rw [hX.N]; rfl
  unfold f_law_orders
  exact (bm_bind fun size_1 hsize_1 =>
 (bm_st (fun _ q => xs_set T2 (XP.is (XP.is (xp_callB B_len cad_lenT (xar_cons (XP.r (xp_var A0 rfl)) xar_nil)) (len_map eI streams_)) (congrArg eI (Option.some.inj hsize_1))) q) (ds' := [.fz ((eT eI) streams_), .fz ((eL (eL eI)) downs_), .fz (eI size_1), .any, .any, .any, .any, .any, .any])
 (bm_bind fun t2 ht2 =>
 (bm_st (fun _ q => xs_setO T3 (XO.is (xo_rep (rep_ok ht2) (xo_lst (ys := [eI (0 : Int)]) (xa_cons xp_int xa_nil) (lnK 1)) (xp_var A2 rfl)) (rep_map ht2)) q) (ds' := [.fz ((eT eI) streams_), .fz ((eL (eL eI)) downs_), .fz (eI size_1), .ow (.lst (List.map eI t2)), .any, .any, .any, .any, .any])
 (bm_bind fun t3 ht3 =>
 (bm_forM (en := eI) (slots := (fun (s4 : (List Int)) => [.fz ((eT eI) streams_), .fz ((eL (eL eI)) downs_), .fz (eI size_1), .ow (.lst (List.map eI s4)), .any, .any, .any, .any, .any])) (s0 := t2) hX.bse (xi_rng1_m B_range (xa_cons (xp_bin opd_add (XP.r (xp_var A2 rfl)) (XP.r xp_int)) xa_nil) ht3) (Sub.s (Sub.s (Sub.s (Sub.s (Sub.a (Sub.a (Sub.a (Sub.a (Sub.a Sub.n))))))))) (fun x5 s4 => [.fz ((eT eI) streams_), .fz ((eL (eL eI)) downs_), .fz (eI size_1), .ow (.lst (List.map eI s4)), .fz (eI x5), .any, .any, .any, .any]) [4] (fun x5 s4 => (xg_name T4)) (fun x5 s4 => bm_map
 (bm_bind fun t6 ht6 =>
 (bm_forM (en := eI) (slots := (fun (s7 : (List Int)) => [.fz ((eT eI) streams_), .fz ((eL (eL eI)) downs_), .fz (eI size_1), .ow (.lst (List.map eI s7)), .fz (eI x5), .any, .any, .any, .any])) (s0 := s4) hX.bse (xi_rng1_m B_range (xa_cons (xp_var A2 rfl) xa_nil) ht6) (Sub.s (Sub.s (Sub.s (Sub.s (Sub.s (Sub.a (Sub.a (Sub.a (Sub.a Sub.n))))))))) (fun x8 s7 => [.fz ((eT eI) streams_), .fz ((eL (eL eI)) downs_), .fz (eI size_1), .ow (.lst (List.map eI s7)), .fz (eI x5), .fz (eI x8), .any, .any, .any]) [5] (fun x8 s7 => (xg_name T5)) (fun x8 s7 => bm_map
 (bm_bind fun t9 ht9 =>
 (bm_if1 (xt_cmp opd_eqI (XP.r (XP.is (xp_callB B_len cad_lenL (xar_cons (XP.r (xq_ixL (f := (eL eI)) (XP.r (xp_var A1 rfl)) (xp_var A5 rfl) ht9)) xar_nil)) (len_map eI t9))) (XP.r (xp_bin opd_sub (XP.r (xp_bin opd_add (XP.r (xp_var A2 rfl)) (XP.r xp_int))) (XP.r (xp_var A4 rfl)))) (nomark _)) (fun _ =>
 (bm_bind fun t10 ht10 =>
 (bm_bind fun t16 ht16 =>
 (bm_bind fun into_17 hinto_17 =>
 (bm_st (fun _ q => xs_set T6 (XP.is (XO.p (XO.is (xo_callB B_sorted (cao_sorted hX.deep (Sb.ok sbI lkI plI (by decide) _)) (xar_cons (XO.r (xo_lc (own := [("i", 8)]) hX.bse (by rw [hX.N, hX.sc]; exact blkOk_by (own := [("i", 8)]) (by decide +kernel)) (show Lc Tb _ _ _ _ _ _ _ _ _ eI eI (fun x11 => (Option.bind (idx streams_ x11) fun t12 => (some (decide (t12 = x8))))) (fun x11 => (Option.bind (idx s7 x11) fun t13 => (some t13))) (fun x11 => [.fz ((eT eI) streams_), .fz ((eL (eL eI)) downs_), .fz (eI size_1), .ow (.lst (List.map eI s7)), .fz (eI x5), .fz (eI x8), .any, .any, .fz (eI x11)]) [8] from ⟨(xi_rng1_c B_range (xa_cons (xp_var A2 rfl) xa_nil) ht10), (by decide), fun x11 _ _ _ _ _ => (xg_name (Tg.own hX.bse n8 (.inl rfl))), fun x11 _ _ _ _ _ _ hb => (let ⟨t12, ht12, q14⟩ := bind_some hb; xts_one (XT.is (xt_cmp opd_eqI (XP.r (xq_ixT (f := eI) (XP.r (xp_var (At.blk A0 rfl) rfl)) (xp_var (At.own n8 (.inl rfl) nm_i.1 nm_i.2) rfl) ht12)) (XP.r (xp_var (At.blk A5 rfl) rfl)) (nomark _)) (Option.some.inj q14))), fun x11 _ _ _ _ _ _ _ hb => (let ⟨t13, ht13, q15⟩ := bind_some hb; (XP.is (xq_ixL (f := eI) (xr_own (At.blk A3 rfl) rfl) (xp_var (At.own n8 (.inl rfl) nm_i.1 nm_i.2) rfl) ht13) (congrArg eI (Option.some.inj q15))))⟩) ht16)) xar_nil)) (congrArg Ob.lst (srt_map ltI_ _)))) (congrArg (eL eI) (Option.some.inj hinto_17))) q) (ds' := [.fz ((eT eI) streams_), .fz ((eL (eL eI)) downs_), .fz (eI size_1), .ow (.lst (List.map eI s7)), .fz (eI x5), .fz (eI x8), .fz ((eL eI) into_17), .any, .any])
 (bm_bind fun t20 ht20 =>
 (bm_st (fun _ q => xs_set T7 (xp_andM (xp_cmp opd_gt (XP.r (XP.is (xp_callB B_len cad_lenL (xar_cons (XP.r (xp_var A6 rfl)) xar_nil)) (len_map eI into_17))) (XP.r xp_int) (nomark _)) (fun _ => (xm_bind fun t18 ht18 => (xm_bind fun t19 ht19 => (xm_some (xp_one (xp_cmp opd_eqI (XP.r (xq_ixL (f := eI) (XP.r (xp_var A6 rfl)) (xp_un und_neg (XP.r xp_int)) ht18)) (XP.r (xq_ixL (f := eI) (XP.r (xp_var A6 rfl)) (xp_un und_neg (XP.r xp_int)) ht19)) (nomark _))))))) ht20) q) (ds' := [.fz ((eT eI) streams_), .fz ((eL (eL eI)) downs_), .fz (eI size_1), .ow (.lst (List.map eI s7)), .fz (eI x5), .fz (eI x8), .fz ((eL eI) into_17), .fz (eB t20), .any])
 (bm_bind fun t22 ht22 =>
 (bm_bind fun found_23 hfound_23 =>
 (bm_st (fun _ q => set_ix hfound_23 A3 (xp_ifM (en := eI) (xt_cmp opd_eqI (XP.r (XP.is (xp_callB B_len cad_lenL (xar_cons (XP.r (xp_var A6 rfl)) xar_nil)) (len_map eI into_17))) (XP.r xp_int) (nomark _)) (fun _ => (xm_some xp_int)) (fun _ => (xm_bind fun t21 ht21 => (xm_some (xp_bin opd_add (XP.r (xq_ixL (f := eI) (XP.r (xp_var A6 rfl)) (xp_un und_neg (XP.r xp_int)) ht21)) (XP.r (xp_ifP (en := eI) (xt_val (xp_var A7 rfl)) (fun _ => xp_int) (fun _ => xp_int))))))) ht22) (xp_var A5 rfl) rfl q) (ds' := [.fz ((eT eI) streams_), .fz ((eL (eL eI)) downs_), .fz (eI size_1), .ow (.lst (List.map eI found_23)), .fz (eI x5), .fz (eI x8), .fz ((eL eI) into_17), .fz (eB t20), .any])
 (bm_endM (s := found_23) (Sub.s (Sub.s (Sub.s (Sub.s (Sub.s (Sub.a (Sub.a (Sub.a (Sub.a Sub.n)))))))))))))))))))) (fun _ =>
 (bm_endM (s := s7) (Sub.s (Sub.s (Sub.s (Sub.s (Sub.s (Sub.a (Sub.a (Sub.a (Sub.a Sub.n)))))))))))))) (fun s7 =>
 (bm_endM (s := s7) (Sub.s (Sub.s (Sub.s (Sub.s (Sub.a (Sub.a (Sub.a (Sub.a (Sub.a Sub.n)))))))))))))) (fun s4 =>
 (bm_retJ (o' := s4) rfl (fun _ q => xs_ret (xp_callTy B_tuple cad_tupL (xar_cons (xr_own A3 rfl) xar_nil)) q)))))))))

abbrev s_law_is_tree : Stmt := topS 16
def Ns_law_is_tree : List Str := ["value", "h"]
theorem scs_law_is_tree : FnScope Ns_law_is_tree ["value", "h"] (defScope s_law_is_tree) := ⟨rfl, rfl, rfl, by decide +kernel, rfl, by decide +kernel, by decide +kernel⟩
theorem cts_law_is_tree {P : Program} {w : World} {K : Frag} {mg : Str → Option Value} {base : Heap} {k : Nat} {Tb : Tbs} {X : Cx} (hX : Fx P w K mg base Ns_law_is_tree (defScope s_law_is_tree) k X) (n : Nat) (value_ : Dt) (h_ : Int)
    (B_isinstance : Bn X "isinstance" (.builtin "isinstance"))
    (B_len : Bn X "len" (.builtin "len"))
    (B_tuple : Bn X "tuple" (.type "tuple"))
    (F__law_is_integer : Fn Tb X "_law_is_integer" 1 (fun ds ro => ∃ (a0 : Dt) (r : Bool), ds = [eA a0] ∧ ro = Ro.fz (eB r) ∧ f_law_is_integer a0 = some r))
    (F__law_is_tree : Fn Tb X "_law_is_tree" 2 (fun ds ro => ∃ (a0 : Dt) (a1 : Int) (r : Bool), ds = [eA a0, eI a1] ∧ ro = Ro.fz (eB r) ∧ f_law_is_tree n a0 a1 = some r)) :
    BM Tb X (defBody s_law_is_tree) [.fz (eA value_), .fz (eI h_)] (JR (fun r => Ro.fz (eB r))) (f_law_is_tree (n + 1) value_ h_) := by
  have A0 : At X "value" 0 := hX.at rfl (by first | exact .inl rfl | exact .inr rfl) nm_value.1 nm_value.2
  have A1 : At X "h" 1 := hX.at rfl (by first | exact .inl rfl | exact .inr rfl) nm_h.1 nm_h.2
  unfold f_law_is_tree
  exact (bm_bind fun t7 ht7 =>
 (bm_if (xt_w (xw_orM (xt_not (xt_val (xp_isi B_isinstance B_tuple (xp_var A0 rfl) (kit_tuple _)))) (fun _ => (fun z hz => (let ⟨t1, ht1, q8⟩ := bind_some hz; (let ⟨t4, ht4, q9⟩ := bind_some q8; (XW.is (xw_orM (xt_cmp (OpD.is (opd_niT hX.deep (Pl.ok plI (by decide) _) (Pl.oks plI (by decide) _)) (congrArg (fun z => PyData.bool (!z)) (inDs_map eqI _ _))) (XP.r (xp_lenA B_len (xp_var A0 rfl) ht1)) (XP.r (xp_tup (ys := [eI (1 : Int), eI (3 : Int)]) (xa_cons xp_int (xa_cons xp_int xa_nil)) (lnK 2))) rfl) (fun _ => (fun z hz => (let ⟨t2, ht2, q5⟩ := bind_some hz; (let ⟨t3, ht3, q6⟩ := bind_some q5; (XW.is (xw_or1 (xt_not (xt_val (xp_call F__law_is_integer (xa_cons (xp_ixA (xp_var A0 rfl) xp_int ht2) xa_nil) ⟨_, _, rfl, rfl, ht3⟩)))) (Option.some.inj q6)))))) ht4) (Option.some.inj q9)))))) ht7)) (fun _ =>
 (bm_retJ (o' := false) rfl (fun _ q => xs_ret xp_bl q))) (fun _ =>
 (bm_end (bm_bind fun t10 ht10 =>
 (bm_if (xt_cmp opd_eqI (XP.r (xp_lenA B_len (xp_var A0 rfl) ht10)) (XP.r xp_int) (nomark _)) (fun _ =>
 (bm_retJ (o' := true) rfl (fun _ q => xs_ret xp_bl q))) (fun _ =>
 (bm_end (bm_bind fun t16 ht16 =>
 (bm_retJ (o' := t16) rfl (fun _ q => xs_ret (xp_andM (xp_cmp opd_gt (XP.r (xp_var A1 rfl)) (XP.r xp_int) (nomark _)) (fun _ => (xm_bind fun t11 ht11 => (xm_bind fun t12 ht12 => (xm_bind fun t15 ht15 => (xm_some (xp_andM (xp_call F__law_is_tree (xa_cons (xp_ixA (xp_var A0 rfl) xp_int ht11) (xa_cons (xp_bin opd_sub (XP.r (xp_var A1 rfl)) (XP.r xp_int)) xa_nil)) ⟨_, _, _, rfl, rfl, ht12⟩) (fun _ => (xm_bind fun t13 ht13 => (xm_bind fun t14 ht14 => (xm_some (xp_one (xp_call F__law_is_tree (xa_cons (xp_ixA (xp_var A0 rfl) xp_int ht13) (xa_cons (xp_bin opd_sub (XP.r (xp_var A1 rfl)) (XP.r xp_int)) xa_nil)) ⟨_, _, _, rfl, rfl, ht14⟩)))))) ht15)))))) ht16) q)))))))))))

abbrev s_law_fan : Stmt := topS 17
def Ns_law_fan : List Str := ["downs", "k", "h", "tree", "one", "other"]
theorem scs_law_fan : FnScope Ns_law_fan ["downs", "k", "h", "tree"] (defScope s_law_fan) := ⟨rfl, rfl, rfl, by decide +kernel, rfl, by decide +kernel, by decide +kernel⟩
theorem cts_law_fan {P : Program} {w : World} {K : Frag} {mg : Str → Option Value} {base : Heap} {k : Nat} {Tb : Tbs} {X : Cx} (hX : Fx P w K mg base Ns_law_fan (defScope s_law_fan) k X) (n : Nat) (downs_ : (List (List Int))) (k_ : Int) (h_ : Int) (tree_ : Dt)
    (B_len : Bn X "len" (.builtin "len"))
    (F__law_fan : Fn Tb X "_law_fan" 4 (fun ds ro => ∃ (a0 : (List (List Int))) (a1 : Int) (a2 : Int) (a3 : Dt) (r : Bool), ds = [(eL (eL eI)) a0, eI a1, eI a2, eA a3] ∧ ro = Ro.fz (eB r) ∧ f_law_fan n a0 a1 a2 a3 = some r)) :
    BM Tb X (defBody s_law_fan) [.fz ((eL (eL eI)) downs_), .fz (eI k_), .fz (eI h_), .fz (eA tree_), .any, .any] (JR (fun r => Ro.fz (eB r))) (f_law_fan (n + 1) downs_ k_ h_ tree_) := by
  have A0 : At X "downs" 0 := hX.at rfl (by first | exact .inl rfl | exact .inr rfl) nm_downs.1 nm_downs.2
  have A1 : At X "k" 1 := hX.at rfl (by first | exact .inl rfl | exact .inr rfl) nm_k.1 nm_k.2
  have A2 : At X "h" 2 := hX.at rfl (by first | exact .inl rfl | exact .inr rfl) nm_h.1 nm_h.2
  have A3 : At X "tree" 3 := hX.at rfl (by first | exact .inl rfl | exact .inr rfl) nm_tree.1 nm_tree.2
  have A4 : At X "one" 4 := hX.at rfl (by first | exact .inl rfl | exact .inr rfl) nm_one.1 nm_one.2
  have T4 : Tg X "one" 4 := hX.tg rfl (by first | exact .inl rfl | exact .inr rfl)
  have A5 : At X "other" 5 := hX.at rfl (by first | exact .inl rfl | exact .inr rfl) nm_other.1 nm_other.2
  have T5 : Tg X "other" 5 := hX.tg rfl (by first | exact .inl rfl | exact .inr rfl)
  unfold f_law_fan
  exact (bm_bind fun t1 ht1 =>
 (bm_bind fun t2 ht2 =>
 (bm_bind fun t6 ht6 =>
 (bm_if (xt_w (xw_orM (xt_not (xt_chain opd_le opd_lt (XP.r xp_int) (XP.r (XP.de (f := eI) (xp_ixA (xp_var A3 rfl) xp_int ht1) deI ht2)) (fun _ => (XP.r (XP.is (xp_callB B_len cad_lenL (xar_cons (XP.r (xp_var A0 rfl)) xar_nil)) (len_map (eL eI) downs_)))))) (fun _ => (fun z hz => (let ⟨t3, ht3, q7⟩ := bind_some hz; (let ⟨t4, ht4, q8⟩ := bind_some q7; (let ⟨t5, ht5, q9⟩ := bind_some q8; (XW.is (xw_or1 (xt_cmp (OpD.is (opd_niL hX.deep (Pl.ok plI (by decide) _) (Pl.oks plI (by decide) _)) (congrArg (fun z => PyData.bool (!z)) (inDs_map eqI _ _))) (XP.r (xp_var A1 rfl)) (XP.r (xq_ixL (f := (eL eI)) (XP.r (xp_var A0 rfl)) (XP.de (f := eI) (xp_ixA (xp_var A3 rfl) xp_int ht3) deI ht4) ht5)) rfl)) (Option.some.inj q9))))))) ht6)) (fun _ =>
 (bm_retJ (o' := false) rfl (fun _ q => xs_ret xp_bl q))) (fun _ =>
 (bm_end (bm_bind fun t11 ht11 =>
 (bm_if (xt_w (xw_orM (xt_cmp opd_eqI (XP.r (xp_var A2 rfl)) (XP.r xp_int) (nomark _)) (fun _ => (fun z hz => (let ⟨t10, ht10, q12⟩ := bind_some hz; (XW.is (xw_or1 (xt_cmp opd_eqI (XP.r (xp_lenA B_len (xp_var A3 rfl) ht10)) (XP.r xp_int) (nomark _))) (Option.some.inj q12))))) ht11)) (fun _ =>
 (bm_bind fun t14 ht14 =>
 (bm_retJ (o' := t14) rfl (fun _ q => xs_ret (xp_andM (xp_cmp opd_eqI (XP.r (xp_var A2 rfl)) (XP.r xp_int) (nomark _)) (fun _ => (xm_bind fun t13 ht13 => (xm_some (xp_one (xp_cmp opd_eqI (XP.r (xp_lenA B_len (xp_var A3 rfl) ht13)) (XP.r xp_int) (nomark _)))))) ht14) q)))) (fun _ =>
 (bm_end (bm_bind fun t15 ht15 =>
 (bm_st (fun _ q => xs_set T4 (xp_ixA (xp_var A3 rfl) xp_int ht15) q) (ds' := [.fz ((eL (eL eI)) downs_), .fz (eI k_), .fz (eI h_), .fz (eA tree_), .fz (eA t15), .any])
 (bm_bind fun t16 ht16 =>
 (bm_st (fun _ q => xs_set T5 (xp_ixA (xp_var A3 rfl) xp_int ht16) q) (ds' := [.fz ((eL (eL eI)) downs_), .fz (eI k_), .fz (eI h_), .fz (eA tree_), .fz (eA t15), .fz (eA t16)])
 (bm_bind fun t17 ht17 =>
 (bm_bind fun t18 ht18 =>
 (bm_bind fun t19 ht19 =>
 (bm_bind fun t23 ht23 =>
 (bm_if (xt_w (xw_orM (xt_not (xt_val (xp_call F__law_fan (xa_cons (xp_var A0 rfl) (xa_cons (XP.de (f := eI) (xp_ixA (xp_var A3 rfl) xp_int ht17) deI ht18) (xa_cons (xp_bin opd_sub (XP.r (xp_var A2 rfl)) (XP.r xp_int)) (xa_cons (xp_var A4 rfl) xa_nil)))) ⟨_, _, _, _, _, rfl, rfl, ht19⟩))) (fun _ => (fun z hz => (let ⟨t20, ht20, q24⟩ := bind_some hz; (let ⟨t21, ht21, q25⟩ := bind_some q24; (let ⟨t22, ht22, q26⟩ := bind_some q25; (XW.is (xw_or1 (xt_not (xt_val (xp_call F__law_fan (xa_cons (xp_var A0 rfl) (xa_cons (XP.de (f := eI) (xp_ixA (xp_var A3 rfl) xp_int ht20) deI ht21) (xa_cons (xp_bin opd_sub (XP.r (xp_var A2 rfl)) (XP.r xp_int)) (xa_cons (xp_var A5 rfl) xa_nil)))) ⟨_, _, _, _, _, rfl, rfl, ht22⟩)))) (Option.some.inj q26))))))) ht23)) (fun _ =>
 (bm_retJ (o' := false) rfl (fun _ q => xs_ret xp_bl q))) (fun _ =>
 (bm_end (bm_bind fun t27 ht27 =>
 (bm_bind fun t31 ht31 =>
 (bm_bind fun t28 ht28 =>
 (bm_bind fun t29 ht29 =>
 (bm_bind fun t30 ht30 =>
 (bm_bind fun t37 ht37 =>
 (bm_retJ (o' := t37) rfl (fun _ q => xs_ret (xp_andM (xp_cmp (OpD.is (opd_niL hX.deep (Pl.ok plI (by decide) _) (Pl.oks plI (by decide) _)) (congrArg (fun z => PyData.bool (!z)) (inDs_map eqI _ _))) (XP.r (XP.de (f := eI) (xp_ixA (xp_var A4 rfl) xp_int ht27) deI ht31)) (XP.r (xq_ixL (f := (eL eI)) (XP.r (xp_var A0 rfl)) (XP.de (f := eI) (xp_ixA (xp_var A5 rfl) xp_int ht28) deI ht29) ht30)) rfl) (fun _ => (xm_bind fun t32 ht32 => (xm_bind fun t36 ht36 => (xm_bind fun t33 ht33 => (xm_bind fun t34 ht34 => (xm_bind fun t35 ht35 => (xm_some (xp_one (xp_cmp (OpD.is (opd_niL hX.deep (Pl.ok plI (by decide) _) (Pl.oks plI (by decide) _)) (congrArg (fun z => PyData.bool (!z)) (inDs_map eqI _ _))) (XP.r (XP.de (f := eI) (xp_ixA (xp_var A5 rfl) xp_int ht32) deI ht36)) (XP.r (xq_ixL (f := (eL eI)) (XP.r (xp_var A0 rfl)) (XP.de (f := eI) (xp_ixA (xp_var A4 rfl) xp_int ht33) deI ht34) ht35)) rfl))))))))) ht37) q)))))))))))))))))))))))))))))

abbrev s_law_trees : Stmt := topS 18
def Ns_law_trees : List Str := ["tree", "odd", "rows", "head", "part"]
theorem scs_law_trees : FnScope Ns_law_trees ["tree", "odd"] (defScope s_law_trees) := ⟨rfl, rfl, rfl, by decide +kernel, rfl, by decide +kernel, by decide +kernel⟩
theorem cts_law_trees {P : Program} {w : World} {K : Frag} {mg : Str → Option Value} {base : Heap} {k : Nat} {Tb : Tbs} {X : Cx} (hX : Fx P w K mg base Ns_law_trees (defScope s_law_trees) k X) (n : Nat) (tree_ : Dt) (odd_ : Int)
    (B_len : Bn X "len" (.builtin "len"))
    (F__law_trees : Fn Tb X "_law_trees" 2 (fun ds ro => ∃ (a0 : Dt) (a1 : Int) (r : (List Dt)), ds = [eA a0, eI a1] ∧ ro = Ro.ow (Ob.lst (List.map eA r)) ∧ f_law_trees n a0 a1 = some r)) :
    BM Tb X (defBody s_law_trees) [.fz (eA tree_), .fz (eI odd_), .any, .any, .any] (JR (fun r => Ro.ow (Ob.lst (List.map eA r)))) (f_law_trees (n + 1) tree_ odd_) := by
  have A0 : At X "tree" 0 := hX.at rfl (by first | exact .inl rfl | exact .inr rfl) nm_tree.1 nm_tree.2
  have A1 : At X "odd" 1 := hX.at rfl (by first | exact .inl rfl | exact .inr rfl) nm_odd.1 nm_odd.2
  have A2 : At X "rows" 2 := hX.at rfl (by first | exact .inl rfl | exact .inr rfl) nm_rows.1 nm_rows.2
  have T2 : Tg X "rows" 2 := hX.tg rfl (by first | exact .inl rfl | exact .inr rfl)
  have A3 : At X "head" 3 := hX.at rfl (by first | exact .inl rfl | exact .inr rfl) nm_head.1 nm_head.2
  have T3 : Tg X "head" 3 := hX.tg rfl (by first | exact .inl rfl | exact .inr rfl)
  have A4 : At X "part" 4 := hX.at rfl (by first | exact .inl rfl | exact .inr rfl) nm_part.1 nm_part.2
  have T4 : Tg X "part" 4 := hX.tg rfl (by first | exact .inl rfl | exact .inr rfl)
  unfold f_law_trees
  exact (bm_bind fun t1 ht1 =>
 (bm_bind fun t2 ht2 =>
 (bm_bind fun rows_3 hrows_3 =>
 (bm_st (fun _ q => xs_setO T2 (XO.is (xo_lst (ys := [eA tree_, eA (PyData.tuple t2)]) (xa_cons (xp_var A0 rfl) (xa_cons (XP.ta (xs := t2) (XP.is (xp_bin (opd_catT (cat_len (ite_some ht2).1)) (XP.r (xp_tup (ys := [eA (eI odd_)]) (xa_cons (xp_var A1 rfl) xa_nil) (lnK 1))) (XP.r (XP.is (xp_slT (XP.r (XP.de (f := (eT eA)) (xp_var A0 rfl) (deT deA) ht1)) (xpo_some xp_int) xpo_none) (cutT_map eA t1 _ _)))) (cat_map ht2))) xa_nil)) (lnK 2)) (congrArg (fun z => Ob.lst (List.map eA z)) (Option.some.inj hrows_3))) q) (ds' := [.fz (eA tree_), .fz (eI odd_), .ow (.lst (List.map eA rows_3)), .any, .any])
 (bm_bind fun t4 ht4 =>
 (bm_if (xt_cmp opd_eqI (XP.r (xp_lenA B_len (xp_var A0 rfl) ht4)) (XP.r xp_int) (nomark _)) (fun _ =>
 (bm_bind fun t5 ht5 =>
 (bm_bind fun t6 ht6 =>
 (bm_retJ (o' := t6) rfl (fun _ q => xs_retO (XO.is (xo_catVL (cat_len (ite_some ht6).1) A2 rfl (xo_lst (ys := [eA ((eP3 eA eA eA) (t5, tree_, tree_))]) (xa_cons (xp_tup (ys := [eA t5, eA tree_, eA tree_]) (xa_cons (xp_ixA (xp_var A0 rfl) xp_int ht5) (xa_cons (xp_var A0 rfl) (xa_cons (xp_var A0 rfl) xa_nil))) (lnK 3)) xa_nil) (lnK 1))) (cat_mapL ht6)) q))))) (fun _ =>
 (bm_end (bm_bind fun t7 ht7 =>
 (bm_st (fun _ q => xs_set T3 (xp_ixA (xp_var A0 rfl) xp_int ht7) q) (ds' := [.fz (eA tree_), .fz (eI odd_), .ow (.lst (List.map eA rows_3)), .fz (eA t7), .any])
 (bm_bind fun t8 ht8 =>
 (bm_bind fun t9 ht9 =>
 (bm_bind fun t10 ht10 =>
 (bm_bind fun t11 ht11 =>
 (bm_bind fun t12 ht12 =>
 (bm_bind fun t13 ht13 =>
 (bm_bind fun t14 ht14 =>
 (bm_st (fun _ q => xs_setO T2 (XO.is (xo_catVL (cat_len (ite_some ht14).1) A2 rfl (xo_lst (ys := [eA (PyData.tuple [t7]), eA ((eP3 eA eA eA) (t7, t8, t9)), eA ((eP3 eA eA eA) (t7, t10, t11)), eA t12, eA ((eP3 eA eA eA) (t7, tree_, t13))]) (xa_cons (XP.ta (xs := [t7]) (xp_tup (ys := [eA t7]) (xa_cons (xp_var A3 rfl) xa_nil) (lnK 1))) (xa_cons (xp_tup (ys := [eA t7, eA t8, eA t9]) (xa_cons (xp_var A3 rfl) (xa_cons (xp_ixA (xp_var A0 rfl) xp_int ht8) (xa_cons (xp_ixA (xp_var A0 rfl) xp_int ht9) xa_nil))) (lnK 3)) (xa_cons (xp_tup (ys := [eA t7, eA t10, eA t11]) (xa_cons (xp_var A3 rfl) (xa_cons (xp_ixA (xp_var A0 rfl) xp_int ht10) (xa_cons (xp_ixA (xp_var A0 rfl) xp_int ht11) xa_nil))) (lnK 3)) (xa_cons (xp_ixA (xp_var A0 rfl) xp_int ht12) (xa_cons (xp_tup (ys := [eA t7, eA tree_, eA t13]) (xa_cons (xp_var A3 rfl) (xa_cons (xp_var A0 rfl) (xa_cons (xp_ixA (xp_var A0 rfl) xp_int ht13) xa_nil))) (lnK 3)) xa_nil))))) (lnK 5))) (cat_mapL ht14)) q) (ds' := [.fz (eA tree_), .fz (eI odd_), .ow (.lst (List.map eA t14)), .fz (eA t7), .any])
 (bm_bind fun t15 ht15 =>
 (bm_bind fun t16 ht16 =>
 (bm_forM (en := eA) (slots := (fun (s17 : (List Dt)) => [.fz (eA tree_), .fz (eI odd_), .ow (.lst (List.map eA s17)), .fz (eA t7), .any])) (s0 := t14) hX.bse (xi_lst (XO.p (xo_call F__law_trees (xa_cons (xp_ixA (xp_var A0 rfl) xp_int ht15) (xa_cons (xp_var A1 rfl) xa_nil)) ⟨_, _, _, rfl, rfl, ht16⟩))) (Sub.s (Sub.s (Sub.s (Sub.s (Sub.a Sub.n))))) (fun x18 s17 => [.fz (eA tree_), .fz (eI odd_), .ow (.lst (List.map eA s17)), .fz (eA t7), .fz (eA x18)]) [4] (fun x18 s17 => (xg_name T4)) (fun x18 s17 => bm_map
 (bm_bind fun t19 ht19 =>
 (bm_bind fun rows_20 hrows_20 =>
 (bm_st (fun _ q => app_st hrows_20 A2 rfl (xp_tup (ys := [eA t7, eA x18, eA t19]) (xa_cons (xp_var A3 rfl) (xa_cons (xp_var A4 rfl) (xa_cons (xp_ixA (xp_var A0 rfl) xp_int ht19) xa_nil))) (lnK 3)) q) (ds' := [.fz (eA tree_), .fz (eI odd_), .ow (.lst (List.map eA rows_20)), .fz (eA t7), .fz (eA x18)])
 (bm_endM (s := rows_20) (Sub.s (Sub.s (Sub.s (Sub.s (Sub.a Sub.n)))))))))) (fun s17 =>
 (bm_bind fun t21 ht21 =>
 (bm_bind fun t22 ht22 =>
 (bm_forM (en := eA) (slots := (fun (s23 : (List Dt)) => [.fz (eA tree_), .fz (eI odd_), .ow (.lst (List.map eA s23)), .fz (eA t7), .any])) (s0 := s17) hX.bse (xi_lst (XO.p (xo_call F__law_trees (xa_cons (xp_ixA (xp_var A0 rfl) xp_int ht21) (xa_cons (xp_var A1 rfl) xa_nil)) ⟨_, _, _, rfl, rfl, ht22⟩))) (Sub.s (Sub.s (Sub.s (Sub.s (Sub.a Sub.n))))) (fun x24 s23 => [.fz (eA tree_), .fz (eI odd_), .ow (.lst (List.map eA s23)), .fz (eA t7), .fz (eA x24)]) [4] (fun x24 s23 => (xg_name T4)) (fun x24 s23 => bm_map
 (bm_bind fun t25 ht25 =>
 (bm_bind fun rows_26 hrows_26 =>
 (bm_st (fun _ q => app_st hrows_26 A2 rfl (xp_tup (ys := [eA t7, eA t25, eA x24]) (xa_cons (xp_var A3 rfl) (xa_cons (xp_ixA (xp_var A0 rfl) xp_int ht25) (xa_cons (xp_var A4 rfl) xa_nil))) (lnK 3)) q) (ds' := [.fz (eA tree_), .fz (eI odd_), .ow (.lst (List.map eA rows_26)), .fz (eA t7), .fz (eA x24)])
 (bm_endM (s := rows_26) (Sub.s (Sub.s (Sub.s (Sub.s (Sub.a Sub.n)))))))))) (fun s23 =>
 (bm_retJ (o' := s23) rfl (fun _ q => xs_retV A2 rfl q))))))))))))))))))))))))))))

abbrev s_law_bush : Stmt := topS 19
def Ns_law_bush : List Str := ["draws", "size", "found", "at"]
theorem scs_law_bush : FnScope Ns_law_bush ["draws"] (defScope s_law_bush) := ⟨rfl, rfl, rfl, by decide +kernel, rfl, by decide +kernel, by decide +kernel⟩
theorem cts_law_bush {P : Program} {w : World} {K : Frag} {mg : Str → Option Value} {base : Heap} {k : Nat} {Tb : Tbs} {X : Cx} (hX : Fx P w K mg base Ns_law_bush (defScope s_law_bush) k X) (draws_ : (List Int))
    (B_int : Bn X "int" (.type "int"))
    (B_range : Bn X "range" (.type "range"))
    (B_tuple : Bn X "tuple" (.type "tuple")) :
    BM Tb X (defBody s_law_bush) [.fz ((eL eI) draws_), .any, .any, .any] (JR (fun r => Ro.fz ((eT eI) r))) (f_law_bush draws_) := by
  have A0 : At X "draws" 0 := hX.at rfl (by first | exact .inl rfl | exact .inr rfl) nm_draws.1 nm_draws.2
  have A1 : At X "size" 1 := hX.at rfl (by first | exact .inl rfl | exact .inr rfl) nm_size.1 nm_size.2
  have T1 : Tg X "size" 1 := hX.tg rfl (by first | exact .inl rfl | exact .inr rfl)
  have A2 : At X "found" 2 := hX.at rfl (by first | exact .inl rfl | exact .inr rfl) nm_found.1 nm_found.2
  have T2 : Tg X "found" 2 := hX.tg rfl (by first | exact .inl rfl | exact .inr rfl)
  have n3 : X.N[3]? = some ("at" : Str) := by rw [hX.N]; rfl
  have A3 : At X "at" 3 := hX.at rfl (by first | exact .inl rfl | exact .inr rfl) nm_at.1 nm_at.2
  have T3 : Tg X "at" 3 := hX.tg rfl (by first | exact .inl rfl | exact .inr rfl)
  unfold f_law_bush
  exact (bm_bind fun t1 ht1 =>
 (bm_bind fun t2 ht2 =>
 (bm_st (fun _ q => xs_set T1 (xq_ixT (f := eI) (XP.r (xp_tup (ys := [eI (7 : Int), eI (15 : Int), eI (3 : Int)]) (xa_cons xp_int (xa_cons xp_int (xa_cons xp_int xa_nil))) (lnK 3))) (xp_bin (opd_mod (by decide)) (XP.r (xp_callTy B_int cad_int (xar_cons (XP.r (xq_ixL (f := eI) (XP.r (xp_var A0 rfl)) xp_int ht1)) xar_nil))) (XP.r xp_int)) ht2) q) (ds' := [.fz ((eL eI) draws_), .fz (eI t2), .any, .any])
 (bm_bind fun t3 ht3 =>
 (bm_bind fun t5 ht5 =>
 (bm_st (fun _ q => xs_setO T2 (XO.is (xo_catL (cat_len (ite_some ht5).1) (xo_lst (ys := [eI ((0 : Int) - (1 : Int))]) (xa_cons (xp_bin opd_sub (XP.r xp_int) (XP.r xp_int)) xa_nil) (lnK 1)) (xo_lc (own := [("at", 3)]) hX.bse (by rw [hX.N, hX.sc]; exact blkOk_by (own := [("at", 3)]) (by decide +kernel)) (show Lc Tb _ _ _ _ _ _ _ _ _ eI eI (fun _ => some true) (fun x4 => some ((x4 - (1 : Int)) / (2 : Int))) (fun x4 => [.fz ((eL eI) draws_), .fz (eI t2), .any, .fz (eI x4)]) [3] from ⟨(xi_rng2_c B_range (xa_cons xp_int (xa_cons (xp_var A1 rfl) xa_nil)) ht3), (by decide), fun x4 _ _ _ _ _ => (xg_name (Tg.own hX.bse n3 (.inl rfl))), fun _ _ _ _ _ _ _ hb => (by cases hb; exact xts_nil), fun x4 _ _ _ _ _ _ _ hb => (by cases hb; exact (xp_bin (opd_fdiv (by decide)) (XP.r (xp_bin opd_sub (XP.r (xp_var (At.own n3 (.inl rfl) nm_at.1 nm_at.2) rfl)) (XP.r xp_int))) (XP.r xp_int)))⟩) (compM_all'))) (cat_mapL ht5)) q) (ds' := [.fz ((eL eI) draws_), .fz (eI t2), .ow (.lst (List.map eI t5)), .any])
 (bm_bind fun t6 ht6 =>
 (bm_ifS (slots := (fun (s7 : (List Int)) => [.fz ((eL eI) draws_), .fz (eI t2), .ow (.lst (List.map eI s7)), .any])) (xt_w (xw_and (xt_cmp opd_gt (XP.r (xp_bin (opd_mod (by decide)) (XP.r (xp_callTy B_int cad_int (xar_cons (XP.r (xq_ixL (f := eI) (XP.r (xp_var A0 rfl)) xp_int ht6)) xar_nil))) (XP.r xp_int))) (XP.r xp_int) (nomark _)) (fun _ => (xw_and1 (xt_cmp opd_lt (XP.r (xp_var A1 rfl)) (XP.r xp_int) (nomark _)))))) (fun _ =>
 (bm_bind fun t14 ht14 =>
 (bm_bind fun t15 ht15 =>
 (bm_st (fun _ q => xs_set T3 (XP.is (xp_bin (opd_mod (ite_some ht15).1) (XP.r (xp_callTy B_int cad_int (xar_cons (XP.r (xq_ixL (f := eI) (XP.r (xp_var A0 rfl)) xp_int ht14)) xar_nil))) (XP.r (xp_var A1 rfl))) (congrArg eI (ite_some ht15).2)) q) (ds' := [.fz ((eL eI) draws_), .fz (eI t2), .ow (.lst (List.map eI t5)), .fz (eI t15)])
 (bm_bind fun t16 ht16 =>
 (bm_bind fun t17 ht17 =>
 (bm_st (fun _ q => xs_setO T2 (XO.is (xo_catVL (cat_len (ite_some ht17).1) A2 rfl (XO.is (xo_slL (XO.r (xo_lst (ys := [eI t15, eI t2, eI t2]) (xa_cons (xp_var A3 rfl) (xa_cons (xp_var A1 rfl) (xa_cons (xp_var A1 rfl) xa_nil))) (lnK 3))) xpo_none (xpo_some (xp_bin opd_add (XP.r xp_int) (XP.r (xp_bin (opd_mod (by decide)) (XP.r (xp_callTy B_int cad_int (xar_cons (XP.r (xq_ixL (f := eI) (XP.r (xp_var A0 rfl)) xp_int ht16)) xar_nil))) (XP.r xp_int)))))) (cutL_map eI [t15, t2, t2] _ _))) (cat_mapL ht17)) q) (ds' := [.fz ((eL eI) draws_), .fz (eI t2), .ow (.lst (List.map eI t17)), .fz (eI t15)])
 (bm_endS (s := t17) (Sub.s (Sub.s (Sub.s (Sub.a Sub.n)))))))))))) (fun _ =>
 (bm_bind fun t18 ht18 =>
 (bm_bind fun found_19 hfound_19 =>
 (bm_st (fun _ q => xs_setO T2 (XO.is (XO.is (xo_slL (xr_own A2 rfl) xpo_none (xpo_some (xp_bin opd_sub (XP.r (xp_var A1 rfl)) (XP.r (xp_bin (opd_mod (by decide)) (XP.r (xp_callTy B_int cad_int (xar_cons (XP.r (xq_ixL (f := eI) (XP.r (xp_var A0 rfl)) xp_int ht18)) xar_nil))) (XP.r xp_int)))))) (cutL_map eI t5 _ _)) (congrArg (fun z => Ob.lst (List.map eI z)) (Option.some.inj hfound_19))) q) (ds' := [.fz ((eL eI) draws_), .fz (eI t2), .ow (.lst (List.map eI found_19)), .any])
 (bm_endS (s := found_19) (Sub.s (Sub.s (Sub.s (Sub.a Sub.n))))))))) (fun s7 =>
 (bm_retJ (o' := s7) rfl (fun _ q => xs_ret (xp_callTy B_tuple cad_tupL (xar_cons (xr_own A2 rfl) xar_nil)) q)))))))))))

abbrev s_law_right : Stmt := topS 20
def Ns_law_right : List Str := ["streams", "draws", "size", "downs", "due", "k", "last", "h", "odd", "tree", "other", "i", "found"]
theorem scs_law_right : FnScope Ns_law_right ["streams", "draws"] (defScope s_law_right) := ⟨rfl, rfl, rfl, by decide +kernel, rfl, by decide +kernel, by decide +kernel⟩
theorem cts_law_right {P : Program} {w : World} {K : Frag} {mg : Str → Option Value} {base : Heap} {k : Nat} {Tb : Tbs} {X : Cx} (hX : Fx P w K mg base Ns_law_right (defScope s_law_right) k X) (streams_ : (List Int)) (draws_ : (List Int))
    (B_int : Bn X "int" (.type "int"))
    (B_len : Bn X "len" (.builtin "len"))
    (B_max : Bn X "max" (.builtin "max"))
    (B_range : Bn X "range" (.type "range"))
    (F__law_fan : Fn Tb X "_law_fan" 4 (fun ds ro => ∃ (a0 : (List (List Int))) (a1 : Int) (a2 : Int) (a3 : Dt) (r : Bool), ds = [(eL (eL eI)) a0, eI a1, eI a2, eA a3] ∧ ro = Ro.fz (eB r) ∧ f_law_fan 9 a0 a1 a2 a3 = some r))
    (F__law_is : Fn Tb X "_law_is" 2 (fun ds ro => ∃ (a0 : Dt) (a1 : Dt) (r : Bool), ds = [eA a0, eA a1] ∧ ro = Ro.fz (eB r) ∧ f_law_is 8 a0 a1 = some r))
    (F__law_is_tree : Fn Tb X "_law_is_tree" 2 (fun ds ro => ∃ (a0 : Dt) (a1 : Int) (r : Bool), ds = [eA a0, eI a1] ∧ ro = Ro.fz (eB r) ∧ f_law_is_tree 9 a0 a1 = some r))
    (F__law_orders : Fn Tb X "_law_orders" 2 (fun ds ro => ∃ (a0 : (List Int)) (a1 : (List (List Int))) (r : (List Int)), ds = [(eT eI) a0, (eL (eL eI)) a1] ∧ ro = Ro.fz ((eT eI) r) ∧ f_law_orders a0 a1 = some r))
    (F__law_trees : Fn Tb X "_law_trees" 2 (fun ds ro => ∃ (a0 : Dt) (a1 : Int) (r : (List Dt)), ds = [eA a0, eI a1] ∧ ro = Ro.ow (Ob.lst (List.map eA r)) ∧ f_law_trees 9 a0 a1 = some r))
    (F_fan : Fn Tb X "fan" 3 (fun ds ro => ∃ (a0 : (List Int)) (a1 : Int) (a2 : Int) (r : Dt), ds = [(eT eI) a0, eI a1, eI a2] ∧ ro = Ro.fz (eA r) ∧ f_fan 8 a0 a1 a2 = some r))
    (F_is_fan : Fn Tb X "is_fan" 4 (fun ds ro => ∃ (a0 : (List Int)) (a1 : Int) (a2 : Int) (a3 : Dt) (r : Bool), ds = [(eT eI) a0, eI a1, eI a2, eA a3] ∧ ro = Ro.fz (eB r) ∧ f_is_fan 9 a0 a1 a2 a3 = some r))
    (F_orders : Fn Tb X "orders" 1 (fun ds ro => ∃ (a0 : (List Int)) (r : (List Int)), ds = [(eT eI) a0] ∧ ro = Ro.fz ((eT eI) r) ∧ f_orders a0 = some r))
    (F0__law_down : Fn0 Tb X "_law_down" 2 (fun ds ro => ∃ (a0 : (List Int)) (a1 : Int) (r : (List Int)), ds = [(eT eI) a0, eI a1] ∧ ro = Ro.ow (Ob.lst (List.map eI r)) ∧ f_law_down a0 a1 = some r)) :
    BM Tb X (defBody s_law_right) [.fz ((eT eI) streams_), .fz ((eL eI) draws_), .any, .any, .any, .any, .any, .any, .any, .any, .any, .any, .any] (JR (fun r => Ro.fz (eB r))) (f_law_right streams_ draws_) := by
  have A0 : At X "streams" 0 := hX.at rfl (by first | exact .inl rfl | exact .inr rfl) nm_streams.1 nm_streams.2
  have A1 : At X "draws" 1 := hX.at rfl (by first | exact .inl rfl | exact .inr rfl) nm_draws.1 nm_draws.2
  have A2 : At X "size" 2 := hX.at rfl (by first | exact .inl rfl | exact .inr rfl) nm_size.1 nm_size.2
  have T2 : Tg X "size" 2 := hX.tg rfl (by first | exact .inl rfl | exact .inr rfl)
  have n3 : X.N[3]? = some ("downs" : Str) := by rw [hX.N]; rfl
  have A3 : At X "downs" 3 := hX.at rfl (by first | exact .inl rfl | exact .inr rfl) nm_downs.1 nm_downs.2
  have A4 : At X "due" 4 := hX.at rfl (by first | exact .inl rfl | exact .inr rfl) nm_due.1 nm_due.2
  have T4 : Tg X "due" 4 := hX.tg rfl (by first | exact .inl rfl | exact .inr rfl)
  have A5 : At X "k" 5 := hX.at rfl (by first | exact .inl rfl | exact .inr rfl) nm_k.1 nm_k.2
  have T5 : Tg X "k" 5 := hX.tg rfl (by first | exact .inl rfl | exact .inr rfl)
  have A6 : At X "last" 6 := hX.at rfl (by first | exact .inl rfl | exact .inr rfl) nm_last.1 nm_last.2
  have T6 : Tg X "last" 6 := hX.tg rfl (by first | exact .inl rfl | exact .inr rfl)
  have A7 : At X "h" 7 := hX.at rfl (by first | exact .inl rfl | exact .inr rfl) nm_h.1 nm_h.2
  have T7 : Tg X "h" 7 := hX.tg rfl (by first | exact .inl rfl | exact .inr rfl)
  have A8 : At X "odd" 8 := hX.at rfl (by first | exact .inl rfl | exact .inr rfl) nm_odd.1 nm_odd.2
  have T8 : Tg X "odd" 8 := hX.tg rfl (by first | exact .inl rfl | exact .inr rfl)
  have A9 : At X "tree" 9 := hX.at rfl (by first | exact .inl rfl | exact .inr rfl) nm_tree.1 nm_tree.2
  have T9 : Tg X "tree" 9 := hX.tg rfl (by first | exact .inl rfl | exact .inr rfl)
  have A10 : At X "other" 10 := hX.at rfl (by first | exact .inl rfl | exact .inr rfl) nm_other.1 nm_other.2
  have T10 : Tg X "other" 10 := hX.tg rfl (by first | exact .inl rfl | exact .inr rfl)
  have n11 : X.N[11]? = some ("i" : Str) := by rw [hX.N]; rfl
  have A12 : At X "found" 12 := hX.at rfl (by first | exact .inl rfl | exact .inr rfl) nm_found.1 nm_found.2
  have T12 : Tg X "found" 12 := hX.tg rfl (by first | exact .inl rfl | exact .inr rfl)
  have L3 : X.env.scope.names.lookup ("downs" : Str) = some .local := by rw [hX.sc]; rfl
  unfold f_law_right
  exact (bm_bind fun size_1 hsize_1 =>
 (bm_st (fun _ q => xs_set T2 (XP.is (XP.is (xp_callB B_len cad_lenT (xar_cons (XP.r (xp_var A0 rfl)) xar_nil)) (len_map eI streams_)) (congrArg eI (Option.some.inj hsize_1))) q) (ds' := [.fz ((eT eI) streams_), .fz ((eL eI) draws_), .fz (eI size_1), .any, .any, .any, .any, .any, .any, .any, .any, .any, .any])
 (bm_bind fun t2 ht2 =>
 (bm_bind fun t6 ht6 =>
 (bm_st (fun _ q => xs_setC (own := [("i", 11)]) hX.bse n3 L3 (sw_true (by rw [hX.sc]; rfl) L3 rfl rfl) (by rw [hX.N, hX.sc]; exact blkOk_by (own := [("i", 11)]) (by decide +kernel)) (show Lc Tb _ _ _ _ _ _ _ _ _ eI (eL eI) (fun _ => some true) (fun x3 => (Option.bind (f_law_down streams_ x3) fun t4 => (some t4))) (fun x3 => [.fz ((eT eI) streams_), .fz ((eL eI) draws_), .fz (eI size_1), .any, .any, .any, .any, .any, .any, .any, .any, .fz (eI x3), .any]) [11] from ⟨(xi_rng1_c B_range (xa_cons (xp_var A2 rfl) xa_nil) ht2), (by decide), fun x3 _ _ _ _ _ => (xg_name (Tg.own hX.bse n11 (.inl rfl))), fun _ _ _ _ _ _ _ hb => (by cases hb; exact xts_nil), fun x3 _ _ _ _ _ _ _ hb => (let ⟨t4, ht4, q5⟩ := bind_some hb; (XP.is (XO.p (xo_call (Fn0.blk F0__law_down rfl) (xa_cons (xp_var (At.blk A0 rfl) rfl) (xa_cons (xp_var (At.own n11 (.inl rfl) nm_i.1 nm_i.2) rfl) xa_nil)) ⟨_, _, _, rfl, rfl, ht4⟩)) (congrArg (eL eI) (Option.some.inj q5))))⟩) ht6 q) (ds' := [.fz ((eT eI) streams_), .fz ((eL eI) draws_), .fz (eI size_1), .ow (.lst (List.map (eL eI) t6)), .any, .any, .any, .any, .any, .any, .any, .any, .any]) (bm_frz (i := 3) rfl (show BM Tb _ _ [.fz ((eT eI) streams_), .fz ((eL eI) draws_), .fz (eI size_1), .fz ((eL (eL eI)) t6), .any, .any, .any, .any, .any, .any, .any, .any, .any] _ _ from
 (bm_bind fun t7 ht7 =>
 (bm_st (fun _ q => xs_set T4 (xp_call F__law_orders (xa_cons (xp_var A0 rfl) (xa_cons (xp_var A3 rfl) xa_nil)) ⟨_, _, _, rfl, rfl, ht7⟩) q) (ds' := [.fz ((eT eI) streams_), .fz ((eL eI) draws_), .fz (eI size_1), .fz ((eL (eL eI)) t6), .fz ((eT eI) t7), .any, .any, .any, .any, .any, .any, .any, .any])
 (bm_bind fun t8 ht8 =>
 (bm_bind fun t9 ht9 =>
 (bm_if (xt_not (xt_val (xp_call F__law_is (xa_cons (xp_call F_orders (xa_cons (xp_var A0 rfl) xa_nil) ⟨_, _, rfl, rfl, ht8⟩) (xa_cons (xp_var A4 rfl) xa_nil)) ⟨_, _, _, rfl, rfl, ht9⟩))) (fun _ =>
 (bm_retJ (o' := false) rfl (fun _ q => xs_ret xp_bl q))) (fun _ =>
 (bm_end (bm_bind fun t10 ht10 =>
 (bm_for (en := eI) (slots := (fun (s11 : Unit) => [.fz ((eT eI) streams_), .fz ((eL eI) draws_), .fz (eI size_1), .fz ((eL (eL eI)) t6), .fz ((eT eI) t7), .any, .any, .any, .any, .any, .any, .any, .any])) (rt := (fun r ro => ro = (fun r => Ro.fz (eB r)) r)) (s0 := ()) (inj := id) hX.bse (xi_rng1_m B_range (xa_cons (xp_var A2 rfl) xa_nil) ht10) (Sub.s (Sub.s (Sub.s (Sub.s (Sub.s (Sub.a (Sub.a (Sub.a (Sub.a (Sub.a (Sub.a (Sub.a (Sub.a Sub.n))))))))))))) (fun x12 s11 => [.fz ((eT eI) streams_), .fz ((eL eI) draws_), .fz (eI size_1), .fz ((eL (eL eI)) t6), .fz ((eT eI) t7), .fz (eI x12), .any, .any, .any, .any, .any, .any, .any]) [5] (fun x12 s11 => (xg_name T5)) (fun x12 s11 =>
 (bm_bind fun last_13 hlast_13 =>
 (bm_st (fun _ q => xs_set T6 (XP.is (xp_tup (ys := [eI ((0 : Int) - (1 : Int))]) (xa_cons (xp_bin opd_sub (XP.r xp_int) (XP.r xp_int)) xa_nil) (lnK 1)) (congrArg eA (Option.some.inj hlast_13))) q) (ds' := [.fz ((eT eI) streams_), .fz ((eL eI) draws_), .fz (eI size_1), .fz ((eL (eL eI)) t6), .fz ((eT eI) t7), .fz (eI x12), .fz (eA last_13), .any, .any, .any, .any, .any, .any])
 (bm_bind fun t14 ht14 =>
 (bm_bind fun t15 ht15 =>
 (bm_for (en := eI) (slots := (fun (s16 : Dt) => [.fz ((eT eI) streams_), .fz ((eL eI) draws_), .fz (eI size_1), .fz ((eL (eL eI)) t6), .fz ((eT eI) t7), .fz (eI x12), .fz (eA s16), .any, .any, .any, .any, .any, .any])) (rt := (fun r ro => ro = (fun r => Ro.fz (eB r)) r)) (s0 := last_13) (inj := Fl.rt) hX.bse (xi_rng2_m B_range (xa_cons xp_int (xa_cons (xp_bin opd_add (XP.r (xq_ixT (f := eI) (XP.r (xp_var A4 rfl)) (xp_var A5 rfl) ht14)) (XP.r xp_int)) xa_nil)) ht15) (Sub.s (Sub.s (Sub.s (Sub.s (Sub.s (Sub.s (Sub.s (Sub.a (Sub.a (Sub.a (Sub.a (Sub.a (Sub.a Sub.n))))))))))))) (fun x17 s16 => [.fz ((eT eI) streams_), .fz ((eL eI) draws_), .fz (eI size_1), .fz ((eL (eL eI)) t6), .fz ((eT eI) t7), .fz (eI x12), .fz (eA s16), .fz (eI x17), .any, .any, .any, .any, .any]) [7] (fun x17 s16 => (xg_name T7)) (fun x17 s16 =>
 (bm_bind fun t18 ht18 =>
 (bm_st (fun _ q => xs_set T12 (xp_call F_fan (xa_cons (xp_var A0 rfl) (xa_cons (xp_var A5 rfl) (xa_cons (xp_var A7 rfl) xa_nil))) ⟨_, _, _, _, rfl, rfl, ht18⟩) q) (ds' := [.fz ((eT eI) streams_), .fz ((eL eI) draws_), .fz (eI size_1), .fz ((eL (eL eI)) t6), .fz ((eT eI) t7), .fz (eI x12), .fz (eA s16), .fz (eI x17), .any, .any, .any, .any, .fz (eA t18)])
 (bm_bind fun t19 ht19 =>
 (bm_if (xt_cmp (OpD.is (opd_neD hX.deep (Pl.ok plB (by decide) _) (Pl.ok plB (by decide) _)) (congrArg (fun z => PyData.bool (!z)) (eqB _ _))) (XP.r (xp_cmp (OpD.is opd_is (congrArg PyData.bool rfl)) (XP.r (xp_var A12 rfl)) (XP.r xp_non) (nomark _))) (XP.r (xp_cmp opd_gt (XP.r (xp_var A7 rfl)) (XP.r (xq_ixT (f := eI) (XP.r (xp_var A4 rfl)) (xp_var A5 rfl) ht19)) (nomark _))) (nomark _)) (fun _ =>
 (bm_retJ (o' := Fl.rt false) rfl (fun _ q => xs_ret xp_bl q))) (fun _ =>
 (bm_end (bm_if1 (xt_cmp (OpD.is opd_isnt (congrArg (fun z => PyData.bool (!z)) rfl)) (XP.r (xp_var A12 rfl)) (XP.r xp_non) (nomark _)) (fun _ =>
 (bm_bind fun t20 ht20 =>
 (bm_bind fun t22 ht22 =>
 (bm_if (xt_w (xw_orM (xt_not (xt_val (xp_call F__law_is_tree (xa_cons (xp_var A12 rfl) (xa_cons xp_int xa_nil)) ⟨_, _, _, rfl, rfl, ht20⟩))) (fun _ => (fun z hz => (let ⟨t21, ht21, q23⟩ := bind_some hz; (XW.is (xw_or1 (xt_not (xt_val (xp_call F__law_fan (xa_cons (xp_var A3 rfl) (xa_cons (xp_var A5 rfl) (xa_cons (xp_var A7 rfl) (xa_cons (xp_var A12 rfl) xa_nil)))) ⟨_, _, _, _, _, rfl, rfl, ht21⟩)))) (Option.some.inj q23))))) ht22)) (fun _ =>
 (bm_retJ (o' := Fl.rt false) rfl (fun _ q => xs_ret xp_bl q))) (fun _ =>
 (bm_end (bm_st (fun _ q => xs_set T6 (xp_var A12 rfl) q) (ds' := [.fz ((eT eI) streams_), .fz ((eL eI) draws_), .fz (eI size_1), .fz ((eL (eL eI)) t6), .fz ((eT eI) t7), .fz (eI x12), .fz (eA t18), .fz (eI x17), .any, .any, .any, .any, .fz (eA t18)])
 (bm_endL (s := t18) (Sub.s (Sub.s (Sub.s (Sub.s (Sub.s (Sub.s (Sub.s (Sub.a (Sub.a (Sub.a (Sub.a (Sub.a (Sub.a Sub.n))))))))))))))))))))) (fun _ =>
 (bm_endL (s := s16) (Sub.s (Sub.s (Sub.s (Sub.s (Sub.s (Sub.s (Sub.s (Sub.a (Sub.a (Sub.a (Sub.a (Sub.a (Sub.a Sub.n))))))))))))))))))))))) (fun _ _ h => h) (fun s16 =>
 (bm_bind fun t24 ht24 =>
 (bm_bind fun t26 ht26 =>
 (bm_if (xt_w (xw_andM (xt_cmp opd_neI (XP.r (xp_bin (opd_mod (by decide)) (XP.r (xp_var A5 rfl)) (XP.r xp_int))) (XP.r (xp_bin (opd_mod (by decide)) (XP.r (xp_callTy B_int cad_int (xar_cons (XP.r (xq_ixL (f := eI) (XP.r (xp_var A1 rfl)) xp_int ht24)) xar_nil))) (XP.r xp_int))) (nomark _)) (fun _ => (fun z hz => (let ⟨t25, ht25, q27⟩ := bind_some hz; (XW.is (xw_and1 (xt_cmp opd_lt (XP.r (xq_ixT (f := eI) (XP.r (xp_var A4 rfl)) (xp_var A5 rfl) ht25)) (XP.r xp_int) (nomark _))) (Option.some.inj q27))))) ht26)) (fun _ =>
 (bm_cont (o' := Fl.nx ()) (Sub.s (Sub.s (Sub.s (Sub.s (Sub.s (Sub.a (Sub.a (Sub.a (Sub.a (Sub.a (Sub.a (Sub.a (Sub.a Sub.n))))))))))))))) (fun _ =>
 (bm_end (bm_bind fun t32 ht32 =>
 (bm_bind fun t33 ht33 =>
 (bm_bind fun t34 ht34 =>
 (bm_bind fun t35 ht35 =>
 (bm_bind fun t36 ht36 =>
 (bm_bind fun t37 ht37 =>
 (bm_st (fun _ q => xs_set T8 (xq_ixT (f := eI) (XP.r (xp_tup (ys := [eI t33, eI ((0 : Int) - (1 : Int)), eI size_1, eI (100000000000000000000 : Int), eI t35]) (xa_cons (XP.is (xp_bin (opd_mod (ite_some ht33).1) (XP.r (xp_callTy B_int cad_int (xar_cons (XP.r (xq_ixL (f := eI) (XP.r (xp_var A1 rfl)) (xp_bin opd_add (XP.r xp_int) (XP.r (xp_bin (opd_mod (by decide)) (XP.r (xp_var A5 rfl)) (XP.r xp_int)))) ht32)) xar_nil))) (XP.r (xp_var A2 rfl))) (congrArg eI (ite_some ht33).2)) (xa_cons (xp_bin opd_sub (XP.r xp_int) (XP.r xp_int)) (xa_cons (xp_var A2 rfl) (xa_cons (XP.is (xp_bin (opd_pow (i := 10) (j := 20) (by decide)) (XP.r xp_int) (XP.r xp_int)) (congrArg PyData.int (by decide +kernel))) (xa_cons (xq_ixL (f := eI) (XP.r (xq_ixL (f := (eL eI)) (XP.r (xp_var A3 rfl)) (xp_var A5 rfl) ht34)) (xp_un und_neg (XP.r xp_int)) ht35) xa_nil))))) (lnK 5))) (xp_bin (opd_mod (by decide)) (XP.r (xp_bin (opd_fdiv (by decide)) (XP.r (xp_callTy B_int cad_int (xar_cons (XP.r (xq_ixL (f := eI) (XP.r (xp_var A1 rfl)) (xp_bin opd_add (XP.r xp_int) (XP.r (xp_bin (opd_mod (by decide)) (XP.r (xp_var A5 rfl)) (XP.r xp_int)))) ht36)) xar_nil))) (XP.r xp_int))) (XP.r xp_int)) ht37) q) (ds' := [.fz ((eT eI) streams_), .fz ((eL eI) draws_), .fz (eI size_1), .fz ((eL (eL eI)) t6), .fz ((eT eI) t7), .fz (eI x12), .fz (eA s16), .any, .fz (eI t37), .any, .any, .any, .any])
 (bm_bind fun t38 ht38 =>
 (bm_for (en := eA) (slots := (fun (s39 : Unit) => [.fz ((eT eI) streams_), .fz ((eL eI) draws_), .fz (eI size_1), .fz ((eL (eL eI)) t6), .fz ((eT eI) t7), .fz (eI x12), .fz (eA s16), .any, .fz (eI t37), .any, .any, .any, .any])) (rt := (fun r ro => ro = (fun r => Ro.fz (eB r)) r)) (s0 := ()) (inj := Fl.rt) hX.bse (xi_lst (XO.p (xo_call F__law_trees (xa_cons (xp_var A6 rfl) (xa_cons (xp_var A8 rfl) xa_nil)) ⟨_, _, _, rfl, rfl, ht38⟩))) (Sub.s (Sub.s (Sub.s (Sub.s (Sub.s (Sub.s (Sub.s (Sub.a (Sub.s (Sub.a (Sub.a (Sub.a (Sub.a Sub.n))))))))))))) (fun x40 s39 => [.fz ((eT eI) streams_), .fz ((eL eI) draws_), .fz (eI size_1), .fz ((eL (eL eI)) t6), .fz ((eT eI) t7), .fz (eI x12), .fz (eA s16), .any, .fz (eI t37), .fz (eA x40), .any, .any, .any]) [9] (fun x40 s39 => (xg_name T9)) (fun x40 s39 =>
 (bm_bind fun t44 ht44 =>
 (bm_bind fun t45 ht45 =>
 (bm_bind fun t46 ht46 =>
 (bm_for (en := eI) (slots := (fun (s47 : Unit) => [.fz ((eT eI) streams_), .fz ((eL eI) draws_), .fz (eI size_1), .fz ((eL (eL eI)) t6), .fz ((eT eI) t7), .fz (eI x12), .fz (eA s16), .any, .fz (eI t37), .fz (eA x40), .any, .any, .any])) (rt := (fun r ro => ro = (fun r => Ro.fz (eB r)) r)) (s0 := ()) (inj := Fl.rt) hX.bse (xi_tup (xp_tup (ys := [eI t44, eI (max (1 : Int) (t45 - (1 : Int))), eI (t46 + (1 : Int))]) (xa_cons (xq_ixT (f := eI) (XP.r (xp_var A4 rfl)) (xp_var A5 rfl) ht44) (xa_cons (xp_callB B_max (cad_max2 hX.bse.calm) (xar_cons (XP.r xp_int) (xar_cons (XP.r (xp_bin opd_sub (XP.r (xq_ixT (f := eI) (XP.r (xp_var A4 rfl)) (xp_var A5 rfl) ht45)) (XP.r xp_int))) xar_nil))) (xa_cons (xp_bin opd_add (XP.r (xq_ixT (f := eI) (XP.r (xp_var A4 rfl)) (xp_var A5 rfl) ht46)) (XP.r xp_int)) xa_nil))) (lnK 3))) (Sub.s (Sub.s (Sub.s (Sub.s (Sub.s (Sub.s (Sub.s (Sub.a (Sub.s (Sub.s (Sub.a (Sub.a (Sub.a Sub.n))))))))))))) (fun x48 s47 => [.fz ((eT eI) streams_), .fz ((eL eI) draws_), .fz (eI size_1), .fz ((eL (eL eI)) t6), .fz ((eT eI) t7), .fz (eI x12), .fz (eA s16), .fz (eI x48), .fz (eI t37), .fz (eA x40), .any, .any, .any]) [7] (fun x48 s47 => (xg_name T7)) (fun x48 s47 =>
 (bm_bind fun t49 ht49 =>
 (bm_bind fun t50 ht50 =>
 (bm_bind fun t51 ht51 =>
 (bm_if1 (xt_not (xt_val (xp_call F__law_is (xa_cons (xp_call F_is_fan (xa_cons (xp_var A0 rfl) (xa_cons (xp_var A5 rfl) (xa_cons (xp_var A7 rfl) (xa_cons (xp_var A9 rfl) xa_nil)))) ⟨_, _, _, _, _, rfl, rfl, ht49⟩) (xa_cons (xp_call F__law_fan (xa_cons (xp_var A3 rfl) (xa_cons (xp_var A5 rfl) (xa_cons (xp_var A7 rfl) (xa_cons (xp_var A9 rfl) xa_nil)))) ⟨_, _, _, _, _, rfl, rfl, ht50⟩) xa_nil)) ⟨_, _, _, rfl, rfl, ht51⟩))) (fun _ =>
 (bm_retJ (o' := Fl.rt false) rfl (fun _ q => xs_ret xp_bl q))) (fun _ =>
 (bm_endL (s := ()) (Sub.s (Sub.s (Sub.s (Sub.s (Sub.s (Sub.s (Sub.s (Sub.a (Sub.s (Sub.s (Sub.a (Sub.a (Sub.a Sub.n)))))))))))))))))))) (fun _ _ h => h) (fun s47 =>
 (bm_endL (s := ()) (Sub.s (Sub.s (Sub.s (Sub.s (Sub.s (Sub.s (Sub.s (Sub.a (Sub.s (Sub.a (Sub.a (Sub.a (Sub.a Sub.n)))))))))))))))))))) (fun _ _ h => h) (fun s39 =>
 (bm_bind fun t52 ht52 =>
 (bm_for (en := eI) (slots := (fun (s53 : Unit) => [.fz ((eT eI) streams_), .fz ((eL eI) draws_), .fz (eI size_1), .fz ((eL (eL eI)) t6), .fz ((eT eI) t7), .fz (eI x12), .fz (eA s16), .any, .fz (eI t37), .any, .any, .any, .any])) (rt := (fun r ro => ro = (fun r => Ro.fz (eB r)) r)) (s0 := ()) (inj := Fl.rt) hX.bse (xi_rng1_m B_range (xa_cons (xp_var A2 rfl) xa_nil) ht52) (Sub.s (Sub.s (Sub.s (Sub.s (Sub.s (Sub.s (Sub.s (Sub.a (Sub.s (Sub.a (Sub.a (Sub.a (Sub.a Sub.n))))))))))))) (fun x54 s53 => [.fz ((eT eI) streams_), .fz ((eL eI) draws_), .fz (eI size_1), .fz ((eL (eL eI)) t6), .fz ((eT eI) t7), .fz (eI x12), .fz (eA s16), .any, .fz (eI t37), .any, .fz (eI x54), .any, .any]) [10] (fun x54 s53 => (xg_name T10)) (fun x54 s53 =>
 (bm_bind fun t55 ht55 =>
 (bm_bind fun t56 ht56 =>
 (bm_bind fun t57 ht57 =>
 (bm_bind fun t58 ht58 =>
 (bm_bind fun t59 ht59 =>
 (bm_if (xt_not (xt_val (xp_call F__law_is (xa_cons (xp_call F_is_fan (xa_cons (xp_var A0 rfl) (xa_cons (xp_var A10 rfl) (xa_cons (xq_ixT (f := eI) (XP.r (xp_var A4 rfl)) (xp_var A5 rfl) ht55) (xa_cons (xp_var A6 rfl) xa_nil)))) ⟨_, _, _, _, _, rfl, rfl, ht56⟩) (xa_cons (xp_call F__law_fan (xa_cons (xp_var A3 rfl) (xa_cons (xp_var A10 rfl) (xa_cons (xq_ixT (f := eI) (XP.r (xp_var A4 rfl)) (xp_var A5 rfl) ht57) (xa_cons (xp_var A6 rfl) xa_nil)))) ⟨_, _, _, _, _, rfl, rfl, ht58⟩) xa_nil)) ⟨_, _, _, rfl, rfl, ht59⟩))) (fun _ =>
 (bm_retJ (o' := Fl.rt false) rfl (fun _ q => xs_ret xp_bl q))) (fun _ =>
 (bm_end (bm_bind fun t60 ht60 =>
 (bm_bind fun t61 ht61 =>
 (bm_bind fun t62 ht62 =>
 (bm_if (xt_not (xt_val (xp_call F__law_is (xa_cons (xp_call F_is_fan (xa_cons (xp_var A0 rfl) (xa_cons (xp_var A5 rfl) (xa_cons xp_int (xa_cons (xp_tup (ys := [eI x54]) (xa_cons (xp_var A10 rfl) xa_nil) (lnK 1)) xa_nil)))) ⟨_, _, _, _, _, rfl, rfl, ht60⟩) (xa_cons (xp_cmp (OpD.is (opd_inL hX.deep (Pl.ok plI (by decide) _) (Pl.oks plI (by decide) _)) (congrArg PyData.bool (inDs_map eqI _ _))) (XP.r (xp_var A5 rfl)) (XP.r (xq_ixL (f := (eL eI)) (XP.r (xp_var A3 rfl)) (xp_var A10 rfl) ht61)) rfl) xa_nil)) ⟨_, _, _, rfl, rfl, ht62⟩))) (fun _ =>
 (bm_retJ (o' := Fl.rt false) rfl (fun _ q => xs_ret xp_bl q))) (fun _ =>
 (bm_end (bm_bind fun t63 ht63 =>
 (bm_bind fun t64 ht64 =>
 (bm_if (xt_not (xt_val (xp_call F__law_is (xa_cons (xp_call F_is_fan (xa_cons (xp_var A0 rfl) (xa_cons (xp_var A5 rfl) (xa_cons xp_int (xa_cons (xp_tup (ys := [eI (x54 - size_1)]) (xa_cons (xp_bin opd_sub (XP.r (xp_var A10 rfl)) (XP.r (xp_var A2 rfl))) xa_nil) (lnK 1)) xa_nil)))) ⟨_, _, _, _, _, rfl, rfl, ht63⟩) (xa_cons xp_bl xa_nil)) ⟨_, _, _, rfl, rfl, ht64⟩))) (fun _ =>
 (bm_retJ (o' := Fl.rt false) rfl (fun _ q => xs_ret xp_bl q))) (fun _ =>
 (bm_end (bm_bind fun t65 ht65 =>
 (bm_bind fun t66 ht66 =>
 (bm_bind fun tree_67 htree_67 =>
 (bm_st (fun _ q => xs_set T9 (XP.is (xp_tup (ys := [eI x12, (eT eI) [x54], (eT eI) [t66]]) (xa_cons (xp_var A5 rfl) (xa_cons (xp_tup (ys := [eI x54]) (xa_cons (xp_var A10 rfl) xa_nil) (lnK 1)) (xa_cons (xp_tup (ys := [eI t66]) (xa_cons (XP.is (xp_bin (opd_mod (ite_some ht66).1) (XP.r (xp_callTy B_int cad_int (xar_cons (XP.r (xq_ixL (f := eI) (XP.r (xp_var A1 rfl)) xp_int ht65)) xar_nil))) (XP.r (xp_var A2 rfl))) (congrArg eI (ite_some ht66).2)) xa_nil) (lnK 1)) xa_nil))) (lnK 3)) (congrArg (eP3 eI (eT eI) (eT eI)) (Option.some.inj htree_67))) q) (ds' := [.fz ((eT eI) streams_), .fz ((eL eI) draws_), .fz (eI size_1), .fz ((eL (eL eI)) t6), .fz ((eT eI) t7), .fz (eI x12), .fz (eA s16), .any, .fz (eI t37), .fz ((eP3 eI (eT eI) (eT eI)) tree_67), .fz (eI x54), .any, .any])
 (bm_bind fun t68 ht68 =>
 (bm_bind fun t69 ht69 =>
 (bm_bind fun t70 ht70 =>
 (bm_if1 (xt_not (xt_val (xp_call F__law_is (xa_cons (xp_call F_is_fan (xa_cons (xp_var A0 rfl) (xa_cons (xp_var A5 rfl) (xa_cons xp_int (xa_cons (xp_var A9 rfl) xa_nil)))) ⟨_, _, _, _, _, rfl, rfl, ht68⟩) (xa_cons (xp_call F__law_fan (xa_cons (xp_var A3 rfl) (xa_cons (xp_var A5 rfl) (xa_cons xp_int (xa_cons (xp_var A9 rfl) xa_nil)))) ⟨_, _, _, _, _, rfl, rfl, ht69⟩) xa_nil)) ⟨_, _, _, rfl, rfl, ht70⟩))) (fun _ =>
 (bm_retJ (o' := Fl.rt false) rfl (fun _ q => xs_ret xp_bl q))) (fun _ =>
 (bm_endL (s := ()) (Sub.s (Sub.s (Sub.s (Sub.s (Sub.s (Sub.s (Sub.s (Sub.a (Sub.s (Sub.a (Sub.a (Sub.a (Sub.a Sub.n))))))))))))))))))))))))))))))))))))))))))) (fun _ _ h => h) (fun s53 =>
 (bm_endL (s := ()) (Sub.s (Sub.s (Sub.s (Sub.s (Sub.s (Sub.a (Sub.a (Sub.a (Sub.a (Sub.a (Sub.a (Sub.a (Sub.a Sub.n))))))))))))))))))))))))))))))))))))))) (fun _ _ h => h) (fun s11 =>
 (bm_retJ (o' := true) rfl (fun _ q => xs_ret xp_bl q)))))))))))))))))))

abbrev s_law : Stmt := topS 21
def Ns_law : List Str := ["script", "draws", "k", "streams"]
theorem scs_law : FnScope Ns_law ["script"] (defScope s_law) := ⟨rfl, rfl, rfl, by decide +kernel, rfl, by decide +kernel, by decide +kernel⟩
theorem cts_law {P : Program} {w : World} {K : Frag} {mg : Str → Option Value} {base : Heap} {k : Nat} {Tb : Tbs} {X : Cx} (hX : Fx P w K mg base Ns_law (defScope s_law) k X) (script_ : (List Int))
    (B_range : Bn X "range" (.type "range"))
    (F__law_bush : Fn Tb X "_law_bush" 1 (fun ds ro => ∃ (a0 : (List Int)) (r : (List Int)), ds = [(eL eI) a0] ∧ ro = Ro.fz ((eT eI) r) ∧ f_law_bush a0 = some r))
    (F__law_cell : Fn Tb X "_law_cell" 2 (fun ds ro => ∃ (a0 : (List Int)) (a1 : Int) (r : Int), ds = [(eL eI) a0, eI a1] ∧ ro = Ro.fz (eI r) ∧ f_law_cell a0 a1 = some r))
    (F__law_draws : Fn Tb X "_law_draws" 2 (fun ds ro => ∃ (a0 : Int) (a1 : Int) (r : (List Int)), ds = [eI a0, eI a1] ∧ ro = Ro.ow (Ob.lst (List.map eI r)) ∧ f_law_draws a0 a1 = some r))
    (F__law_right : Fn Tb X "_law_right" 2 (fun ds ro => ∃ (a0 : (List Int)) (a1 : (List Int)) (r : Bool), ds = [(eT eI) a0, (eL eI) a1] ∧ ro = Ro.fz (eB r) ∧ f_law_right a0 a1 = some r))
    (F__law_streams : Fn Tb X "_law_streams" 2 (fun ds ro => ∃ (a0 : Int) (a1 : (List Int)) (r : (List Int)), ds = [eI a0, (eL eI) a1] ∧ ro = Ro.fz ((eT eI) r) ∧ f_law_streams a0 a1 = some r)) :
    BM Tb X (defBody s_law) [.fz ((eL eI) script_), .any, .any, .any] (JR (fun r => Ro.fz (eB r))) (f_law script_) := by
  have A0 : At X "script" 0 := hX.at rfl (by first | exact .inl rfl | exact .inr rfl) nm_script.1 nm_script.2
  have A1 : At X "draws" 1 := hX.at rfl (by first | exact .inl rfl | exact .inr rfl) nm_draws.1 nm_draws.2
  have T1 : Tg X "draws" 1 := hX.tg rfl (by first | exact .inl rfl | exact .inr rfl)
  have A2 : At X "k" 2 := hX.at rfl (by first | exact .inl rfl | exact .inr rfl) nm_k.1 nm_k.2
  have T2 : Tg X "k" 2 := hX.tg rfl (by first | exact .inl rfl | exact .inr rfl)
  have A3 : At X "streams" 3 := hX.at rfl (by first | exact .inl rfl | exact .inr rfl) nm_streams.1 nm_streams.2
  have T3 : Tg X "streams" 3 := hX.tg rfl (by first | exact .inl rfl | exact .inr rfl)
  unfold f_law
  exact (bm_bind fun t1 ht1 =>
 (bm_bind fun t2 ht2 =>
 (bm_st (fun _ q => xs_set T1 (XO.p (xo_call F__law_draws (xa_cons (xp_call F__law_cell (xa_cons (xp_var A0 rfl) (xa_cons xp_int xa_nil)) ⟨_, _, _, rfl, rfl, ht1⟩) (xa_cons xp_int xa_nil)) ⟨_, _, _, rfl, rfl, ht2⟩)) q) (ds' := [.fz ((eL eI) script_), .fz ((eL eI) t2), .any, .any])
 (bm_for (en := eI) (slots := (fun (s3 : Unit) => [.fz ((eL eI) script_), .fz ((eL eI) t2), .any, .any])) (rt := (fun r ro => ro = (fun r => Ro.fz (eB r)) r)) (s0 := ()) (inj := id) hX.bse (xi_rng1_k B_range (xa_cons xp_int xa_nil) (by decide)) (Sub.s (Sub.s (Sub.a (Sub.a Sub.n)))) (fun x4 s3 => [.fz ((eL eI) script_), .fz ((eL eI) t2), .fz (eI x4), .any]) [2] (fun x4 s3 => (xg_name T2)) (fun x4 s3 =>
 (bm_bind fun t5 ht5 =>
 (bm_bind fun t6 ht6 =>
 (bm_bind fun t7 ht7 =>
 (bm_st (fun _ q => xs_set T3 (xp_call F__law_streams (xa_cons xp_int (xa_cons (XO.p (xo_call F__law_draws (xa_cons (xp_call F__law_cell (xa_cons (xp_var A0 rfl) (xa_cons (xp_bin opd_add (XP.r xp_int) (XP.r (xp_var A2 rfl))) xa_nil)) ⟨_, _, _, rfl, rfl, ht5⟩) (xa_cons xp_int xa_nil)) ⟨_, _, _, rfl, rfl, ht6⟩)) xa_nil)) ⟨_, _, _, rfl, rfl, ht7⟩) q) (ds' := [.fz ((eL eI) script_), .fz ((eL eI) t2), .fz (eI x4), .fz ((eT eI) t7)])
 (bm_bind fun t8 ht8 =>
 (bm_bind fun t11 ht11 =>
 (bm_if1 (xt_w (xw_orM (xt_not (xt_val (xp_call F__law_right (xa_cons (xp_var A3 rfl) (xa_cons (XO.p (XO.is (xo_slL (XP.r (xp_var A1 rfl)) (xpo_some (xp_var A2 rfl)) xpo_none) (cutL_map eI t2 _ _))) xa_nil)) ⟨_, _, _, rfl, rfl, ht8⟩))) (fun _ => (fun z hz => (let ⟨t9, ht9, q12⟩ := bind_some hz; (let ⟨t10, ht10, q13⟩ := bind_some q12; (XW.is (xw_or1 (xt_not (xt_val (xp_call F__law_right (xa_cons (xp_call F__law_bush (xa_cons (XO.p (XO.is (xo_slL (XP.r (xp_var A1 rfl)) (xpo_some (xp_bin opd_add (XP.r xp_int) (XP.r (xp_var A2 rfl)))) xpo_none) (cutL_map eI t2 _ _))) xa_nil) ⟨_, _, rfl, rfl, ht9⟩) (xa_cons (XO.p (XO.is (xo_slL (XP.r (xp_var A1 rfl)) (xpo_some (xp_bin opd_add (XP.r xp_int) (XP.r (xp_var A2 rfl)))) xpo_none) (cutL_map eI t2 _ _))) xa_nil)) ⟨_, _, _, rfl, rfl, ht10⟩)))) (Option.some.inj q13)))))) ht11)) (fun _ =>
 (bm_retJ (o' := Fl.rt false) rfl (fun _ q => xs_ret xp_bl q))) (fun _ =>
 (bm_endL (s := ()) (Sub.s (Sub.s (Sub.a (Sub.a Sub.n)))))))))))))) (fun _ _ h => h) (fun s3 =>
 (bm_retJ (o' := true) rfl (fun _ q => xs_ret xp_bl q)))))))

def R_law : List PyData → Ro → Prop := (fun ds ro => ∃ (a0 : (List Int)) (r : Bool), ds = [(eL eI) a0] ∧ ro = Ro.fz (eB r) ∧ f_law a0 = some r)
theorem oks_way_down {P : Program} {w : World} {K : Frag} {mg : Str → Option Value} {base : Heap} {Tb : Tbs} {fa : Addr} {fd : FuncData} (F : Fun K "way_down" "way_down" s_way_down fa fd) : FnOk P w K mg base CX0 1 fa fd ["streams", "k"] (Pur K Tb (fun ds ro => ∃ (a0 : (List Int)) (a1 : Int) (r : (List Int)), ds = [(eT eI) a0, eI a1] ∧ ro = Ro.ow (Ob.lst (List.map eI r)) ∧ f_way_down a0 a1 = some r)) :=
  fn_pur (k := 0) (j := 1) F scs_way_down (fun ys r h => by
    obtain ⟨_, _, r', rfl, rfl, h⟩ := h
    rfl) rfl fun X hX ys r h => by
    obtain ⟨a0, a1, r', rfl, rfl, h⟩ := h
    exact cts_way_down hX a0 a1 r' h
theorem cals_way_down {P : Program} {w : World} {K : Frag} {mg : Str → Option Value} {base : Heap} {Tb : Tbs} {fa : Addr} {fd : FuncData} (F : Fun K "way_down" "way_down" s_way_down fa fd) (hm : mg "way_down" = some (.ref fa)) : Cal P w K mg base Tb "way_down" 2 (fun ds ro => ∃ (a0 : (List Int)) (a1 : Int) (r : (List Int)), ds = [(eT eI) a0, eI a1] ∧ ro = Ro.ow (Ob.lst (List.map eI r)) ∧ f_way_down a0 a1 = some r) 1 :=
  ⟨fa, fd, ["streams", "k"], rfl, oks_way_down F, hm, F.kp, F.binds fun _ _ _ _ _ _ us hl => match us, hl with | [_, _], _ => rfl⟩
theorem oks_is_above {P : Program} {w : World} {K : Frag} {mg : Str → Option Value} {base : Heap} {Tb : Tbs} {fa : Addr} {fd : FuncData} (F : Fun K "is_above" "is_above" s_is_above fa fd) (C_way_down : Cal P w K mg base Tb "way_down" 2 (fun ds ro => ∃ (a0 : (List Int)) (a1 : Int) (r : (List Int)), ds = [(eT eI) a0, eI a1] ∧ ro = Ro.ow (Ob.lst (List.map eI r)) ∧ f_way_down a0 a1 = some r) 1) : FnOk P w K mg base CX0 2 fa fd ["streams", "i", "k"] (Pur K Tb (fun ds ro => ∃ (a0 : (List Int)) (a1 : Int) (a2 : Int) (r : Bool), ds = [(eT eI) a0, eI a1, eI a2] ∧ ro = Ro.fz (eB r) ∧ f_is_above a0 a1 a2 = some r)) :=
  fn_pur (k := 1) (j := 0) F scs_is_above (fun ys r h => by
    obtain ⟨_, _, _, r', rfl, rfl, h⟩ := h
    rfl) rfl fun X hX ys r h => by
    obtain ⟨a0, a1, a2, r', rfl, rfl, h⟩ := h
    exact cts_is_above hX a0 a1 a2 (C_way_down.fn hX (by decide +kernel) (by decide +kernel) (by decide)) r' h
theorem cals_is_above {P : Program} {w : World} {K : Frag} {mg : Str → Option Value} {base : Heap} {Tb : Tbs} {fa : Addr} {fd : FuncData} (F : Fun K "is_above" "is_above" s_is_above fa fd) (hm : mg "is_above" = some (.ref fa)) (C_way_down : Cal P w K mg base Tb "way_down" 2 (fun ds ro => ∃ (a0 : (List Int)) (a1 : Int) (r : (List Int)), ds = [(eT eI) a0, eI a1] ∧ ro = Ro.ow (Ob.lst (List.map eI r)) ∧ f_way_down a0 a1 = some r) 1) : Cal P w K mg base Tb "is_above" 3 (fun ds ro => ∃ (a0 : (List Int)) (a1 : Int) (a2 : Int) (r : Bool), ds = [(eT eI) a0, eI a1, eI a2] ∧ ro = Ro.fz (eB r) ∧ f_is_above a0 a1 a2 = some r) 2 :=
  ⟨fa, fd, ["streams", "i", "k"], rfl, oks_is_above F C_way_down, hm, F.kp, F.binds fun _ _ _ _ _ _ us hl => match us, hl with | [_, _, _], _ => rfl⟩
theorem oks_all_above {P : Program} {w : World} {K : Frag} {mg : Str → Option Value} {base : Heap} {Tb : Tbs} {fa : Addr} {fd : FuncData} (F : Fun K "all_above" "all_above" s_all_above fa fd) (z_len : mg "len" = none) (z_range : mg "range" = none) (z_tuple : mg "tuple" = none) (C_is_above : Cal P w K mg base Tb "is_above" 3 (fun ds ro => ∃ (a0 : (List Int)) (a1 : Int) (a2 : Int) (r : Bool), ds = [(eT eI) a0, eI a1, eI a2] ∧ ro = Ro.fz (eB r) ∧ f_is_above a0 a1 a2 = some r) 2) : FnOk P w K mg base CX0 3 fa fd ["streams", "k"] (Pur K Tb (fun ds ro => ∃ (a0 : (List Int)) (a1 : Int) (r : (List Int)), ds = [(eT eI) a0, eI a1] ∧ ro = Ro.fz ((eT eI) r) ∧ f_all_above a0 a1 = some r)) :=
  fn_pur (k := 2) (j := 1) F scs_all_above (fun ys r h => by
    obtain ⟨_, _, r', rfl, rfl, h⟩ := h
    rfl) rfl fun X hX ys r h => by
    obtain ⟨a0, a1, r', rfl, rfl, h⟩ := h
    exact cts_all_above hX a0 a1 (hX.bn (by decide +kernel) z_len (by decide +kernel) (by decide +kernel) (by decide +kernel)) (hX.bn (by decide +kernel) z_range (by decide +kernel) (by decide +kernel) (by decide +kernel)) (hX.bn (by decide +kernel) z_tuple (by decide +kernel) (by decide +kernel) (by decide +kernel)) (C_is_above.fn0 hX (by decide +kernel) (by decide)) r' h
theorem cals_all_above {P : Program} {w : World} {K : Frag} {mg : Str → Option Value} {base : Heap} {Tb : Tbs} {fa : Addr} {fd : FuncData} (F : Fun K "all_above" "all_above" s_all_above fa fd) (hm : mg "all_above" = some (.ref fa)) (z_len : mg "len" = none) (z_range : mg "range" = none) (z_tuple : mg "tuple" = none) (C_is_above : Cal P w K mg base Tb "is_above" 3 (fun ds ro => ∃ (a0 : (List Int)) (a1 : Int) (a2 : Int) (r : Bool), ds = [(eT eI) a0, eI a1, eI a2] ∧ ro = Ro.fz (eB r) ∧ f_is_above a0 a1 a2 = some r) 2) : Cal P w K mg base Tb "all_above" 2 (fun ds ro => ∃ (a0 : (List Int)) (a1 : Int) (r : (List Int)), ds = [(eT eI) a0, eI a1] ∧ ro = Ro.fz ((eT eI) r) ∧ f_all_above a0 a1 = some r) 3 :=
  ⟨fa, fd, ["streams", "k"], rfl, oks_all_above F z_len z_range z_tuple C_is_above, hm, F.kp, F.binds fun _ _ _ _ _ _ us hl => match us, hl with | [_, _], _ => rfl⟩
theorem cals_order_of {P : Program} {w : World} {K : Frag} {mg : Str → Option Value} {base : Heap} {Tb : Tbs} {fa : Addr} {fd : FuncData} (F : Fun K "order_of" "order_of" s_order_of fa fd) (hm : mg "order_of" = some (.ref fa)) (z_enumerate : mg "enumerate" = none) (z_len : mg "len" = none) (z_sorted : mg "sorted" = none) : ∀ n : Nat, Cal P w K mg base Tb "order_of" 2 (fun ds ro => ∃ (a0 : (List Int)) (a1 : Int) (r : Int), ds = [(eT eI) a0, eI a1] ∧ ro = Ro.fz (eI r) ∧ f_order_of n a0 a1 = some r) (1 + n)
  | 0 => ⟨fa, fd, ["streams", "k"], rfl, fn_pur (k := 0) (j := 3) F scs_order_of (fun ys r h => by
    obtain ⟨_, _, r', rfl, rfl, h⟩ := h
    rfl) rfl (fun X hX ys r h => by
    obtain ⟨a0, a1, r', rfl, rfl, h⟩ := h
    cases h), hm, F.kp, F.binds fun _ _ _ _ _ _ us hl => match us, hl with | [_, _], _ => rfl⟩
  | n + 1 =>
    have ih := cals_order_of F hm z_enumerate z_len z_sorted n
    ⟨fa, fd, ["streams", "k"], rfl, fn_pur (k := 1 + n) (j := 3) F scs_order_of (fun ys r h => by
    obtain ⟨_, _, r', rfl, rfl, h⟩ := h
    rfl) rfl (fun X hX ys r h => by
    obtain ⟨a0, a1, r', rfl, rfl, h⟩ := h
    exact cts_order_of hX n a0 a1 (hX.bn (by decide +kernel) z_enumerate (by decide +kernel) (by decide +kernel) (by decide +kernel)) (hX.bn (by decide +kernel) z_len (by decide +kernel) (by decide +kernel) (by decide +kernel)) (hX.bn (by decide +kernel) z_sorted (by decide +kernel) (by decide +kernel) (by decide +kernel)) (ih.fn0 hX (by decide +kernel) (by omega)) r' h), hm, F.kp, F.binds fun _ _ _ _ _ _ us hl => match us, hl with | [_, _], _ => rfl⟩
theorem oks_orders {P : Program} {w : World} {K : Frag} {mg : Str → Option Value} {base : Heap} {Tb : Tbs} {fa : Addr} {fd : FuncData} (F : Fun K "orders" "orders" s_orders fa fd) (z_len : mg "len" = none) (z_range : mg "range" = none) (z_tuple : mg "tuple" = none) (C_order_of : Cal P w K mg base Tb "order_of" 2 (fun ds ro => ∃ (a0 : (List Int)) (a1 : Int) (r : Int), ds = [(eT eI) a0, eI a1] ∧ ro = Ro.fz (eI r) ∧ f_order_of 20 a0 a1 = some r) 21) : FnOk P w K mg base CX0 22 fa fd ["streams"] (Pur K Tb (fun ds ro => ∃ (a0 : (List Int)) (r : (List Int)), ds = [(eT eI) a0] ∧ ro = Ro.fz ((eT eI) r) ∧ f_orders a0 = some r)) :=
  fn_pur (k := 21) (j := 1) F scs_orders (fun ys r h => by
    obtain ⟨_, r', rfl, rfl, h⟩ := h
    rfl) rfl fun X hX ys r h => by
    obtain ⟨a0, r', rfl, rfl, h⟩ := h
    exact cts_orders hX a0 (hX.bn (by decide +kernel) z_len (by decide +kernel) (by decide +kernel) (by decide +kernel)) (hX.bn (by decide +kernel) z_range (by decide +kernel) (by decide +kernel) (by decide +kernel)) (hX.bn (by decide +kernel) z_tuple (by decide +kernel) (by decide +kernel) (by decide +kernel)) (C_order_of.fn0 hX (by decide +kernel) (by decide)) r' h
theorem cals_orders {P : Program} {w : World} {K : Frag} {mg : Str → Option Value} {base : Heap} {Tb : Tbs} {fa : Addr} {fd : FuncData} (F : Fun K "orders" "orders" s_orders fa fd) (hm : mg "orders" = some (.ref fa)) (z_len : mg "len" = none) (z_range : mg "range" = none) (z_tuple : mg "tuple" = none) (C_order_of : Cal P w K mg base Tb "order_of" 2 (fun ds ro => ∃ (a0 : (List Int)) (a1 : Int) (r : Int), ds = [(eT eI) a0, eI a1] ∧ ro = Ro.fz (eI r) ∧ f_order_of 20 a0 a1 = some r) 21) : Cal P w K mg base Tb "orders" 1 (fun ds ro => ∃ (a0 : (List Int)) (r : (List Int)), ds = [(eT eI) a0] ∧ ro = Ro.fz ((eT eI) r) ∧ f_orders a0 = some r) 22 :=
  ⟨fa, fd, ["streams"], rfl, oks_orders F z_len z_range z_tuple C_order_of, hm, F.kp, F.binds fun _ _ _ _ _ _ us hl => match us, hl with | [_], _ => rfl⟩
theorem cals_fan {P : Program} {w : World} {K : Frag} {mg : Str → Option Value} {base : Heap} {Tb : Tbs} {fa : Addr} {fd : FuncData} (F : Fun K "fan" "fan" s_fan fa fd) (hm : mg "fan" = some (.ref fa)) (z_enumerate : mg "enumerate" = none) (z_len : mg "len" = none) (C_all_above : Cal P w K mg base Tb "all_above" 2 (fun ds ro => ∃ (a0 : (List Int)) (a1 : Int) (r : (List Int)), ds = [(eT eI) a0, eI a1] ∧ ro = Ro.fz ((eT eI) r) ∧ f_all_above a0 a1 = some r) 3) (C_order_of : Cal P w K mg base Tb "order_of" 2 (fun ds ro => ∃ (a0 : (List Int)) (a1 : Int) (r : Int), ds = [(eT eI) a0, eI a1] ∧ ro = Ro.fz (eI r) ∧ f_order_of 20 a0 a1 = some r) 21) : ∀ n : Nat, Cal P w K mg base Tb "fan" 3 (fun ds ro => ∃ (a0 : (List Int)) (a1 : Int) (a2 : Int) (r : Dt), ds = [(eT eI) a0, eI a1, eI a2] ∧ ro = Ro.fz (eA r) ∧ f_fan n a0 a1 a2 = some r) (22 + n)
  | 0 => ⟨fa, fd, ["streams", "k", "h"], rfl, fn_pur (k := 21) (j := 4) F scs_fan (fun ys r h => by
    obtain ⟨_, _, _, r', rfl, rfl, h⟩ := h
    rfl) rfl (fun X hX ys r h => by
    obtain ⟨a0, a1, a2, r', rfl, rfl, h⟩ := h
    cases h), hm, F.kp, F.binds fun _ _ _ _ _ _ us hl => match us, hl with | [_, _, _], _ => rfl⟩
  | n + 1 =>
    have ih := cals_fan F hm z_enumerate z_len C_all_above C_order_of n
    ⟨fa, fd, ["streams", "k", "h"], rfl, fn_pur (k := 22 + n) (j := 4) F scs_fan (fun ys r h => by
    obtain ⟨_, _, _, r', rfl, rfl, h⟩ := h
    rfl) rfl (fun X hX ys r h => by
    obtain ⟨a0, a1, a2, r', rfl, rfl, h⟩ := h
    exact cts_fan hX n a0 a1 a2 (hX.bn (by decide +kernel) z_enumerate (by decide +kernel) (by decide +kernel) (by decide +kernel)) (hX.bn (by decide +kernel) z_len (by decide +kernel) (by decide +kernel) (by decide +kernel)) (C_all_above.fn hX (by decide +kernel) (by decide +kernel) (by omega)) (ih.fn hX (by decide +kernel) (by decide +kernel) (by omega)) (C_order_of.fn hX (by decide +kernel) (by decide +kernel) (by omega)) (C_order_of.fn0 hX (by decide +kernel) (by omega)) r' h), hm, F.kp, F.binds fun _ _ _ _ _ _ us hl => match us, hl with | [_, _, _], _ => rfl⟩
theorem cals_is_fan {P : Program} {w : World} {K : Frag} {mg : Str → Option Value} {base : Heap} {Tb : Tbs} {fa : Addr} {fd : FuncData} (F : Fun K "is_fan" "is_fan" s_is_fan fa fd) (hm : mg "is_fan" = some (.ref fa)) (z_len : mg "len" = none) (C_is_above : Cal P w K mg base Tb "is_above" 3 (fun ds ro => ∃ (a0 : (List Int)) (a1 : Int) (a2 : Int) (r : Bool), ds = [(eT eI) a0, eI a1, eI a2] ∧ ro = Ro.fz (eB r) ∧ f_is_above a0 a1 a2 = some r) 2) : ∀ n : Nat, Cal P w K mg base Tb "is_fan" 4 (fun ds ro => ∃ (a0 : (List Int)) (a1 : Int) (a2 : Int) (a3 : Dt) (r : Bool), ds = [(eT eI) a0, eI a1, eI a2, eA a3] ∧ ro = Ro.fz (eB r) ∧ f_is_fan n a0 a1 a2 a3 = some r) (3 + n)
  | 0 => ⟨fa, fd, ["streams", "k", "h", "tree"], rfl, fn_pur (k := 2) (j := 3) F scs_is_fan (fun ys r h => by
    obtain ⟨_, _, _, _, r', rfl, rfl, h⟩ := h
    rfl) rfl (fun X hX ys r h => by
    obtain ⟨a0, a1, a2, a3, r', rfl, rfl, h⟩ := h
    cases h), hm, F.kp, F.binds fun _ _ _ _ _ _ us hl => match us, hl with | [_, _, _, _], _ => rfl⟩
  | n + 1 =>
    have ih := cals_is_fan F hm z_len C_is_above n
    ⟨fa, fd, ["streams", "k", "h", "tree"], rfl, fn_pur (k := 3 + n) (j := 3) F scs_is_fan (fun ys r h => by
    obtain ⟨_, _, _, _, r', rfl, rfl, h⟩ := h
    rfl) rfl (fun X hX ys r h => by
    obtain ⟨a0, a1, a2, a3, r', rfl, rfl, h⟩ := h
    exact cts_is_fan hX n a0 a1 a2 a3 (hX.bn (by decide +kernel) z_len (by decide +kernel) (by decide +kernel) (by decide +kernel)) (C_is_above.fn hX (by decide +kernel) (by decide +kernel) (by omega)) (ih.fn hX (by decide +kernel) (by decide +kernel) (by omega)) r' h), hm, F.kp, F.binds fun _ _ _ _ _ _ us hl => match us, hl with | [_, _, _, _], _ => rfl⟩
theorem oks_law_cell {P : Program} {w : World} {K : Frag} {mg : Str → Option Value} {base : Heap} {Tb : Tbs} {fa : Addr} {fd : FuncData} (F : Fun K "_law_cell" "_law_cell" s_law_cell fa fd) (z_len : mg "len" = none) : FnOk P w K mg base CX0 1 fa fd ["script", "k"] (Pur K Tb (fun ds ro => ∃ (a0 : (List Int)) (a1 : Int) (r : Int), ds = [(eL eI) a0, eI a1] ∧ ro = Ro.fz (eI r) ∧ f_law_cell a0 a1 = some r)) :=
  fn_pur (k := 0) (j := 0) F scs_law_cell (fun ys r h => by
    obtain ⟨_, _, r', rfl, rfl, h⟩ := h
    rfl) rfl fun X hX ys r h => by
    obtain ⟨a0, a1, r', rfl, rfl, h⟩ := h
    exact cts_law_cell hX a0 a1 (hX.bn (by decide +kernel) z_len (by decide +kernel) (by decide +kernel) (by decide +kernel)) r' h
theorem cals_law_cell {P : Program} {w : World} {K : Frag} {mg : Str → Option Value} {base : Heap} {Tb : Tbs} {fa : Addr} {fd : FuncData} (F : Fun K "_law_cell" "_law_cell" s_law_cell fa fd) (hm : mg "_law_cell" = some (.ref fa)) (z_len : mg "len" = none) : Cal P w K mg base Tb "_law_cell" 2 (fun ds ro => ∃ (a0 : (List Int)) (a1 : Int) (r : Int), ds = [(eL eI) a0, eI a1] ∧ ro = Ro.fz (eI r) ∧ f_law_cell a0 a1 = some r) 1 :=
  ⟨fa, fd, ["script", "k"], rfl, oks_law_cell F z_len, hm, F.kp, F.binds fun _ _ _ _ _ _ us hl => match us, hl with | [_, _], _ => rfl⟩
theorem oks_law_draws {P : Program} {w : World} {K : Frag} {mg : Str → Option Value} {base : Heap} {Tb : Tbs} {fa : Addr} {fd : FuncData} (F : Fun K "_law_draws" "_law_draws" s_law_draws fa fd) (z_abs : mg "abs" = none) (z_int : mg "int" = none) (z_range : mg "range" = none) : FnOk P w K mg base CX0 1 fa fd ["cell", "many"] (Pur K Tb (fun ds ro => ∃ (a0 : Int) (a1 : Int) (r : (List Int)), ds = [eI a0, eI a1] ∧ ro = Ro.ow (Ob.lst (List.map eI r)) ∧ f_law_draws a0 a1 = some r)) :=
  fn_pur (k := 0) (j := 6) F scs_law_draws (fun ys r h => by
    obtain ⟨_, _, r', rfl, rfl, h⟩ := h
    rfl) rfl fun X hX ys r h => by
    obtain ⟨a0, a1, r', rfl, rfl, h⟩ := h
    exact cts_law_draws hX a0 a1 (hX.bn (by decide +kernel) z_abs (by decide +kernel) (by decide +kernel) (by decide +kernel)) (hX.bn (by decide +kernel) z_int (by decide +kernel) (by decide +kernel) (by decide +kernel)) (hX.bn (by decide +kernel) z_range (by decide +kernel) (by decide +kernel) (by decide +kernel)) r' h
theorem cals_law_draws {P : Program} {w : World} {K : Frag} {mg : Str → Option Value} {base : Heap} {Tb : Tbs} {fa : Addr} {fd : FuncData} (F : Fun K "_law_draws" "_law_draws" s_law_draws fa fd) (hm : mg "_law_draws" = some (.ref fa)) (z_abs : mg "abs" = none) (z_int : mg "int" = none) (z_range : mg "range" = none) : Cal P w K mg base Tb "_law_draws" 2 (fun ds ro => ∃ (a0 : Int) (a1 : Int) (r : (List Int)), ds = [eI a0, eI a1] ∧ ro = Ro.ow (Ob.lst (List.map eI r)) ∧ f_law_draws a0 a1 = some r) 1 :=
  ⟨fa, fd, ["cell", "many"], rfl, oks_law_draws F z_abs z_int z_range, hm, F.kp, F.binds fun _ _ _ _ _ _ us hl => match us, hl with | [_, _], _ => rfl⟩
theorem oks_law_is_integer {P : Program} {w : World} {K : Frag} {mg : Str → Option Value} {base : Heap} {Tb : Tbs} {fa : Addr} {fd : FuncData} (F : Fun K "_law_is_integer" "_law_is_integer" s_law_is_integer fa fd) (z_bool : mg "bool" = none) (z_int : mg "int" = none) (z_isinstance : mg "isinstance" = none) : FnOk P w K mg base CX0 1 fa fd ["value"] (Pur K Tb (fun ds ro => ∃ (a0 : Dt) (r : Bool), ds = [eA a0] ∧ ro = Ro.fz (eB r) ∧ f_law_is_integer a0 = some r)) :=
  fn_pur (k := 0) (j := 0) F scs_law_is_integer (fun ys r h => by
    obtain ⟨_, r', rfl, rfl, h⟩ := h
    rfl) rfl fun X hX ys r h => by
    obtain ⟨a0, r', rfl, rfl, h⟩ := h
    exact cts_law_is_integer hX a0 (hX.bn (by decide +kernel) z_bool (by decide +kernel) (by decide +kernel) (by decide +kernel)) (hX.bn (by decide +kernel) z_int (by decide +kernel) (by decide +kernel) (by decide +kernel)) (hX.bn (by decide +kernel) z_isinstance (by decide +kernel) (by decide +kernel) (by decide +kernel)) r' h
theorem cals_law_is_integer {P : Program} {w : World} {K : Frag} {mg : Str → Option Value} {base : Heap} {Tb : Tbs} {fa : Addr} {fd : FuncData} (F : Fun K "_law_is_integer" "_law_is_integer" s_law_is_integer fa fd) (hm : mg "_law_is_integer" = some (.ref fa)) (z_bool : mg "bool" = none) (z_int : mg "int" = none) (z_isinstance : mg "isinstance" = none) : Cal P w K mg base Tb "_law_is_integer" 1 (fun ds ro => ∃ (a0 : Dt) (r : Bool), ds = [eA a0] ∧ ro = Ro.fz (eB r) ∧ f_law_is_integer a0 = some r) 1 :=
  ⟨fa, fd, ["value"], rfl, oks_law_is_integer F z_bool z_int z_isinstance, hm, F.kp, F.binds fun _ _ _ _ _ _ us hl => match us, hl with | [_], _ => rfl⟩
theorem cals_law_is {P : Program} {w : World} {K : Frag} {mg : Str → Option Value} {base : Heap} {Tb : Tbs} {fa : Addr} {fd : FuncData} (F : Fun K "_law_is" "_law_is" s_law_is fa fd) (hm : mg "_law_is" = some (.ref fa)) (z_all : mg "all" = none) (z_bool : mg "bool" = none) (z_int : mg "int" = none) (z_isinstance : mg "isinstance" = none) (z_len : mg "len" = none) (z_range : mg "range" = none) (z_str : mg "str" = none) (z_tuple : mg "tuple" = none) (C__law_is_integer : Cal P w K mg base Tb "_law_is_integer" 1 (fun ds ro => ∃ (a0 : Dt) (r : Bool), ds = [eA a0] ∧ ro = Ro.fz (eB r) ∧ f_law_is_integer a0 = some r) 1) : ∀ n : Nat, Cal P w K mg base Tb "_law_is" 2 (fun ds ro => ∃ (a0 : Dt) (a1 : Dt) (r : Bool), ds = [eA a0, eA a1] ∧ ro = Ro.fz (eB r) ∧ f_law_is n a0 a1 = some r) (2 + n)
  | 0 => ⟨fa, fd, ["value", "due"], rfl, fn_pur (k := 1) (j := 1) F scs_law_is (fun ys r h => by
    obtain ⟨_, _, r', rfl, rfl, h⟩ := h
    rfl) rfl (fun X hX ys r h => by
    obtain ⟨a0, a1, r', rfl, rfl, h⟩ := h
    cases h), hm, F.kp, F.binds fun _ _ _ _ _ _ us hl => match us, hl with | [_, _], _ => rfl⟩
  | n + 1 =>
    have ih := cals_law_is F hm z_all z_bool z_int z_isinstance z_len z_range z_str z_tuple C__law_is_integer n
    ⟨fa, fd, ["value", "due"], rfl, fn_pur (k := 2 + n) (j := 1) F scs_law_is (fun ys r h => by
    obtain ⟨_, _, r', rfl, rfl, h⟩ := h
    rfl) rfl (fun X hX ys r h => by
    obtain ⟨a0, a1, r', rfl, rfl, h⟩ := h
    exact cts_law_is hX n a0 a1 (hX.bn (by decide +kernel) z_all (by decide +kernel) (by decide +kernel) (by decide +kernel)) (hX.bn (by decide +kernel) z_bool (by decide +kernel) (by decide +kernel) (by decide +kernel)) (hX.bn (by decide +kernel) z_int (by decide +kernel) (by decide +kernel) (by decide +kernel)) (hX.bn (by decide +kernel) z_isinstance (by decide +kernel) (by decide +kernel) (by decide +kernel)) (hX.bn (by decide +kernel) z_len (by decide +kernel) (by decide +kernel) (by decide +kernel)) (hX.bn (by decide +kernel) z_range (by decide +kernel) (by decide +kernel) (by decide +kernel)) (hX.bn (by decide +kernel) z_str (by decide +kernel) (by decide +kernel) (by decide +kernel)) (hX.bn (by decide +kernel) z_tuple (by decide +kernel) (by decide +kernel) (by decide +kernel)) (C__law_is_integer.fn hX (by decide +kernel) (by decide +kernel) (by omega)) (ih.fn0 hX (by decide +kernel) (by omega)) r' h), hm, F.kp, F.binds fun _ _ _ _ _ _ us hl => match us, hl with | [_, _], _ => rfl⟩
theorem oks_law_down {P : Program} {w : World} {K : Frag} {mg : Str → Option Value} {base : Heap} {Tb : Tbs} {fa : Addr} {fd : FuncData} (F : Fun K "_law_down" "_law_down" s_law_down fa fd) (z_len : mg "len" = none) (z_range : mg "range" = none) : FnOk P w K mg base CX0 1 fa fd ["streams", "k"] (Pur K Tb (fun ds ro => ∃ (a0 : (List Int)) (a1 : Int) (r : (List Int)), ds = [(eT eI) a0, eI a1] ∧ ro = Ro.ow (Ob.lst (List.map eI r)) ∧ f_law_down a0 a1 = some r)) :=
  fn_pur (k := 0) (j := 2) F scs_law_down (fun ys r h => by
    obtain ⟨_, _, r', rfl, rfl, h⟩ := h
    rfl) rfl fun X hX ys r h => by
    obtain ⟨a0, a1, r', rfl, rfl, h⟩ := h
    exact cts_law_down hX a0 a1 (hX.bn (by decide +kernel) z_len (by decide +kernel) (by decide +kernel) (by decide +kernel)) (hX.bn (by decide +kernel) z_range (by decide +kernel) (by decide +kernel) (by decide +kernel)) r' h
theorem cals_law_down {P : Program} {w : World} {K : Frag} {mg : Str → Option Value} {base : Heap} {Tb : Tbs} {fa : Addr} {fd : FuncData} (F : Fun K "_law_down" "_law_down" s_law_down fa fd) (hm : mg "_law_down" = some (.ref fa)) (z_len : mg "len" = none) (z_range : mg "range" = none) : Cal P w K mg base Tb "_law_down" 2 (fun ds ro => ∃ (a0 : (List Int)) (a1 : Int) (r : (List Int)), ds = [(eT eI) a0, eI a1] ∧ ro = Ro.ow (Ob.lst (List.map eI r)) ∧ f_law_down a0 a1 = some r) 1 :=
  ⟨fa, fd, ["streams", "k"], rfl, oks_law_down F z_len z_range, hm, F.kp, F.binds fun _ _ _ _ _ _ us hl => match us, hl with | [_, _], _ => rfl⟩
theorem oks_law_streams {P : Program} {w : World} {K : Frag} {mg : Str → Option Value} {base : Heap} {Tb : Tbs} {fa : Addr} {fd : FuncData} (F : Fun K "_law_streams" "_law_streams" s_law_streams fa fd) (z_int : mg "int" = none) (z_max : mg "max" = none) (z_range : mg "range" = none) (z_tuple : mg "tuple" = none) : FnOk P w K mg base CX0 1 fa fd ["kind", "draws"] (Pur K Tb (fun ds ro => ∃ (a0 : Int) (a1 : (List Int)) (r : (List Int)), ds = [eI a0, (eL eI) a1] ∧ ro = Ro.fz ((eT eI) r) ∧ f_law_streams a0 a1 = some r)) :=
  fn_pur (k := 0) (j := 8) F scs_law_streams (fun ys r h => by
    obtain ⟨_, _, r', rfl, rfl, h⟩ := h
    rfl) rfl fun X hX ys r h => by
    obtain ⟨a0, a1, r', rfl, rfl, h⟩ := h
    exact cts_law_streams hX a0 a1 (hX.bn (by decide +kernel) z_int (by decide +kernel) (by decide +kernel) (by decide +kernel)) (hX.bn (by decide +kernel) z_max (by decide +kernel) (by decide +kernel) (by decide +kernel)) (hX.bn (by decide +kernel) z_range (by decide +kernel) (by decide +kernel) (by decide +kernel)) (hX.bn (by decide +kernel) z_tuple (by decide +kernel) (by decide +kernel) (by decide +kernel)) r' h
theorem cals_law_streams {P : Program} {w : World} {K : Frag} {mg : Str → Option Value} {base : Heap} {Tb : Tbs} {fa : Addr} {fd : FuncData} (F : Fun K "_law_streams" "_law_streams" s_law_streams fa fd) (hm : mg "_law_streams" = some (.ref fa)) (z_int : mg "int" = none) (z_max : mg "max" = none) (z_range : mg "range" = none) (z_tuple : mg "tuple" = none) : Cal P w K mg base Tb "_law_streams" 2 (fun ds ro => ∃ (a0 : Int) (a1 : (List Int)) (r : (List Int)), ds = [eI a0, (eL eI) a1] ∧ ro = Ro.fz ((eT eI) r) ∧ f_law_streams a0 a1 = some r) 1 :=
  ⟨fa, fd, ["kind", "draws"], rfl, oks_law_streams F z_int z_max z_range z_tuple, hm, F.kp, F.binds fun _ _ _ _ _ _ us hl => match us, hl with | [_, _], _ => rfl⟩
theorem oks_law_orders {P : Program} {w : World} {K : Frag} {mg : Str → Option Value} {base : Heap} {Tb : Tbs} {fa : Addr} {fd : FuncData} (F : Fun K "_law_orders" "_law_orders" s_law_orders fa fd) (z_len : mg "len" = none) (z_range : mg "range" = none) (z_sorted : mg "sorted" = none) (z_tuple : mg "tuple" = none) : FnOk P w K mg base CX0 1 fa fd ["streams", "downs"] (Pur K Tb (fun ds ro => ∃ (a0 : (List Int)) (a1 : (List (List Int))) (r : (List Int)), ds = [(eT eI) a0, (eL (eL eI)) a1] ∧ ro = Ro.fz ((eT eI) r) ∧ f_law_orders a0 a1 = some r)) :=
  fn_pur (k := 0) (j := 7) F scs_law_orders (fun ys r h => by
    obtain ⟨_, _, r', rfl, rfl, h⟩ := h
    rfl) rfl fun X hX ys r h => by
    obtain ⟨a0, a1, r', rfl, rfl, h⟩ := h
    exact cts_law_orders hX a0 a1 (hX.bn (by decide +kernel) z_len (by decide +kernel) (by decide +kernel) (by decide +kernel)) (hX.bn (by decide +kernel) z_range (by decide +kernel) (by decide +kernel) (by decide +kernel)) (hX.bn (by decide +kernel) z_sorted (by decide +kernel) (by decide +kernel) (by decide +kernel)) (hX.bn (by decide +kernel) z_tuple (by decide +kernel) (by decide +kernel) (by decide +kernel)) r' h
theorem cals_law_orders {P : Program} {w : World} {K : Frag} {mg : Str → Option Value} {base : Heap} {Tb : Tbs} {fa : Addr} {fd : FuncData} (F : Fun K "_law_orders" "_law_orders" s_law_orders fa fd) (hm : mg "_law_orders" = some (.ref fa)) (z_len : mg "len" = none) (z_range : mg "range" = none) (z_sorted : mg "sorted" = none) (z_tuple : mg "tuple" = none) : Cal P w K mg base Tb "_law_orders" 2 (fun ds ro => ∃ (a0 : (List Int)) (a1 : (List (List Int))) (r : (List Int)), ds = [(eT eI) a0, (eL (eL eI)) a1] ∧ ro = Ro.fz ((eT eI) r) ∧ f_law_orders a0 a1 = some r) 1 :=
  ⟨fa, fd, ["streams", "downs"], rfl, oks_law_orders F z_len z_range z_sorted z_tuple, hm, F.kp, F.binds fun _ _ _ _ _ _ us hl => match us, hl with | [_, _], _ => rfl⟩
theorem cals_law_is_tree {P : Program} {w : World} {K : Frag} {mg : Str → Option Value} {base : Heap} {Tb : Tbs} {fa : Addr} {fd : FuncData} (F : Fun K "_law_is_tree" "_law_is_tree" s_law_is_tree fa fd) (hm : mg "_law_is_tree" = some (.ref fa)) (z_isinstance : mg "isinstance" = none) (z_len : mg "len" = none) (z_tuple : mg "tuple" = none) (C__law_is_integer : Cal P w K mg base Tb "_law_is_integer" 1 (fun ds ro => ∃ (a0 : Dt) (r : Bool), ds = [eA a0] ∧ ro = Ro.fz (eB r) ∧ f_law_is_integer a0 = some r) 1) : ∀ n : Nat, Cal P w K mg base Tb "_law_is_tree" 2 (fun ds ro => ∃ (a0 : Dt) (a1 : Int) (r : Bool), ds = [eA a0, eI a1] ∧ ro = Ro.fz (eB r) ∧ f_law_is_tree n a0 a1 = some r) (2 + n)
  | 0 => ⟨fa, fd, ["value", "h"], rfl, fn_pur (k := 1) (j := 0) F scs_law_is_tree (fun ys r h => by
    obtain ⟨_, _, r', rfl, rfl, h⟩ := h
    rfl) rfl (fun X hX ys r h => by
    obtain ⟨a0, a1, r', rfl, rfl, h⟩ := h
    cases h), hm, F.kp, F.binds fun _ _ _ _ _ _ us hl => match us, hl with | [_, _], _ => rfl⟩
  | n + 1 =>
    have ih := cals_law_is_tree F hm z_isinstance z_len z_tuple C__law_is_integer n
    ⟨fa, fd, ["value", "h"], rfl, fn_pur (k := 2 + n) (j := 0) F scs_law_is_tree (fun ys r h => by
    obtain ⟨_, _, r', rfl, rfl, h⟩ := h
    rfl) rfl (fun X hX ys r h => by
    obtain ⟨a0, a1, r', rfl, rfl, h⟩ := h
    exact cts_law_is_tree hX n a0 a1 (hX.bn (by decide +kernel) z_isinstance (by decide +kernel) (by decide +kernel) (by decide +kernel)) (hX.bn (by decide +kernel) z_len (by decide +kernel) (by decide +kernel) (by decide +kernel)) (hX.bn (by decide +kernel) z_tuple (by decide +kernel) (by decide +kernel) (by decide +kernel)) (C__law_is_integer.fn hX (by decide +kernel) (by decide +kernel) (by omega)) (ih.fn hX (by decide +kernel) (by decide +kernel) (by omega)) r' h), hm, F.kp, F.binds fun _ _ _ _ _ _ us hl => match us, hl with | [_, _], _ => rfl⟩
theorem cals_law_fan {P : Program} {w : World} {K : Frag} {mg : Str → Option Value} {base : Heap} {Tb : Tbs} {fa : Addr} {fd : FuncData} (F : Fun K "_law_fan" "_law_fan" s_law_fan fa fd) (hm : mg "_law_fan" = some (.ref fa)) (z_len : mg "len" = none) : ∀ n : Nat, Cal P w K mg base Tb "_law_fan" 4 (fun ds ro => ∃ (a0 : (List (List Int))) (a1 : Int) (a2 : Int) (a3 : Dt) (r : Bool), ds = [(eL (eL eI)) a0, eI a1, eI a2, eA a3] ∧ ro = Ro.fz (eB r) ∧ f_law_fan n a0 a1 a2 a3 = some r) (1 + n)
  | 0 => ⟨fa, fd, ["downs", "k", "h", "tree"], rfl, fn_pur (k := 0) (j := 2) F scs_law_fan (fun ys r h => by
    obtain ⟨_, _, _, _, r', rfl, rfl, h⟩ := h
    rfl) rfl (fun X hX ys r h => by
    obtain ⟨a0, a1, a2, a3, r', rfl, rfl, h⟩ := h
    cases h), hm, F.kp, F.binds fun _ _ _ _ _ _ us hl => match us, hl with | [_, _, _, _], _ => rfl⟩
  | n + 1 =>
    have ih := cals_law_fan F hm z_len n
    ⟨fa, fd, ["downs", "k", "h", "tree"], rfl, fn_pur (k := 1 + n) (j := 2) F scs_law_fan (fun ys r h => by
    obtain ⟨_, _, _, _, r', rfl, rfl, h⟩ := h
    rfl) rfl (fun X hX ys r h => by
    obtain ⟨a0, a1, a2, a3, r', rfl, rfl, h⟩ := h
    exact cts_law_fan hX n a0 a1 a2 a3 (hX.bn (by decide +kernel) z_len (by decide +kernel) (by decide +kernel) (by decide +kernel)) (ih.fn hX (by decide +kernel) (by decide +kernel) (by omega)) r' h), hm, F.kp, F.binds fun _ _ _ _ _ _ us hl => match us, hl with | [_, _, _, _], _ => rfl⟩
theorem cals_law_trees {P : Program} {w : World} {K : Frag} {mg : Str → Option Value} {base : Heap} {Tb : Tbs} {fa : Addr} {fd : FuncData} (F : Fun K "_law_trees" "_law_trees" s_law_trees fa fd) (hm : mg "_law_trees" = some (.ref fa)) (z_len : mg "len" = none) : ∀ n : Nat, Cal P w K mg base Tb "_law_trees" 2 (fun ds ro => ∃ (a0 : Dt) (a1 : Int) (r : (List Dt)), ds = [eA a0, eI a1] ∧ ro = Ro.ow (Ob.lst (List.map eA r)) ∧ f_law_trees n a0 a1 = some r) (1 + n)
  | 0 => ⟨fa, fd, ["tree", "odd"], rfl, fn_pur (k := 0) (j := 3) F scs_law_trees (fun ys r h => by
    obtain ⟨_, _, r', rfl, rfl, h⟩ := h
    rfl) rfl (fun X hX ys r h => by
    obtain ⟨a0, a1, r', rfl, rfl, h⟩ := h
    cases h), hm, F.kp, F.binds fun _ _ _ _ _ _ us hl => match us, hl with | [_, _], _ => rfl⟩
  | n + 1 =>
    have ih := cals_law_trees F hm z_len n
    ⟨fa, fd, ["tree", "odd"], rfl, fn_pur (k := 1 + n) (j := 3) F scs_law_trees (fun ys r h => by
    obtain ⟨_, _, r', rfl, rfl, h⟩ := h
    rfl) rfl (fun X hX ys r h => by
    obtain ⟨a0, a1, r', rfl, rfl, h⟩ := h
    exact cts_law_trees hX n a0 a1 (hX.bn (by decide +kernel) z_len (by decide +kernel) (by decide +kernel) (by decide +kernel)) (ih.fn hX (by decide +kernel) (by decide +kernel) (by omega)) r' h), hm, F.kp, F.binds fun _ _ _ _ _ _ us hl => match us, hl with | [_, _], _ => rfl⟩
theorem oks_law_bush {P : Program} {w : World} {K : Frag} {mg : Str → Option Value} {base : Heap} {Tb : Tbs} {fa : Addr} {fd : FuncData} (F : Fun K "_law_bush" "_law_bush" s_law_bush fa fd) (z_int : mg "int" = none) (z_range : mg "range" = none) (z_tuple : mg "tuple" = none) : FnOk P w K mg base CX0 1 fa fd ["draws"] (Pur K Tb (fun ds ro => ∃ (a0 : (List Int)) (r : (List Int)), ds = [(eL eI) a0] ∧ ro = Ro.fz ((eT eI) r) ∧ f_law_bush a0 = some r)) :=
  fn_pur (k := 0) (j := 3) F scs_law_bush (fun ys r h => by
    obtain ⟨_, r', rfl, rfl, h⟩ := h
    rfl) rfl fun X hX ys r h => by
    obtain ⟨a0, r', rfl, rfl, h⟩ := h
    exact cts_law_bush hX a0 (hX.bn (by decide +kernel) z_int (by decide +kernel) (by decide +kernel) (by decide +kernel)) (hX.bn (by decide +kernel) z_range (by decide +kernel) (by decide +kernel) (by decide +kernel)) (hX.bn (by decide +kernel) z_tuple (by decide +kernel) (by decide +kernel) (by decide +kernel)) r' h
theorem cals_law_bush {P : Program} {w : World} {K : Frag} {mg : Str → Option Value} {base : Heap} {Tb : Tbs} {fa : Addr} {fd : FuncData} (F : Fun K "_law_bush" "_law_bush" s_law_bush fa fd) (hm : mg "_law_bush" = some (.ref fa)) (z_int : mg "int" = none) (z_range : mg "range" = none) (z_tuple : mg "tuple" = none) : Cal P w K mg base Tb "_law_bush" 1 (fun ds ro => ∃ (a0 : (List Int)) (r : (List Int)), ds = [(eL eI) a0] ∧ ro = Ro.fz ((eT eI) r) ∧ f_law_bush a0 = some r) 1 :=
  ⟨fa, fd, ["draws"], rfl, oks_law_bush F z_int z_range z_tuple, hm, F.kp, F.binds fun _ _ _ _ _ _ us hl => match us, hl with | [_], _ => rfl⟩
theorem oks_law_right {P : Program} {w : World} {K : Frag} {mg : Str → Option Value} {base : Heap} {Tb : Tbs} {fa : Addr} {fd : FuncData} (F : Fun K "_law_right" "_law_right" s_law_right fa fd) (z_int : mg "int" = none) (z_len : mg "len" = none) (z_max : mg "max" = none) (z_range : mg "range" = none) (C__law_down : Cal P w K mg base Tb "_law_down" 2 (fun ds ro => ∃ (a0 : (List Int)) (a1 : Int) (r : (List Int)), ds = [(eT eI) a0, eI a1] ∧ ro = Ro.ow (Ob.lst (List.map eI r)) ∧ f_law_down a0 a1 = some r) 1) (C__law_fan : Cal P w K mg base Tb "_law_fan" 4 (fun ds ro => ∃ (a0 : (List (List Int))) (a1 : Int) (a2 : Int) (a3 : Dt) (r : Bool), ds = [(eL (eL eI)) a0, eI a1, eI a2, eA a3] ∧ ro = Ro.fz (eB r) ∧ f_law_fan 9 a0 a1 a2 a3 = some r) 10) (C__law_is : Cal P w K mg base Tb "_law_is" 2 (fun ds ro => ∃ (a0 : Dt) (a1 : Dt) (r : Bool), ds = [eA a0, eA a1] ∧ ro = Ro.fz (eB r) ∧ f_law_is 8 a0 a1 = some r) 10) (C__law_is_tree : Cal P w K mg base Tb "_law_is_tree" 2 (fun ds ro => ∃ (a0 : Dt) (a1 : Int) (r : Bool), ds = [eA a0, eI a1] ∧ ro = Ro.fz (eB r) ∧ f_law_is_tree 9 a0 a1 = some r) 11) (C__law_orders : Cal P w K mg base Tb "_law_orders" 2 (fun ds ro => ∃ (a0 : (List Int)) (a1 : (List (List Int))) (r : (List Int)), ds = [(eT eI) a0, (eL (eL eI)) a1] ∧ ro = Ro.fz ((eT eI) r) ∧ f_law_orders a0 a1 = some r) 1) (C__law_trees : Cal P w K mg base Tb "_law_trees" 2 (fun ds ro => ∃ (a0 : Dt) (a1 : Int) (r : (List Dt)), ds = [eA a0, eI a1] ∧ ro = Ro.ow (Ob.lst (List.map eA r)) ∧ f_law_trees 9 a0 a1 = some r) 10) (C_fan : Cal P w K mg base Tb "fan" 3 (fun ds ro => ∃ (a0 : (List Int)) (a1 : Int) (a2 : Int) (r : Dt), ds = [(eT eI) a0, eI a1, eI a2] ∧ ro = Ro.fz (eA r) ∧ f_fan 8 a0 a1 a2 = some r) 30) (C_is_fan : Cal P w K mg base Tb "is_fan" 4 (fun ds ro => ∃ (a0 : (List Int)) (a1 : Int) (a2 : Int) (a3 : Dt) (r : Bool), ds = [(eT eI) a0, eI a1, eI a2, eA a3] ∧ ro = Ro.fz (eB r) ∧ f_is_fan 9 a0 a1 a2 a3 = some r) 12) (C_orders : Cal P w K mg base Tb "orders" 1 (fun ds ro => ∃ (a0 : (List Int)) (r : (List Int)), ds = [(eT eI) a0] ∧ ro = Ro.fz ((eT eI) r) ∧ f_orders a0 = some r) 22) : FnOk P w K mg base CX0 31 fa fd ["streams", "draws"] (Pur K Tb (fun ds ro => ∃ (a0 : (List Int)) (a1 : (List Int)) (r : Bool), ds = [(eT eI) a0, (eL eI) a1] ∧ ro = Ro.fz (eB r) ∧ f_law_right a0 a1 = some r)) :=
  fn_pur (k := 30) (j := 11) F scs_law_right (fun ys r h => by
    obtain ⟨_, _, r', rfl, rfl, h⟩ := h
    rfl) rfl fun X hX ys r h => by
    obtain ⟨a0, a1, r', rfl, rfl, h⟩ := h
    exact cts_law_right hX a0 a1 (hX.bn (by decide +kernel) z_int (by decide +kernel) (by decide +kernel) (by decide +kernel)) (hX.bn (by decide +kernel) z_len (by decide +kernel) (by decide +kernel) (by decide +kernel)) (hX.bn (by decide +kernel) z_max (by decide +kernel) (by decide +kernel) (by decide +kernel)) (hX.bn (by decide +kernel) z_range (by decide +kernel) (by decide +kernel) (by decide +kernel)) (C__law_fan.fn hX (by decide +kernel) (by decide +kernel) (by decide)) (C__law_is.fn hX (by decide +kernel) (by decide +kernel) (by decide)) (C__law_is_tree.fn hX (by decide +kernel) (by decide +kernel) (by decide)) (C__law_orders.fn hX (by decide +kernel) (by decide +kernel) (by decide)) (C__law_trees.fn hX (by decide +kernel) (by decide +kernel) (by decide)) (C_fan.fn hX (by decide +kernel) (by decide +kernel) (by decide)) (C_is_fan.fn hX (by decide +kernel) (by decide +kernel) (by decide)) (C_orders.fn hX (by decide +kernel) (by decide +kernel) (by decide)) (C__law_down.fn0 hX (by decide +kernel) (by decide)) r' h
theorem cals_law_right {P : Program} {w : World} {K : Frag} {mg : Str → Option Value} {base : Heap} {Tb : Tbs} {fa : Addr} {fd : FuncData} (F : Fun K "_law_right" "_law_right" s_law_right fa fd) (hm : mg "_law_right" = some (.ref fa)) (z_int : mg "int" = none) (z_len : mg "len" = none) (z_max : mg "max" = none) (z_range : mg "range" = none) (C__law_down : Cal P w K mg base Tb "_law_down" 2 (fun ds ro => ∃ (a0 : (List Int)) (a1 : Int) (r : (List Int)), ds = [(eT eI) a0, eI a1] ∧ ro = Ro.ow (Ob.lst (List.map eI r)) ∧ f_law_down a0 a1 = some r) 1) (C__law_fan : Cal P w K mg base Tb "_law_fan" 4 (fun ds ro => ∃ (a0 : (List (List Int))) (a1 : Int) (a2 : Int) (a3 : Dt) (r : Bool), ds = [(eL (eL eI)) a0, eI a1, eI a2, eA a3] ∧ ro = Ro.fz (eB r) ∧ f_law_fan 9 a0 a1 a2 a3 = some r) 10) (C__law_is : Cal P w K mg base Tb "_law_is" 2 (fun ds ro => ∃ (a0 : Dt) (a1 : Dt) (r : Bool), ds = [eA a0, eA a1] ∧ ro = Ro.fz (eB r) ∧ f_law_is 8 a0 a1 = some r) 10) (C__law_is_tree : Cal P w K mg base Tb "_law_is_tree" 2 (fun ds ro => ∃ (a0 : Dt) (a1 : Int) (r : Bool), ds = [eA a0, eI a1] ∧ ro = Ro.fz (eB r) ∧ f_law_is_tree 9 a0 a1 = some r) 11) (C__law_orders : Cal P w K mg base Tb "_law_orders" 2 (fun ds ro => ∃ (a0 : (List Int)) (a1 : (List (List Int))) (r : (List Int)), ds = [(eT eI) a0, (eL (eL eI)) a1] ∧ ro = Ro.fz ((eT eI) r) ∧ f_law_orders a0 a1 = some r) 1) (C__law_trees : Cal P w K mg base Tb "_law_trees" 2 (fun ds ro => ∃ (a0 : Dt) (a1 : Int) (r : (List Dt)), ds = [eA a0, eI a1] ∧ ro = Ro.ow (Ob.lst (List.map eA r)) ∧ f_law_trees 9 a0 a1 = some r) 10) (C_fan : Cal P w K mg base Tb "fan" 3 (fun ds ro => ∃ (a0 : (List Int)) (a1 : Int) (a2 : Int) (r : Dt), ds = [(eT eI) a0, eI a1, eI a2] ∧ ro = Ro.fz (eA r) ∧ f_fan 8 a0 a1 a2 = some r) 30) (C_is_fan : Cal P w K mg base Tb "is_fan" 4 (fun ds ro => ∃ (a0 : (List Int)) (a1 : Int) (a2 : Int) (a3 : Dt) (r : Bool), ds = [(eT eI) a0, eI a1, eI a2, eA a3] ∧ ro = Ro.fz (eB r) ∧ f_is_fan 9 a0 a1 a2 a3 = some r) 12) (C_orders : Cal P w K mg base Tb "orders" 1 (fun ds ro => ∃ (a0 : (List Int)) (r : (List Int)), ds = [(eT eI) a0] ∧ ro = Ro.fz ((eT eI) r) ∧ f_orders a0 = some r) 22) : Cal P w K mg base Tb "_law_right" 2 (fun ds ro => ∃ (a0 : (List Int)) (a1 : (List Int)) (r : Bool), ds = [(eT eI) a0, (eL eI) a1] ∧ ro = Ro.fz (eB r) ∧ f_law_right a0 a1 = some r) 31 :=
  ⟨fa, fd, ["streams", "draws"], rfl, oks_law_right F z_int z_len z_max z_range C__law_down C__law_fan C__law_is C__law_is_tree C__law_orders C__law_trees C_fan C_is_fan C_orders, hm, F.kp, F.binds fun _ _ _ _ _ _ us hl => match us, hl with | [_, _], _ => rfl⟩
theorem oks_law {P : Program} {w : World} {K : Frag} {mg : Str → Option Value} {base : Heap} {Tb : Tbs} {fa : Addr} {fd : FuncData} (F : Fun K "law" "law" s_law fa fd) (z_range : mg "range" = none) (C__law_bush : Cal P w K mg base Tb "_law_bush" 1 (fun ds ro => ∃ (a0 : (List Int)) (r : (List Int)), ds = [(eL eI) a0] ∧ ro = Ro.fz ((eT eI) r) ∧ f_law_bush a0 = some r) 1) (C__law_cell : Cal P w K mg base Tb "_law_cell" 2 (fun ds ro => ∃ (a0 : (List Int)) (a1 : Int) (r : Int), ds = [(eL eI) a0, eI a1] ∧ ro = Ro.fz (eI r) ∧ f_law_cell a0 a1 = some r) 1) (C__law_draws : Cal P w K mg base Tb "_law_draws" 2 (fun ds ro => ∃ (a0 : Int) (a1 : Int) (r : (List Int)), ds = [eI a0, eI a1] ∧ ro = Ro.ow (Ob.lst (List.map eI r)) ∧ f_law_draws a0 a1 = some r) 1) (C__law_right : Cal P w K mg base Tb "_law_right" 2 (fun ds ro => ∃ (a0 : (List Int)) (a1 : (List Int)) (r : Bool), ds = [(eT eI) a0, (eL eI) a1] ∧ ro = Ro.fz (eB r) ∧ f_law_right a0 a1 = some r) 31) (C__law_streams : Cal P w K mg base Tb "_law_streams" 2 (fun ds ro => ∃ (a0 : Int) (a1 : (List Int)) (r : (List Int)), ds = [eI a0, (eL eI) a1] ∧ ro = Ro.fz ((eT eI) r) ∧ f_law_streams a0 a1 = some r) 1) : FnOk P w K mg base CX0 32 fa fd ["script"] (Pur K Tb (fun ds ro => ∃ (a0 : (List Int)) (r : Bool), ds = [(eL eI) a0] ∧ ro = Ro.fz (eB r) ∧ f_law a0 = some r)) :=
  fn_pur (k := 31) (j := 3) F scs_law (fun ys r h => by
    obtain ⟨_, r', rfl, rfl, h⟩ := h
    rfl) rfl fun X hX ys r h => by
    obtain ⟨a0, r', rfl, rfl, h⟩ := h
    exact cts_law hX a0 (hX.bn (by decide +kernel) z_range (by decide +kernel) (by decide +kernel) (by decide +kernel)) (C__law_bush.fn hX (by decide +kernel) (by decide +kernel) (by decide)) (C__law_cell.fn hX (by decide +kernel) (by decide +kernel) (by decide)) (C__law_draws.fn hX (by decide +kernel) (by decide +kernel) (by decide)) (C__law_right.fn hX (by decide +kernel) (by decide +kernel) (by decide)) (C__law_streams.fn hX (by decide +kernel) (by decide +kernel) (by decide)) r' h
theorem cals_law {P : Program} {w : World} {K : Frag} {mg : Str → Option Value} {base : Heap} {Tb : Tbs} {fa : Addr} {fd : FuncData} (F : Fun K "law" "law" s_law fa fd) (hm : mg "law" = some (.ref fa)) (z_range : mg "range" = none) (C__law_bush : Cal P w K mg base Tb "_law_bush" 1 (fun ds ro => ∃ (a0 : (List Int)) (r : (List Int)), ds = [(eL eI) a0] ∧ ro = Ro.fz ((eT eI) r) ∧ f_law_bush a0 = some r) 1) (C__law_cell : Cal P w K mg base Tb "_law_cell" 2 (fun ds ro => ∃ (a0 : (List Int)) (a1 : Int) (r : Int), ds = [(eL eI) a0, eI a1] ∧ ro = Ro.fz (eI r) ∧ f_law_cell a0 a1 = some r) 1) (C__law_draws : Cal P w K mg base Tb "_law_draws" 2 (fun ds ro => ∃ (a0 : Int) (a1 : Int) (r : (List Int)), ds = [eI a0, eI a1] ∧ ro = Ro.ow (Ob.lst (List.map eI r)) ∧ f_law_draws a0 a1 = some r) 1) (C__law_right : Cal P w K mg base Tb "_law_right" 2 (fun ds ro => ∃ (a0 : (List Int)) (a1 : (List Int)) (r : Bool), ds = [(eT eI) a0, (eL eI) a1] ∧ ro = Ro.fz (eB r) ∧ f_law_right a0 a1 = some r) 31) (C__law_streams : Cal P w K mg base Tb "_law_streams" 2 (fun ds ro => ∃ (a0 : Int) (a1 : (List Int)) (r : (List Int)), ds = [eI a0, (eL eI) a1] ∧ ro = Ro.fz ((eT eI) r) ∧ f_law_streams a0 a1 = some r) 1) : Cal P w K mg base Tb "law" 1 (fun ds ro => ∃ (a0 : (List Int)) (r : Bool), ds = [(eL eI) a0] ∧ ro = Ro.fz (eB r) ∧ f_law a0 = some r) 32 :=
  ⟨fa, fd, ["script"], rfl, oks_law F z_range C__law_bush C__law_cell C__law_draws C__law_right C__law_streams, hm, F.kp, F.binds fun _ _ _ _ _ _ us hl => match us, hl with | [_], _ => rfl⟩
theorem all_mk {l : PySem.W.OpenLaw} {w : World} {K : Frag} {h : Heap} {mg : Str → Option Value} {fa : Addr} (X : K.In h) (G : h.Ns mainGlobals mg) (hfa : mg "law" = some (.ref fa))
    {od1 an1 : Option Addr} {sl1 : Array (Option Value)} {oc1 kV1 dc1 pm1 cd1 ct1 : Value} {f1 : Addr}
    (a1 : PySem.W.nsIn K mainGlobals "way_down" = some (some (.ref f1))) (l1 : K.lookup f1 = some ⟨oc1, od1, .func (PySem.W.fnOf "way_down" "way_down" (defArgs s_way_down) (defBody s_way_down) (defScope s_way_down) .none kV1 dc1 pm1 an1 cd1 ct1), sl1⟩) (c1 : PySem.W.codeIn K cd1 "way_down" = true) (k1 : PySem.W.keepIn K (.ref f1) = true)
    {od2 an2 : Option Addr} {sl2 : Array (Option Value)} {oc2 kV2 dc2 pm2 cd2 ct2 : Value} {f2 : Addr}
    (a2 : PySem.W.nsIn K mainGlobals "is_above" = some (some (.ref f2))) (l2 : K.lookup f2 = some ⟨oc2, od2, .func (PySem.W.fnOf "is_above" "is_above" (defArgs s_is_above) (defBody s_is_above) (defScope s_is_above) .none kV2 dc2 pm2 an2 cd2 ct2), sl2⟩) (c2 : PySem.W.codeIn K cd2 "is_above" = true) (k2 : PySem.W.keepIn K (.ref f2) = true)
    {od3 an3 : Option Addr} {sl3 : Array (Option Value)} {oc3 kV3 dc3 pm3 cd3 ct3 : Value} {f3 : Addr}
    (a3 : PySem.W.nsIn K mainGlobals "all_above" = some (some (.ref f3))) (l3 : K.lookup f3 = some ⟨oc3, od3, .func (PySem.W.fnOf "all_above" "all_above" (defArgs s_all_above) (defBody s_all_above) (defScope s_all_above) .none kV3 dc3 pm3 an3 cd3 ct3), sl3⟩) (c3 : PySem.W.codeIn K cd3 "all_above" = true) (k3 : PySem.W.keepIn K (.ref f3) = true)
    {od4 an4 : Option Addr} {sl4 : Array (Option Value)} {oc4 kV4 dc4 pm4 cd4 ct4 : Value} {f4 : Addr}
    (a4 : PySem.W.nsIn K mainGlobals "order_of" = some (some (.ref f4))) (l4 : K.lookup f4 = some ⟨oc4, od4, .func (PySem.W.fnOf "order_of" "order_of" (defArgs s_order_of) (defBody s_order_of) (defScope s_order_of) .none kV4 dc4 pm4 an4 cd4 ct4), sl4⟩) (c4 : PySem.W.codeIn K cd4 "order_of" = true) (k4 : PySem.W.keepIn K (.ref f4) = true)
    {od5 an5 : Option Addr} {sl5 : Array (Option Value)} {oc5 kV5 dc5 pm5 cd5 ct5 : Value} {f5 : Addr}
    (a5 : PySem.W.nsIn K mainGlobals "orders" = some (some (.ref f5))) (l5 : K.lookup f5 = some ⟨oc5, od5, .func (PySem.W.fnOf "orders" "orders" (defArgs s_orders) (defBody s_orders) (defScope s_orders) .none kV5 dc5 pm5 an5 cd5 ct5), sl5⟩) (c5 : PySem.W.codeIn K cd5 "orders" = true) (k5 : PySem.W.keepIn K (.ref f5) = true)
    {od6 an6 : Option Addr} {sl6 : Array (Option Value)} {oc6 kV6 dc6 pm6 cd6 ct6 : Value} {f6 : Addr}
    (a6 : PySem.W.nsIn K mainGlobals "fan" = some (some (.ref f6))) (l6 : K.lookup f6 = some ⟨oc6, od6, .func (PySem.W.fnOf "fan" "fan" (defArgs s_fan) (defBody s_fan) (defScope s_fan) .none kV6 dc6 pm6 an6 cd6 ct6), sl6⟩) (c6 : PySem.W.codeIn K cd6 "fan" = true) (k6 : PySem.W.keepIn K (.ref f6) = true)
    {od7 an7 : Option Addr} {sl7 : Array (Option Value)} {oc7 kV7 dc7 pm7 cd7 ct7 : Value} {f7 : Addr}
    (a7 : PySem.W.nsIn K mainGlobals "is_fan" = some (some (.ref f7))) (l7 : K.lookup f7 = some ⟨oc7, od7, .func (PySem.W.fnOf "is_fan" "is_fan" (defArgs s_is_fan) (defBody s_is_fan) (defScope s_is_fan) .none kV7 dc7 pm7 an7 cd7 ct7), sl7⟩) (c7 : PySem.W.codeIn K cd7 "is_fan" = true) (k7 : PySem.W.keepIn K (.ref f7) = true)
    {od8 an8 : Option Addr} {sl8 : Array (Option Value)} {oc8 kV8 dc8 pm8 cd8 ct8 : Value} {f8 : Addr}
    (a8 : PySem.W.nsIn K mainGlobals "_law_cell" = some (some (.ref f8))) (l8 : K.lookup f8 = some ⟨oc8, od8, .func (PySem.W.fnOf "_law_cell" "_law_cell" (defArgs s_law_cell) (defBody s_law_cell) (defScope s_law_cell) .none kV8 dc8 pm8 an8 cd8 ct8), sl8⟩) (c8 : PySem.W.codeIn K cd8 "_law_cell" = true) (k8 : PySem.W.keepIn K (.ref f8) = true)
    {od9 an9 : Option Addr} {sl9 : Array (Option Value)} {oc9 kV9 dc9 pm9 cd9 ct9 : Value} {f9 : Addr}
    (a9 : PySem.W.nsIn K mainGlobals "_law_draws" = some (some (.ref f9))) (l9 : K.lookup f9 = some ⟨oc9, od9, .func (PySem.W.fnOf "_law_draws" "_law_draws" (defArgs s_law_draws) (defBody s_law_draws) (defScope s_law_draws) .none kV9 dc9 pm9 an9 cd9 ct9), sl9⟩) (c9 : PySem.W.codeIn K cd9 "_law_draws" = true) (k9 : PySem.W.keepIn K (.ref f9) = true)
    {od10 an10 : Option Addr} {sl10 : Array (Option Value)} {oc10 kV10 dc10 pm10 cd10 ct10 : Value} {f10 : Addr}
    (a10 : PySem.W.nsIn K mainGlobals "_law_is_integer" = some (some (.ref f10))) (l10 : K.lookup f10 = some ⟨oc10, od10, .func (PySem.W.fnOf "_law_is_integer" "_law_is_integer" (defArgs s_law_is_integer) (defBody s_law_is_integer) (defScope s_law_is_integer) .none kV10 dc10 pm10 an10 cd10 ct10), sl10⟩) (c10 : PySem.W.codeIn K cd10 "_law_is_integer" = true) (k10 : PySem.W.keepIn K (.ref f10) = true)
    {od11 an11 : Option Addr} {sl11 : Array (Option Value)} {oc11 kV11 dc11 pm11 cd11 ct11 : Value} {f11 : Addr}
    (a11 : PySem.W.nsIn K mainGlobals "_law_is" = some (some (.ref f11))) (l11 : K.lookup f11 = some ⟨oc11, od11, .func (PySem.W.fnOf "_law_is" "_law_is" (defArgs s_law_is) (defBody s_law_is) (defScope s_law_is) .none kV11 dc11 pm11 an11 cd11 ct11), sl11⟩) (c11 : PySem.W.codeIn K cd11 "_law_is" = true) (k11 : PySem.W.keepIn K (.ref f11) = true)
    {od12 an12 : Option Addr} {sl12 : Array (Option Value)} {oc12 kV12 dc12 pm12 cd12 ct12 : Value} {f12 : Addr}
    (a12 : PySem.W.nsIn K mainGlobals "_law_down" = some (some (.ref f12))) (l12 : K.lookup f12 = some ⟨oc12, od12, .func (PySem.W.fnOf "_law_down" "_law_down" (defArgs s_law_down) (defBody s_law_down) (defScope s_law_down) .none kV12 dc12 pm12 an12 cd12 ct12), sl12⟩) (c12 : PySem.W.codeIn K cd12 "_law_down" = true) (k12 : PySem.W.keepIn K (.ref f12) = true)
    {od13 an13 : Option Addr} {sl13 : Array (Option Value)} {oc13 kV13 dc13 pm13 cd13 ct13 : Value} {f13 : Addr}
    (a13 : PySem.W.nsIn K mainGlobals "_law_streams" = some (some (.ref f13))) (l13 : K.lookup f13 = some ⟨oc13, od13, .func (PySem.W.fnOf "_law_streams" "_law_streams" (defArgs s_law_streams) (defBody s_law_streams) (defScope s_law_streams) .none kV13 dc13 pm13 an13 cd13 ct13), sl13⟩) (c13 : PySem.W.codeIn K cd13 "_law_streams" = true) (k13 : PySem.W.keepIn K (.ref f13) = true)
    {od14 an14 : Option Addr} {sl14 : Array (Option Value)} {oc14 kV14 dc14 pm14 cd14 ct14 : Value} {f14 : Addr}
    (a14 : PySem.W.nsIn K mainGlobals "_law_orders" = some (some (.ref f14))) (l14 : K.lookup f14 = some ⟨oc14, od14, .func (PySem.W.fnOf "_law_orders" "_law_orders" (defArgs s_law_orders) (defBody s_law_orders) (defScope s_law_orders) .none kV14 dc14 pm14 an14 cd14 ct14), sl14⟩) (c14 : PySem.W.codeIn K cd14 "_law_orders" = true) (k14 : PySem.W.keepIn K (.ref f14) = true)
    {od15 an15 : Option Addr} {sl15 : Array (Option Value)} {oc15 kV15 dc15 pm15 cd15 ct15 : Value} {f15 : Addr}
    (a15 : PySem.W.nsIn K mainGlobals "_law_is_tree" = some (some (.ref f15))) (l15 : K.lookup f15 = some ⟨oc15, od15, .func (PySem.W.fnOf "_law_is_tree" "_law_is_tree" (defArgs s_law_is_tree) (defBody s_law_is_tree) (defScope s_law_is_tree) .none kV15 dc15 pm15 an15 cd15 ct15), sl15⟩) (c15 : PySem.W.codeIn K cd15 "_law_is_tree" = true) (k15 : PySem.W.keepIn K (.ref f15) = true)
    {od16 an16 : Option Addr} {sl16 : Array (Option Value)} {oc16 kV16 dc16 pm16 cd16 ct16 : Value} {f16 : Addr}
    (a16 : PySem.W.nsIn K mainGlobals "_law_fan" = some (some (.ref f16))) (l16 : K.lookup f16 = some ⟨oc16, od16, .func (PySem.W.fnOf "_law_fan" "_law_fan" (defArgs s_law_fan) (defBody s_law_fan) (defScope s_law_fan) .none kV16 dc16 pm16 an16 cd16 ct16), sl16⟩) (c16 : PySem.W.codeIn K cd16 "_law_fan" = true) (k16 : PySem.W.keepIn K (.ref f16) = true)
    {od17 an17 : Option Addr} {sl17 : Array (Option Value)} {oc17 kV17 dc17 pm17 cd17 ct17 : Value} {f17 : Addr}
    (a17 : PySem.W.nsIn K mainGlobals "_law_trees" = some (some (.ref f17))) (l17 : K.lookup f17 = some ⟨oc17, od17, .func (PySem.W.fnOf "_law_trees" "_law_trees" (defArgs s_law_trees) (defBody s_law_trees) (defScope s_law_trees) .none kV17 dc17 pm17 an17 cd17 ct17), sl17⟩) (c17 : PySem.W.codeIn K cd17 "_law_trees" = true) (k17 : PySem.W.keepIn K (.ref f17) = true)
    {od18 an18 : Option Addr} {sl18 : Array (Option Value)} {oc18 kV18 dc18 pm18 cd18 ct18 : Value} {f18 : Addr}
    (a18 : PySem.W.nsIn K mainGlobals "_law_bush" = some (some (.ref f18))) (l18 : K.lookup f18 = some ⟨oc18, od18, .func (PySem.W.fnOf "_law_bush" "_law_bush" (defArgs s_law_bush) (defBody s_law_bush) (defScope s_law_bush) .none kV18 dc18 pm18 an18 cd18 ct18), sl18⟩) (c18 : PySem.W.codeIn K cd18 "_law_bush" = true) (k18 : PySem.W.keepIn K (.ref f18) = true)
    {od19 an19 : Option Addr} {sl19 : Array (Option Value)} {oc19 kV19 dc19 pm19 cd19 ct19 : Value} {f19 : Addr}
    (a19 : PySem.W.nsIn K mainGlobals "_law_right" = some (some (.ref f19))) (l19 : K.lookup f19 = some ⟨oc19, od19, .func (PySem.W.fnOf "_law_right" "_law_right" (defArgs s_law_right) (defBody s_law_right) (defScope s_law_right) .none kV19 dc19 pm19 an19 cd19 ct19), sl19⟩) (c19 : PySem.W.codeIn K cd19 "_law_right" = true) (k19 : PySem.W.keepIn K (.ref f19) = true)
    {od20 an20 : Option Addr} {sl20 : Array (Option Value)} {oc20 kV20 dc20 pm20 cd20 ct20 : Value} {f20 : Addr}
    (a20 : PySem.W.nsIn K mainGlobals "law" = some (some (.ref f20))) (l20 : K.lookup f20 = some ⟨oc20, od20, .func (PySem.W.fnOf "law" "law" (defArgs s_law) (defBody s_law) (defScope s_law) .none kV20 dc20 pm20 an20 cd20 ct20), sl20⟩) (c20 : PySem.W.codeIn K cd20 "law" = true) (k20 : PySem.W.keepIn K (.ref f20) = true)
    (z_abs : PySem.W.nsIn K mainGlobals "abs" = some none)
    (z_all : PySem.W.nsIn K mainGlobals "all" = some none)
    (z_bool : PySem.W.nsIn K mainGlobals "bool" = some none)
    (z_enumerate : PySem.W.nsIn K mainGlobals "enumerate" = some none)
    (z_int : PySem.W.nsIn K mainGlobals "int" = some none)
    (z_isinstance : PySem.W.nsIn K mainGlobals "isinstance" = some none)
    (z_len : PySem.W.nsIn K mainGlobals "len" = some none)
    (z_max : PySem.W.nsIn K mainGlobals "max" = some none)
    (z_range : PySem.W.nsIn K mainGlobals "range" = some none)
    (z_sorted : PySem.W.nsIn K mainGlobals "sorted" = some none)
    (z_str : PySem.W.nsIn K mainGlobals "str" = some none)
    (z_tuple : PySem.W.nsIn K mainGlobals "tuple" = some none) :
    ∃ fd : FuncData, (∀ (s : Shared) (v : Value), BindsTo s fd ⟨[v], []⟩ [("script", v)]) ∧ ∀ base : Heap, K.In base → base.Ns mainGlobals mg → FnOk l.prog w K mg base CX0 32 fa fd ["script"] (Pur K (fun _ => False) (fun ds ro => ∃ (a0 : (List Int)) (r : Bool), ds = [(eL eI) a0] ∧ ro = Ro.fz (eB r) ∧ f_law a0 = some r)) := by
  have e := hfa.symm.trans (PySem.W.mg_of X G a20)
  cases e
  refine ⟨PySem.W.fnOf "law" "law" (defArgs s_law) (defBody s_law) (defScope s_law) .none kV20 dc20 pm20 an20 cd20 ct20, fun s v => .of_eq rfl, fun base _ _ => ?_⟩
  have z_abs := PySem.W.mg_none_of X G z_abs
  have z_all := PySem.W.mg_none_of X G z_all
  have z_bool := PySem.W.mg_none_of X G z_bool
  have z_enumerate := PySem.W.mg_none_of X G z_enumerate
  have z_int := PySem.W.mg_none_of X G z_int
  have z_isinstance := PySem.W.mg_none_of X G z_isinstance
  have z_len := PySem.W.mg_none_of X G z_len
  have z_max := PySem.W.mg_none_of X G z_max
  have z_range := PySem.W.mg_none_of X G z_range
  have z_sorted := PySem.W.mg_none_of X G z_sorted
  have z_str := PySem.W.mg_none_of X G z_str
  have z_tuple := PySem.W.mg_none_of X G z_tuple
  have C_way_down := cals_way_down (P := l.prog) (w := w) (base := base) (Tb := fun _ => False) (fun_mk (st := s_way_down) l1 c1 k1) (PySem.W.mg_of X G a1)
  have C_is_above := cals_is_above (P := l.prog) (w := w) (base := base) (Tb := fun _ => False) (fun_mk (st := s_is_above) l2 c2 k2) (PySem.W.mg_of X G a2) C_way_down
  have C_all_above := cals_all_above (P := l.prog) (w := w) (base := base) (Tb := fun _ => False) (fun_mk (st := s_all_above) l3 c3 k3) (PySem.W.mg_of X G a3) z_len z_range z_tuple C_is_above
  have C_order_of := cals_order_of (P := l.prog) (w := w) (base := base) (Tb := fun _ => False) (fun_mk (st := s_order_of) l4 c4 k4) (PySem.W.mg_of X G a4) z_enumerate z_len z_sorted 20
  have C_orders := cals_orders (P := l.prog) (w := w) (base := base) (Tb := fun _ => False) (fun_mk (st := s_orders) l5 c5 k5) (PySem.W.mg_of X G a5) z_len z_range z_tuple C_order_of
  have C_fan := cals_fan (P := l.prog) (w := w) (base := base) (Tb := fun _ => False) (fun_mk (st := s_fan) l6 c6 k6) (PySem.W.mg_of X G a6) z_enumerate z_len C_all_above C_order_of 8
  have C_is_fan := cals_is_fan (P := l.prog) (w := w) (base := base) (Tb := fun _ => False) (fun_mk (st := s_is_fan) l7 c7 k7) (PySem.W.mg_of X G a7) z_len C_is_above 9
  have C__law_cell := cals_law_cell (P := l.prog) (w := w) (base := base) (Tb := fun _ => False) (fun_mk (st := s_law_cell) l8 c8 k8) (PySem.W.mg_of X G a8) z_len
  have C__law_draws := cals_law_draws (P := l.prog) (w := w) (base := base) (Tb := fun _ => False) (fun_mk (st := s_law_draws) l9 c9 k9) (PySem.W.mg_of X G a9) z_abs z_int z_range
  have C__law_is_integer := cals_law_is_integer (P := l.prog) (w := w) (base := base) (Tb := fun _ => False) (fun_mk (st := s_law_is_integer) l10 c10 k10) (PySem.W.mg_of X G a10) z_bool z_int z_isinstance
  have C__law_is := cals_law_is (P := l.prog) (w := w) (base := base) (Tb := fun _ => False) (fun_mk (st := s_law_is) l11 c11 k11) (PySem.W.mg_of X G a11) z_all z_bool z_int z_isinstance z_len z_range z_str z_tuple C__law_is_integer 8
  have C__law_down := cals_law_down (P := l.prog) (w := w) (base := base) (Tb := fun _ => False) (fun_mk (st := s_law_down) l12 c12 k12) (PySem.W.mg_of X G a12) z_len z_range
  have C__law_streams := cals_law_streams (P := l.prog) (w := w) (base := base) (Tb := fun _ => False) (fun_mk (st := s_law_streams) l13 c13 k13) (PySem.W.mg_of X G a13) z_int z_max z_range z_tuple
  have C__law_orders := cals_law_orders (P := l.prog) (w := w) (base := base) (Tb := fun _ => False) (fun_mk (st := s_law_orders) l14 c14 k14) (PySem.W.mg_of X G a14) z_len z_range z_sorted z_tuple
  have C__law_is_tree := cals_law_is_tree (P := l.prog) (w := w) (base := base) (Tb := fun _ => False) (fun_mk (st := s_law_is_tree) l15 c15 k15) (PySem.W.mg_of X G a15) z_isinstance z_len z_tuple C__law_is_integer 9
  have C__law_fan := cals_law_fan (P := l.prog) (w := w) (base := base) (Tb := fun _ => False) (fun_mk (st := s_law_fan) l16 c16 k16) (PySem.W.mg_of X G a16) z_len 9
  have C__law_trees := cals_law_trees (P := l.prog) (w := w) (base := base) (Tb := fun _ => False) (fun_mk (st := s_law_trees) l17 c17 k17) (PySem.W.mg_of X G a17) z_len 9
  have C__law_bush := cals_law_bush (P := l.prog) (w := w) (base := base) (Tb := fun _ => False) (fun_mk (st := s_law_bush) l18 c18 k18) (PySem.W.mg_of X G a18) z_int z_range z_tuple
  have C__law_right := cals_law_right (P := l.prog) (w := w) (base := base) (Tb := fun _ => False) (fun_mk (st := s_law_right) l19 c19 k19) (PySem.W.mg_of X G a19) z_int z_len z_max z_range C__law_down C__law_fan C__law_is C__law_is_tree C__law_orders C__law_trees C_fan C_is_fan C_orders
  exact oks_law (fun_mk (st := s_law) l20 c20 k20) z_range C__law_bush C__law_cell C__law_draws C__law_right C__law_streams

end Pk

set_option Elab.async false
set_option linter.all false
set_option maxRecDepth 100000
set_option maxHeartbeats 1000000
/-! k64, the mathematics: forests, ways down. -/
namespace Pk
open PySem PySem.Spec PyProof.Rows L2 GxR
def par (s : List Int) (k : Int) : Int := s.getD k.toNat (-1)
/-- each parent has a smaller rank -/
structure Fo (s : List Int) (r : Int → Nat) : Prop where
  pa : ∀ k : Int, 0 ≤ k → k < s.length → par s k = -1 ∨ (0 ≤ par s k ∧ par s k < s.length ∧ r (par s k) < r k)
  lt : ∀ k : Int, 0 ≤ k → k < s.length → r k < s.length
  le : s.length ≤ 18
def path : Nat → List Int → Int → List Int
  | 0, _, _ => []
  | n + 1, s, k => if k = -1 then [] else k :: path n s (par s k)
def Pt (s : List Int) (k : Int) : List Int := path s.length s k
theorem path_non (n : Nat) (s : List Int) : path n s (-1) = [] := by
  cases n with
  | zero => rfl
  | succ n => exact if_pos rfl
section
variable {s : List Int} {r : Int → Nat}
theorem path_st (F : Fo s r) : ∀ (n m : Nat) (k : Int), 0 ≤ k → k < s.length → r k < n → r k < m → path n s k = path m s k
  | 0, _, _, _, _, h, _ => by omega
  | _, 0, _, _, _, _, h => by omega
  | n + 1, m + 1, k, h0, h1, h2, h3 => by
    unfold path
    rw [if_neg (by omega), if_neg (by omega)]
    congr 1
    rcases F.pa k h0 h1 with e | ⟨a, b, c⟩
    · rw [e, path_non, path_non]
    · exact path_st F n m _ a b (by omega) (by omega)
theorem Pt_cons (F : Fo s r) {k : Int} (h0 : 0 ≤ k) (h1 : k < s.length) : Pt s k = k :: Pt s (par s k) := by
  have hr := F.lt k h0 h1
  unfold Pt
  obtain ⟨n, hn⟩ : ∃ n, s.length = n + 1 := ⟨s.length - 1, by omega⟩
  have e : path s.length s k = k :: path n s (par s k) := by
    rw [hn]
    exact if_neg (by omega)
  rw [e]
  congr 1
  rcases F.pa k h0 h1 with e | ⟨a, b, c⟩
  · rw [e, path_non, path_non]
  · exact path_st F _ _ _ a b (by omega) (by omega)
theorem Pt_non : Pt s (-1) = [] := path_non _ _
/-- a place of the forest, or none -/
def At1 (s : List Int) (k : Int) : Prop := k = -1 ∨ (0 ≤ k ∧ k < s.length)
theorem At1.par (F : Fo s r) {k : Int} (h0 : 0 ≤ k) (h1 : k < s.length) : At1 s (par s k) := by
  rcases F.pa k h0 h1 with e | ⟨a, b, c⟩
  · exact .inl e
  · exact .inr ⟨a, b⟩
/-- what holds of a way down -/
theorem Pt_ind (F : Fo s r) {Q : Int → Prop} (step : ∀ k : Int, 0 ≤ k → k < s.length → (par s k = -1 ∨ Q (par s k)) → Q k) : ∀ k : Int, 0 ≤ k → k < s.length → Q k := by
  have : ∀ (n : Nat) (k : Int), r k < n → 0 ≤ k → k < s.length → Q k := by
    intro n
    induction n with
    | zero => intro k h; omega
    | succ n ih =>
      intro k h h0 h1
      refine step k h0 h1 ?_
      rcases F.pa k h0 h1 with e | ⟨a, b, c⟩
      · exact .inl e
      · exact .inr (ih _ (by omega) a b)
  exact fun k => this (r k + 1) k (Nat.lt_succ_self _)
theorem Pt_mem (F : Fo s r) {k : Int} (h0 : 0 ≤ k) (h1 : k < s.length) : ∀ j, j ∈ Pt s k → (0 ≤ j ∧ j < s.length) ∧ r j ≤ r k ∧ ∃ pre, Pt s k = pre ++ Pt s j := by
  refine Pt_ind (Q := fun k => ∀ j, j ∈ Pt s k → (0 ≤ j ∧ j < s.length) ∧ r j ≤ r k ∧ ∃ pre, Pt s k = pre ++ Pt s j) F (fun k h0 h1 ih j hj => ?_) k h0 h1
  rw [Pt_cons F h0 h1] at hj
  rcases List.mem_cons.mp hj with rfl | hj
  · exact ⟨⟨h0, h1⟩, Nat.le_refl _, [], rfl⟩
  · rcases ih with e | ih
    · rw [e, Pt_non] at hj
      cases hj
    · obtain ⟨a, b, pre, c⟩ := ih j hj
      refine ⟨a, ?_, k :: pre, by rw [Pt_cons F h0 h1, c]; rfl⟩
      rcases F.pa k h0 h1 with e | ⟨_, _, q⟩
      · rw [e, Pt_non] at hj
        cases hj
      · omega
theorem Pt_len (F : Fo s r) : ∀ k : Int, 0 ≤ k → k < s.length → (Pt s k).length ≤ r k + 1 :=
  Pt_ind (Q := fun k => (Pt s k).length ≤ r k + 1) F fun k h0 h1 ih => by
    rw [Pt_cons F h0 h1, List.length_cons]
    rcases F.pa k h0 h1 with e | ⟨_, _, q⟩
    · rw [e, Pt_non]
      simp
    · rcases ih with e | ih
      · rw [e, Pt_non]
        simp
      · omega
theorem Pt_le (F : Fo s r) {k : Int} (h0 : 0 ≤ k) (h1 : k < s.length) : (Pt s k).length ≤ s.length := by
  have := Pt_len F k h0 h1
  have := F.lt k h0 h1
  omega
theorem Pt_nodup (F : Fo s r) : ∀ k : Int, 0 ≤ k → k < s.length → (Pt s k).Nodup :=
  Pt_ind (Q := fun k => (Pt s k).Nodup) F fun k h0 h1 ih => by
    rw [Pt_cons F h0 h1]
    rcases F.pa k h0 h1 with e | ⟨a, b, q⟩
    · rw [e, Pt_non]
      simp
    · rcases ih with e | ih
      · rw [e, Pt_non]
        simp
      · refine List.nodup_cons.mpr ⟨fun hk => ?_, ih⟩
        have := (Pt_mem F a b k hk).2.1
        omega
theorem Pt_self (F : Fo s r) {k : Int} (h0 : 0 ≤ k) (h1 : k < s.length) : k ∈ Pt s k := by
  rw [Pt_cons F h0 h1]
  exact List.mem_cons_self
/-- of one way down, the same length -/
theorem Pt_inj (F : Fo s r) {k i j : Int} (h0 : 0 ≤ k) (h1 : k < s.length) (hi : i ∈ Pt s k) (hj : j ∈ Pt s k) (e : (Pt s i).length = (Pt s j).length) : i = j := by
  obtain ⟨⟨a0, a1⟩, _, p, hp⟩ := Pt_mem F h0 h1 i hi
  obtain ⟨⟨b0, b1⟩, _, q, hq⟩ := Pt_mem F h0 h1 j hj
  have z := hp.symm.trans hq
  have l : p.length = q.length := by
    have := congrArg List.length z
    rw [List.length_append, List.length_append] at this
    omega
  have := (List.append_inj z l).2
  rw [Pt_cons F a0 a1, Pt_cons F b0 b1] at this
  exact (List.cons.inj this).1
theorem idx_par {k : Int} (h0 : 0 ≤ k) (h1 : k < s.length) : idx s k = some (par s k) := by
  rw [idx_int h0]
  unfold par
  rw [List.getD_eq_getElem?_getD, List.getElem?_eq_getElem (by omega)]
  rfl
theorem wd_ok (F : Fo s r) {k : Int} (h0 : 0 ≤ k) (h1 : k < s.length) : f_way_down s k = some (Pt s k) := by
  refine Ok.eq ?_
  unfold f_way_down
  have hnd := Pt_nodup F k h0 h1
  have hle := Pt_le F h0 h1
  have h18 := F.le
  refine ok_bind (ok_whM (fun z => At1 s z.1 ∧ z.2 ++ Pt s z.1 = Pt s k) (fun z => (Pt s z.1).length) (Q := fun z => z.2 = Pt s k) ⟨.inr ⟨h0, h1⟩, rfl⟩ (by show (Pt s k).length < 100000; omega) fun z hz => ?_) fun z hz => ok_some hz
  obtain ⟨c, row⟩ := z
  obtain ⟨hc, he⟩ := hz
  refine ok_some ?_
  rcases hc with e | ⟨c0, c1⟩
  · subst e
    have he' : row ++ Pt s (-1) = Pt s k := he
    rw [Pt_non, List.append_nil] at he'
    exact ⟨fun _ => he', fun z => by simp at z⟩
  · have he' : row ++ Pt s c = Pt s k := he
    have hrow : row.length < LN := by
      have := congrArg List.length he'
      rw [List.length_append] at this
      show row.length < 1000000
      omega
    refine ⟨fun z => ?_, fun _ => ?_⟩
    · simp only [Bool.and_eq_false_iff, Bool.not_eq_false', decide_eq_true_eq] at z
      rcases z with z | z
      · have z' : c = -1 := z
        omega
      · rw [← he', Pt_cons F c0 c1] at hnd
        exact absurd List.mem_cons_self ((List.nodup_append.mp hnd).2.2 c z c · rfl)
    · refine ok_is (appM_ok hrow) (ok_is (idx_par c0 c1) (ok_some ⟨⟨At1.par F c0 c1, ?_⟩, ?_⟩))
      · show (row ++ [c]) ++ Pt s (par s c) = Pt s k
        rw [List.append_assoc, ← he', Pt_cons F c0 c1]
        rfl
      · show (Pt s (par s c)).length < (Pt s c).length
        rw [Pt_cons F c0 c1]
        simp
end
end Pk

set_option Elab.async false
set_option linter.all false
set_option maxRecDepth 100000
set_option maxHeartbeats 1000000
/-! k64: orders. -/
namespace Pk
open PySem PySem.Spec PyProof.Rows L2 GxR
section
variable {s : List Int} {r : Int → Nat}
theorem ld_ok (F : Fo s r) {k : Int} (h0 : 0 ≤ k) (h1 : k < s.length) : f_law_down s k = some (Pt s k) := by
  refine Ok.eq ?_
  unfold f_law_down
  have hnd := Pt_nodup F k h0 h1
  have hle := Pt_le F h0 h1
  have h18 := F.le
  refine ok_let (ok_bind (ok_forM (fun (i : Nat) (row : List Int) => ∃ (ini : List Int) (l : Int), row = ini ++ [l] ∧ (0 ≤ l ∧ l < s.length) ∧ row ++ Pt s (par s l) = Pt s k ∧ (par s l = -1 ∨ row.length = i + 1)) ⟨[], k, rfl, ⟨h0, h1⟩, (Pt_cons F h0 h1).symm, .inr rfl⟩ fun i x row hx hp => ?_) fun row hp => ok_some ?_)
  · obtain ⟨ini, l, rfl, ⟨l0, l1⟩, he, hi⟩ := hp
    have hlast : idx (ini ++ [l]) (-(1 : Int)) = some l := by rw [idx_last]; simp
    have hrow : (ini ++ [l]).length < LN := by
      have := congrArg List.length he
      rw [List.length_append] at this
      show (ini ++ [l]).length < 1000000
      omega
    refine ok_is hlast (ok_is (idx_par l0 l1) ?_)
    rcases F.pa l l0 l1 with e | ⟨p0, p1, p2⟩
    · refine ok_bind (P := fun b => b = false) (ok_if (fun z => ?_) fun _ => ok_some rfl) fun b hb => ?_
      · rw [e] at z
        simp at z
      · subst hb
        exact ok_some ⟨ini, l, rfl, ⟨l0, l1⟩, he, .inl e⟩
    · have hni : par s l ∉ ini ++ [l] := fun z => by
        rw [← he, Pt_cons F p0 p1] at hnd
        exact (List.nodup_append.mp hnd).2.2 _ z _ List.mem_cons_self rfl
      refine ok_bind (P := fun b => b = true) (ok_if (fun z => ?_) fun z => ?_) fun b hb => ?_
      · refine ok_is hlast (ok_is (idx_par l0 l1) (ok_some ?_))
        rw [decide_eq_false hni]
        rfl
      · simp at z
        omega
      · subst hb
        refine ok_is hlast (ok_is (idx_par l0 l1) (ok_is (appM_ok hrow) (ok_some ⟨ini ++ [l], par s l, rfl, ⟨p0, p1⟩, ?_, .inr ?_⟩)))
        · rw [List.append_assoc, ← he, Pt_cons F p0 p1]
          rfl
        · rcases hi with e | e
          · omega
          · rw [List.length_append, e]
            rfl
  · obtain ⟨ini, l, rfl, ⟨l0, l1⟩, he, hi⟩ := hp
    have hfin : par s l = -1 := by
      rcases hi with e | e
      · exact e
      · have := congrArg List.length he
        rw [List.length_append, e, rng_len] at this
        omega
    rw [hfin, Pt_non, List.append_nil] at he
    exact he
/-! ### orders -/
/-- the places that lead to k -/
def ch (s : List Int) (k : Int) : List Int := ((enu s).filter fun x => decide (x.2 = k)).map (·.1)
theorem enu_mem {α : Type} {xs : List α} {i : Int} {x : α} : (i, x) ∈ enu xs ↔ 0 ≤ i ∧ xs[i.toNat]? = some x := by
  constructor
  · intro h
    obtain ⟨j, hj⟩ := List.getElem?_of_mem h
    rw [enu_get] at hj
    cases hx : xs[j]? with
    | none => rw [hx] at hj; cases hj
    | some y =>
      rw [hx] at hj
      have e := Option.some.inj hj
      have e1 : (j : Int) = i := congrArg Prod.fst e
      have e2 : y = x := congrArg Prod.snd e
      subst e1 e2
      exact ⟨by omega, by rw [Int.toNat_natCast]; exact hx⟩
  · rintro ⟨h0, h⟩
    refine List.mem_of_getElem? (i := i.toNat) ?_
    rw [enu_get, h]
    show some ((i.toNat : Int), x) = _
    rw [Int.toNat_of_nonneg h0]
theorem ch_mem {k i : Int} : i ∈ ch s k ↔ (0 ≤ i ∧ i < s.length) ∧ par s i = k := by
  unfold ch
  rw [List.mem_map]
  constructor
  · rintro ⟨⟨j, x⟩, h, rfl⟩
    obtain ⟨h1, h2⟩ := List.mem_filter.mp h
    obtain ⟨h3, h4⟩ := enu_mem.mp h1
    have h5 := of_decide_eq_true h2
    have hl := (List.getElem?_eq_some_iff.mp h4).1
    refine ⟨⟨h3, by show j < _; omega⟩, ?_⟩
    unfold par
    rw [List.getD_eq_getElem?_getD, h4]
    exact h5
  · rintro ⟨⟨h0, h1⟩, e⟩
    refine ⟨(i, k), List.mem_filter.mpr ⟨enu_mem.mpr ⟨h0, ?_⟩, by simp⟩, rfl⟩
    unfold par at e
    rw [List.getD_eq_getElem?_getD, List.getElem?_eq_getElem (by omega)] at e
    rw [List.getElem?_eq_getElem (by omega)]
    exact congrArg some e
/-- what the orders that come in make -/
def comb (l : List Int) : Int :=
  let o := srt ltI l
  if o.length = 0 then 1 else if 1 < o.length ∧ o[o.length - 2]? = o[o.length - 1]? then o.getLastD 0 + 1 else o.getLastD 0
theorem comb_ok (l : List Int) : (if (decide (((srt ltI l).length : Int) = (0 : Int))) = true then
 (some (1 : Int))
else
 (Option.bind (if (decide ((1 : Int) < ((srt ltI l).length : Int))) = true then (Option.bind (idx (srt ltI l) (-(2 : Int))) fun t6 => (Option.bind (idx (srt ltI l) (-(1 : Int))) fun t7 => (some (decide (t6 = t7))))) else some false) fun t8 =>
 (if t8 = true then
 (Option.bind (idx (srt ltI l) (-(1 : Int))) fun t11 =>
 (some (t11 + (1 : Int))))
else
 (Option.bind (idx (srt ltI l) (-(1 : Int))) fun t12 =>
 (some t12))))) = some (comb l) := by
  unfold comb
  generalize srt ltI l = o
  simp only
  by_cases h : o.length = 0
  · rw [if_pos (by rw [h]; rfl), if_pos h]
  · rw [if_neg (by simp; exact fun z => h (by rw [z]; rfl)), if_neg h]
    have e1 : idx o (-(1 : Int)) = o[o.length - 1]? := idx_neg (k := 1) (by omega) (by omega)
    have hl : o[o.length - 1]? = some (o.getLastD 0) := by
      rw [List.getLastD_eq_getLast?, List.getLast?_eq_getElem?, List.getElem?_eq_getElem (by omega)]
      rfl
    by_cases h2 : 1 < o.length
    · have e2 : idx o (-(2 : Int)) = o[o.length - 2]? := idx_neg (k := 2) (by omega) (by omega)
      rw [if_pos (by simp; omega), e2, e1, List.getElem?_eq_getElem (by omega : o.length - 2 < o.length), hl]
      simp only [Option.bind_some]
      by_cases h3 : o[o.length - 2] = o.getLastD 0
      · rw [if_pos (by rw [h3]; simp), if_pos ⟨h2, by rw [h3]⟩]
      · rw [if_neg (by rw [decide_eq_false h3]; exact Bool.false_ne_true), if_neg (by rintro ⟨_, z⟩; exact h3 (Option.some.inj z))]
    · rw [if_neg (by simp; omega), e1, hl, if_neg (by rintro ⟨z, _⟩; exact h2 z)]
      rfl
def ordF : Nat → List Int → Int → Int
  | 0, _, _ => 0
  | n + 1, s, k => comb ((ch s k).map (ordF n s))
def od (s : List Int) (k : Int) : Int := ordF 20 s k
theorem ch_len (F : Fo s r) {k i : Int} (hi : i ∈ ch s k) (h0 : 0 ≤ k) (h1 : k < s.length) : (Pt s i).length = (Pt s k).length + 1 := by
  obtain ⟨⟨a, b⟩, e⟩ := ch_mem.mp hi
  rw [Pt_cons F a b, e]
  rfl
theorem ord_st (F : Fo s r) : ∀ (n m : Nat) (k : Int), 0 ≤ k → k < s.length → s.length - (Pt s k).length < n → s.length - (Pt s k).length < m → ordF n s k = ordF m s k
  | 0, _, _, _, _, h, _ => by omega
  | _, 0, _, _, _, _, h => by omega
  | n + 1, m + 1, k, h0, h1, h2, h3 => by
    unfold ordF
    congr 1
    apply List.map_congr_left
    intro i hi
    obtain ⟨⟨a, b⟩, e⟩ := ch_mem.mp hi
    have := ch_len F hi h0 h1
    have := Pt_le F a b
    exact ord_st F n m i a b (by omega) (by omega)
theorem od_eq (F : Fo s r) {k : Int} (h0 : 0 ≤ k) (h1 : k < s.length) : od s k = comb ((ch s k).map (od s)) := by
  unfold od
  show comb _ = _
  congr 1
  apply List.map_congr_left
  intro i hi
  obtain ⟨⟨a, b⟩, e⟩ := ch_mem.mp hi
  have := F.le
  have := ch_len F hi h0 h1
  have := Pt_le F a b
  exact ord_st F 19 20 i a b (by omega) (by omega)
theorem oo_ok (F : Fo s r) : ∀ (n : Nat) (k : Int), 0 ≤ k → k < s.length → s.length - (Pt s k).length < n → f_order_of n s k = some (ordF n s k)
  | 0, _, _, _, h => by omega
  | n + 1, k, h0, h1, h2 => by
    unfold f_order_of
    have e : compM (fun x1 : Int × Int => some (decide (x1.2 = k))) (fun x1 => (Option.bind (f_order_of n s x1.1) fun t2 => (some t2))) (enu s) = some ((ch s k).map (ordF n s)) := by
      rw [compM_filt (q := fun x1 : Int × Int => decide (x1.2 = k)) (g := fun x1 => ordF n s x1.1) (fun _ _ => rfl) fun x hx hq => ?_]
      · unfold ch
        rw [List.map_map]
        rfl
      · obtain ⟨i, y⟩ := x
        have hi : i ∈ ch s k := by
          unfold ch
          exact List.mem_map.mpr ⟨(i, y), List.mem_filter.mpr ⟨hx, hq⟩, rfl⟩
        obtain ⟨⟨a, b⟩, e⟩ := ch_mem.mp hi
        have := ch_len F hi h0 h1
        have := Pt_le F a b
        show (f_order_of n s i).bind _ = _
        rw [oo_ok F n i a b (by omega)]
        rfl
    rw [e]
    exact comb_ok _
theorem od_ok (F : Fo s r) {k : Int} (h0 : 0 ≤ k) (h1 : k < s.length) : f_order_of 20 s k = some (od s k) := by
  have := F.le
  exact oo_ok F 20 k h0 h1 (by omega)
end
end Pk

set_option Elab.async false
set_option linter.all false
set_option maxRecDepth 100000
set_option maxHeartbeats 1000000
/-! k64: how great orders are; fans are there. -/
namespace Pk
open PySem PySem.Spec PyProof.Rows L2 GxR
theorem srt_perm (l : List Int) : (srt ltI l).Perm l := List.mergeSort_perm l _
theorem comb_c2 (l : List Int) : (l = [] ∧ comb l = 1) ∨ comb l ∈ l ∨ 2 ≤ l.countP (fun x => decide (comb l - 1 ≤ x)) := by
  have pm := srt_perm l
  unfold comb
  generalize srt ltI l = o at pm
  simp only
  by_cases h : o.length = 0
  · rw [if_pos h]
    have : o = [] := List.length_eq_zero_iff.mp h
    subst this
    exact .inl ⟨pm.symm.eq_nil, rfl⟩
  · rw [if_neg h]
    have hl : o[o.length - 1]? = some (o.getLastD 0) := by
      rw [List.getLastD_eq_getLast?, List.getLast?_eq_getElem?, List.getElem?_eq_getElem (by omega)]
      rfl
    by_cases h2 : 1 < o.length ∧ o[o.length - 2]? = o[o.length - 1]?
    · rw [if_pos h2]
      refine .inr (.inr ?_)
      rw [← pm.countP_eq]
      obtain ⟨h3, h4⟩ := h2
      have e : o.drop (o.length - 2) = [o.getLastD 0, o.getLastD 0] := by
        apply List.ext_getElem?
        intro i
        rw [List.getElem?_drop]
        match i with
        | 0 => rw [Nat.add_zero, h4, hl]; rfl
        | 1 =>
          rw [show o.length - 2 + 1 = o.length - 1 by omega, hl]
          rfl
        | i + 2 => rw [List.getElem?_eq_none (by omega)]; rfl
      have := (List.drop_sublist (o.length - 2) o).countP_le (p := fun x => decide (o.getLastD 0 + 1 - 1 ≤ x))
      rw [e] at this
      refine Nat.le_trans ?_ this
      simp
    · rw [if_neg h2]
      exact .inr (.inl (pm.mem_iff.mp (List.mem_of_getElem? hl)))
theorem comb_pos {l : List Int} (h : ∀ x, x ∈ l → 1 ≤ x) : 1 ≤ comb l := by
  have pm := srt_perm l
  unfold comb
  generalize srt ltI l = o at pm
  simp only
  by_cases h0 : o.length = 0
  · rw [if_pos h0]
    omega
  · rw [if_neg h0]
    have hl : o[o.length - 1]? = some (o.getLastD 0) := by
      rw [List.getLastD_eq_getLast?, List.getLast?_eq_getElem?, List.getElem?_eq_getElem (by omega)]
      rfl
    have := h _ (pm.mem_iff.mp (List.mem_of_getElem? hl))
    split <;> omega
theorem two_of {α : Type} {xs : List α} {p : α → Bool} (hn : xs.Nodup) (h : 2 ≤ (xs.filter p).length) : ∃ a b r, xs.filter p = a :: b :: r ∧ a ∈ xs ∧ b ∈ xs ∧ p a = true ∧ p b = true ∧ a ≠ b := by
  have hnf := hn.filter p
  match hf : xs.filter p with
  | [] => rw [hf] at h; simp at h
  | [a] => rw [hf] at h; simp at h
  | a :: b :: r =>
    rw [hf] at hnf
    have ha : a ∈ xs.filter p := by rw [hf]; simp
    have hb : b ∈ xs.filter p := by rw [hf]; simp
    refine ⟨a, b, r, rfl, (List.mem_filter.mp ha).1, (List.mem_filter.mp hb).1, (List.mem_filter.mp ha).2, (List.mem_filter.mp hb).2, fun e => ?_⟩
    subst e
    simp at hnf
section
variable {s : List Int} {r : Int → Nat}
theorem enu_fst {α : Type} (xs : List α) : (enu xs).map (·.1) = rng 0 (xs.length : Int) := by
  unfold enu
  rw [List.map_fst_zip]
  rw [rng_len]
  omega
theorem _root_.List.Nodup.map_on' {xs : List Nat} (h : xs.Nodup) (lo : Int) : (xs.map fun (i : Nat) => lo + (i : Int)).Nodup := by
  unfold List.Nodup at h ⊢
  rw [List.pairwise_map]
  exact h.imp fun h z => h (by omega)
theorem rng_nodup (lo hi : Int) : (rng lo hi).Nodup := by
  unfold rng
  exact List.nodup_range.map_on' lo
theorem ch_nodup (s : List Int) (k : Int) : (ch s k).Nodup := by
  unfold ch
  have h : ((enu s).map (·.1)).Nodup := by
    rw [enu_fst]
    exact rng_nodup _ _
  exact h.sublist (List.Sublist.map _ List.filter_sublist)
theorem ch_ind (F : Fo s r) {Q : Int → Prop} (step : ∀ k : Int, 0 ≤ k → k < s.length → (∀ i, i ∈ ch s k → Q i) → Q k) : ∀ k : Int, 0 ≤ k → k < s.length → Q k := by
  have : ∀ (n : Nat) (k : Int), s.length - (Pt s k).length < n → 0 ≤ k → k < s.length → Q k := by
    intro n
    induction n with
    | zero => intro k h; omega
    | succ n ih =>
      intro k h h0 h1
      refine step k h0 h1 fun i hi => ?_
      obtain ⟨⟨a, b⟩, e⟩ := ch_mem.mp hi
      have := ch_len F hi h0 h1
      have := Pt_le F a b
      exact ih i (by omega) a b
  exact fun k => this (s.length - (Pt s k).length + 1) k (by omega)
theorem od_pos (F : Fo s r) : ∀ k : Int, 0 ≤ k → k < s.length → 1 ≤ od s k :=
  ch_ind (Q := fun k => 1 ≤ od s k) F fun k h0 h1 ih => by
    rw [od_eq F h0 h1]
    refine comb_pos fun x hx => ?_
    obtain ⟨i, hi, rfl⟩ := List.mem_map.mp hx
    exact ih i hi
theorem ch_up (F : Fo s r) {k i j : Int} (h0 : 0 ≤ k) (h1 : k < s.length) (hi : i ∈ ch s k) (j0 : 0 ≤ j) (j1 : j < s.length) (h : i ∈ Pt s j) : k ∈ Pt s j := by
  obtain ⟨⟨a, b⟩, e⟩ := ch_mem.mp hi
  obtain ⟨_, _, pre, hp⟩ := Pt_mem F j0 j1 i h
  rw [hp, Pt_cons F a b, e]
  exact List.mem_append_right _ (List.mem_cons_of_mem _ (Pt_self F h0 h1))
/-- two places that lead to one have no way down in common above it -/
theorem ch_apart (F : Fo s r) {k a b j : Int} (h0 : 0 ≤ k) (h1 : k < s.length) (ha : a ∈ ch s k) (hb : b ∈ ch s k) (j0 : 0 ≤ j) (j1 : j < s.length) (ja : a ∈ Pt s j) (jb : b ∈ Pt s j) : a = b :=
  Pt_inj F j0 j1 ja jb (by rw [ch_len F ha h0 h1, ch_len F hb h0 h1])
theorem filter_two {α : Type} {p q u : α → Bool} : ∀ {xs : List α}, (∀ x, x ∈ xs → p x = true → u x = true) → (∀ x, x ∈ xs → q x = true → u x = true) → (∀ x, x ∈ xs → p x = true → q x = true → False) → (xs.filter p).length + (xs.filter q).length ≤ (xs.filter u).length
  | [], _, _, _ => Nat.le_refl _
  | x :: xs, h1, h2, h3 => by
    have ih := filter_two (p := p) (q := q) (u := u) (xs := xs) (fun y hy => h1 y (List.mem_cons_of_mem _ hy)) (fun y hy => h2 y (List.mem_cons_of_mem _ hy)) fun y hy => h3 y (List.mem_cons_of_mem _ hy)
    have a1 := h1 x List.mem_cons_self
    have a2 := h2 x List.mem_cons_self
    have a3 := h3 x List.mem_cons_self
    rw [List.filter_cons, List.filter_cons, List.filter_cons]
    cases hp : p x <;> cases hq : q x <;> cases hu : u x <;> simp_all <;> omega
theorem filter_le {α : Type} {p u : α → Bool} {xs : List α} (h1 : ∀ x, x ∈ xs → p x = true → u x = true) : (xs.filter p).length ≤ (xs.filter u).length := by
  have := filter_two (p := p) (q := fun _ => false) (u := u) h1 (fun _ _ h => by cases h) (fun _ _ _ h => by cases h)
  omega
def cnt (s : List Int) (k : Int) : Nat := ((rng 0 (s.length : Int)).filter fun i => decide (k ∈ Pt s i)).length
theorem od_cnt (F : Fo s r) : ∀ k : Int, 0 ≤ k → k < s.length → 2 ^ ((od s k).toNat - 1) ≤ cnt s k :=
  ch_ind (Q := fun k => 2 ^ ((od s k).toNat - 1) ≤ cnt s k) F fun k h0 h1 ih => by
    have he := od_eq F h0 h1
    rcases comb_c2 ((ch s k).map (od s)) with ⟨_, e⟩ | h | h
    · rw [← he] at e
      rw [e]
      show 1 ≤ _
      unfold cnt
      refine List.length_pos_of_mem (a := k) (List.mem_filter.mpr ⟨mem_rng.mpr ⟨h0, h1⟩, decide_eq_true (Pt_self F h0 h1)⟩)
    · rw [← he] at h
      obtain ⟨i, hi, e⟩ := List.mem_map.mp h
      have := ih i hi
      rw [← e]
      refine Nat.le_trans this (filter_le fun j hj hp => ?_)
      obtain ⟨j0, j1⟩ := mem_rng.mp hj
      exact decide_eq_true (ch_up F h0 h1 hi j0 j1 (of_decide_eq_true hp))
    · rw [← he, List.countP_map, List.countP_eq_length_filter] at h
      obtain ⟨a, b, _, _, ha, hb, pa, pb, ne⟩ := two_of (ch_nodup s k) h
      have qa := of_decide_eq_true pa
      have qb := of_decide_eq_true pb
      have i1 := ih a ha
      have i2 := ih b hb
      obtain ⟨⟨a0, a1⟩, _⟩ := ch_mem.mp ha
      obtain ⟨⟨b0, b1⟩, _⟩ := ch_mem.mp hb
      have o0 := od_pos F k h0 h1
      have o1 := od_pos F a a0 a1
      have o2 := od_pos F b b0 b1
      have sum := filter_two (xs := rng 0 (s.length : Int)) (p := fun i => decide (a ∈ Pt s i)) (q := fun i => decide (b ∈ Pt s i)) (u := fun i => decide (k ∈ Pt s i))
        (fun j hj hp => by
          obtain ⟨j0, j1⟩ := mem_rng.mp hj
          exact decide_eq_true (ch_up F h0 h1 ha j0 j1 (of_decide_eq_true hp)))
        (fun j hj hp => by
          obtain ⟨j0, j1⟩ := mem_rng.mp hj
          exact decide_eq_true (ch_up F h0 h1 hb j0 j1 (of_decide_eq_true hp)))
        fun j hj hp hq => by
          obtain ⟨j0, j1⟩ := mem_rng.mp hj
          exact ne (ch_apart F h0 h1 ha hb j0 j1 (of_decide_eq_true hp) (of_decide_eq_true hq))
      have g1 : 2 ^ ((od s k).toNat - 2) ≤ 2 ^ ((od s a).toNat - 1) := Nat.pow_le_pow_right (by omega) (by have qa' : od s k - 1 ≤ od s a := qa; omega)
      have g2 : 2 ^ ((od s k).toNat - 2) ≤ 2 ^ ((od s b).toNat - 1) := Nat.pow_le_pow_right (by omega) (by have qb' : od s k - 1 ≤ od s b := qb; omega)
      unfold cnt at *
      by_cases h2 : (od s k).toNat ≤ 1
      · have : (od s k).toNat - 1 = 0 := by omega
        rw [this]
        exact List.length_pos_of_mem (a := k) (List.mem_filter.mpr ⟨mem_rng.mpr ⟨h0, h1⟩, decide_eq_true (Pt_self F h0 h1)⟩)
      · have : (od s k).toNat - 1 = ((od s k).toNat - 2) + 1 := by omega
        rw [this, Nat.pow_succ]
        omega
theorem od_le (F : Fo s r) {k : Int} (h0 : 0 ≤ k) (h1 : k < s.length) : od s k ≤ 5 := by
  have h := od_cnt F k h0 h1
  have h2 : cnt s k ≤ s.length := by
    unfold cnt
    refine Nat.le_trans (List.length_filter_le _ _) ?_
    rw [rng_len]
    omega
  have := F.le
  apply Classical.byContradiction
  intro z
  have : 2 ^ 5 ≤ 2 ^ ((od s k).toNat - 1) := Nat.pow_le_pow_right (by omega) (by omega)
  omega
/-- where a fan is -/
theorem fan_at (F : Fo s r) {h : Int} (hh : 2 ≤ h) : ∀ k : Int, 0 ≤ k → k < s.length → h ≤ od s k → ∃ i : Int, (0 ≤ i ∧ i < s.length) ∧ k ∈ Pt s i ∧ 2 ≤ ((ch s i).filter fun j => decide (h - 1 ≤ od s j)).length :=
  ch_ind (Q := fun k => h ≤ od s k → ∃ i : Int, (0 ≤ i ∧ i < s.length) ∧ k ∈ Pt s i ∧ 2 ≤ ((ch s i).filter fun j => decide (h - 1 ≤ od s j)).length) F fun k h0 h1 ih hk => by
    have he := od_eq F h0 h1
    rcases comb_c2 ((ch s k).map (od s)) with ⟨_, e⟩ | q | q
    · rw [← he] at e
      omega
    · rw [← he] at q
      obtain ⟨i, hi, e⟩ := List.mem_map.mp q
      obtain ⟨j, ⟨j0, j1⟩, hj, hl⟩ := ih i hi (by omega)
      exact ⟨j, ⟨j0, j1⟩, ch_up F h0 h1 hi j0 j1 hj, hl⟩
    · rw [← he, List.countP_map, List.countP_eq_length_filter] at q
      refine ⟨k, ⟨h0, h1⟩, Pt_self F h0 h1, Nat.le_trans q (filter_le fun j _ hj => ?_)⟩
      have := of_decide_eq_true hj
      exact decide_eq_true (by have q2 : od s k - 1 ≤ od s j := this; omega)
end
end Pk

set_option Elab.async false
set_option linter.all false
set_option maxRecDepth 100000
set_option maxHeartbeats 1000000
/-! k64: trees, fans, their judges. -/
namespace Pk
open PySem PySem.Spec PyProof.Rows L2 GxR
inductive Tr where
  | lf (i : Int)
  | nd (i : Int) (a b : Tr)
def Tr.e : Tr → Dt
  | .lf i => .tuple [.int i]
  | .nd i a b => .tuple [.int i, a.e, b.e]
def Tr.root : Tr → Int
  | .lf i => i
  | .nd i _ _ => i
def Tr.dep : Tr → Nat
  | .lf _ => 0
  | .nd _ a b => max a.dep b.dep + 1
theorem Tr.ix0 (t : Tr) : idxA t.e (0 : Int) = some (.int t.root) := by cases t <;> rfl
theorem Tr.tup (t : Tr) : isT (eA t.e) = true := by cases t <;> rfl
def fanB (s : List Int) : Int → Int → Tr → Bool
  | k, h, .lf i => (decide (0 ≤ i) && decide (i < (s.length : Int))) && decide (k ∈ Pt s i) && decide (h = 1)
  | k, h, .nd i a b => (decide (0 ≤ i) && decide (i < (s.length : Int))) && decide (k ∈ Pt s i) && !decide (h = 1) && fanB s i (h - 1) a && fanB s i (h - 1) b && !decide (b.root ∈ Pt s a.root) && !decide (a.root ∈ Pt s b.root)
section
variable {s : List Int} {r : Int → Nat}
theorem fanB_root {k h : Int} {t : Tr} (q : fanB s k h t = true) : (0 ≤ t.root ∧ t.root < s.length) ∧ k ∈ Pt s t.root := by
  cases t with
  | lf i =>
    unfold fanB at q
    simp only [Bool.and_eq_true, decide_eq_true_eq] at q
    exact ⟨q.1.1, q.1.2⟩
  | nd i a b =>
    unfold fanB at q
    simp only [Bool.and_eq_true, decide_eq_true_eq] at q
    exact ⟨q.1.1.1.1.1.1, q.1.1.1.1.1.2⟩
theorem above_ok (F : Fo s r) {i k : Int} (h0 : 0 ≤ i) (h1 : i < s.length) : f_is_above s i k = some (decide (k ∈ Pt s i)) := by
  unfold f_is_above
  rw [wd_ok F h0 h1]
  rfl
theorem is_fan_ok (F : Fo s r) : ∀ (t : Tr) (n : Nat) (k h : Int), t.dep < n → f_is_fan n s k h t.e = some (fanB s k h t) := by
  intro t
  induction t with
  | lf i =>
    intro n k h hn
    obtain ⟨n, rfl⟩ : ∃ m, n = m + 1 := ⟨n - 1, by omega⟩
    unfold f_is_fan
    refine Ok.eq (ok_is (Tr.ix0 _) (ok_is (x := i) rfl ?_))
    unfold fanB
    by_cases c : 0 ≤ i ∧ i < (s.length : Int)
    · have c1 : (decide ((0 : Int) ≤ i) && decide (i < (s.length : Int))) = true := by simp [c]
      rw [c1]
      refine ok_bind (P := fun b => b = !decide (k ∈ Pt s i)) (ok_if (fun z => by cases z) fun _ => ok_is (Tr.ix0 _) (ok_is (x := i) rfl (ok_is (above_ok F c.1 c.2) (ok_some rfl)))) fun b hb => ?_
      subst hb
      refine ok_if (fun z => ok_some ?_) fun z => ?_
      · simp at z
        simp [z]
      · simp at z
        refine ok_bind (P := fun b => b = true) (ok_if (fun _ => ok_some rfl) fun _ => ok_is (x := (1 : Int)) rfl (ok_some rfl)) fun b hb => ?_
        subst hb
        refine ok_if (fun _ => ok_bind (P := fun b => b = decide (h = 1)) (ok_if (fun z => ok_is (x := (1 : Int)) rfl (ok_some (by rw [z]; rfl))) fun z => ok_some z.symm) fun b hb => ok_some ?_) (fun z => by cases z)
        subst hb
        simp [z]
    · have c1 : (decide ((0 : Int) ≤ i) && decide (i < (s.length : Int))) = false := by simp; omega
      rw [c1]
      refine ok_bind (P := fun b => b = true) (ok_if (fun _ => ok_some rfl) fun z => by cases z) fun b hb => ?_
      subst hb
      exact ok_if (fun _ => ok_some rfl) fun z => by cases z
  | nd i a b iha ihb =>
    intro n k h hn
    obtain ⟨n, rfl⟩ : ∃ m, n = m + 1 := ⟨n - 1, by omega⟩
    have hn' : max a.dep b.dep + 1 < n + 1 := hn
    unfold f_is_fan
    refine Ok.eq (ok_is (Tr.ix0 _) (ok_is (x := i) rfl ?_))
    unfold fanB
    by_cases c : 0 ≤ i ∧ i < (s.length : Int)
    · have c1 : (decide ((0 : Int) ≤ i) && decide (i < (s.length : Int))) = true := by simp [c]
      rw [c1]
      refine ok_bind (P := fun b => b = !decide (k ∈ Pt s i)) (ok_if (fun z => by cases z) fun _ => ok_is (Tr.ix0 _) (ok_is (x := i) rfl (ok_is (above_ok F c.1 c.2) (ok_some rfl)))) fun b' hb => ?_
      subst hb
      refine ok_if (fun z => ok_some ?_) fun z => ?_
      · simp at z
        simp [z]
      · simp at z
        refine ok_bind (P := fun b => b = decide (h = 1)) (ok_if (fun z => ok_some z.symm) fun z => ok_is (x := (3 : Int)) rfl (ok_some (by rw [z]; rfl))) fun b' hb => ?_
        subst hb
        refine ok_if (fun z2 => ?_) fun z2 => ?_
        · rw [z2]
          refine ok_bind (P := fun b => b = false) (ok_if (fun _ => ok_is (x := (3 : Int)) rfl (ok_some rfl)) fun z => by cases z) fun b' hb => ok_some ?_
          subst hb
          simp
        · rw [z2]
          refine ok_is (x := ((PyData.int i, a.e, b.e) : Dt × Dt × Dt)) rfl (ok_is (x := i) rfl (ok_is (iha n i (h - 1) (by omega)) ?_))
          refine ok_bind (P := fun b' => b' = (!fanB s i (h - 1) a || !fanB s i (h - 1) b)) (ok_if (fun z => ok_some (by rw [z]; rfl)) fun z => ok_is (x := i) rfl (ok_is (ihb n i (h - 1) (by omega)) (ok_some (by rw [z]; rfl)))) fun b' hb => ?_
          subst hb
          refine ok_if (fun z3 => ok_some ?_) fun z3 => ?_
          · cases q1 : fanB s i (h - 1) a <;> cases q2 : fanB s i (h - 1) b <;> simp_all
          · have q1 : fanB s i (h - 1) a = true := by cases q1 : fanB s i (h - 1) a <;> simp_all
            have q2 : fanB s i (h - 1) b = true := by cases q2 : fanB s i (h - 1) b <;> simp_all
            obtain ⟨⟨a0, a1⟩, _⟩ := fanB_root q1
            obtain ⟨⟨b0, b1⟩, _⟩ := fanB_root q2
            refine ok_is (Tr.ix0 a) (ok_is (x := a.root) rfl (ok_is (Tr.ix0 b) (ok_is (x := b.root) rfl (ok_is (above_ok F a0 a1) ?_))))
            refine ok_bind (P := fun b' => b' = (!decide (b.root ∈ Pt s a.root) && !decide (a.root ∈ Pt s b.root))) (ok_if (fun z4 => ?_) fun z4 => ok_some (by rw [z4]; rfl)) fun b' hb => ok_some ?_
            · exact ok_is (Tr.ix0 b) (ok_is (x := b.root) rfl (ok_is (Tr.ix0 a) (ok_is (x := a.root) rfl (ok_is (above_ok F b0 b1) (ok_some (by rw [z4]; rfl))))))
            · subst hb
              simp [q1, q2, z]
    · have c1 : (decide ((0 : Int) ≤ i) && decide (i < (s.length : Int))) = false := by simp; omega
      rw [c1]
      refine ok_bind (P := fun b => b = true) (ok_if (fun _ => ok_some rfl) fun z => by cases z) fun b' hb => ?_
      subst hb
      exact ok_if (fun _ => ok_some rfl) fun z => by cases z
def dns (s : List Int) : List (List Int) := (rng 0 (s.length : Int)).map (Pt s)
theorem dns_len : ((dns s).length : Int) = s.length := by
  unfold dns
  rw [List.length_map, rng_len]
  omega
theorem dns_idx {i : Int} (h0 : 0 ≤ i) (h1 : i < s.length) : idx (dns s) i = some (Pt s i) := by
  rw [idx_int h0]
  unfold dns
  rw [List.getElem?_map, rng_get (by omega)]
  show some (Pt s (0 + ((i.toNat : Nat) : Int))) = _
  congr 2
  omega
theorem law_fan_ok : ∀ (t : Tr) (n : Nat) (k h : Int), t.dep < n → f_law_fan n (dns s) k h t.e = some (fanB s k h t) := by
  intro t
  induction t with
  | lf i =>
    intro n k h hn
    obtain ⟨n, rfl⟩ : ∃ m, n = m + 1 := ⟨n - 1, by omega⟩
    unfold f_law_fan
    refine Ok.eq (ok_is (Tr.ix0 _) (ok_is (x := i) rfl ?_))
    unfold fanB
    rw [dns_len]
    by_cases c : 0 ≤ i ∧ i < (s.length : Int)
    · have c1 : (decide ((0 : Int) ≤ i) && decide (i < (s.length : Int))) = true := by simp [c]
      rw [c1]
      refine ok_bind (P := fun b => b = !decide (k ∈ Pt s i)) (ok_if (fun z => by cases z) fun _ => ok_is (Tr.ix0 _) (ok_is (x := i) rfl (ok_is (dns_idx c.1 c.2) (ok_some rfl)))) fun b hb => ?_
      subst hb
      refine ok_if (fun z => ok_some ?_) fun z => ?_
      · simp at z
        simp [z]
      · simp at z
        refine ok_bind (P := fun b => b = true) (ok_if (fun _ => ok_some rfl) fun _ => ok_is (x := (1 : Int)) rfl (ok_some rfl)) fun b hb => ?_
        subst hb
        refine ok_if (fun _ => ok_bind (P := fun b => b = decide (h = 1)) (ok_if (fun z => ok_is (x := (1 : Int)) rfl (ok_some (by rw [z]; rfl))) fun z => ok_some z.symm) fun b hb => ok_some ?_) (fun z => by cases z)
        subst hb
        simp [z]
    · have c1 : (decide ((0 : Int) ≤ i) && decide (i < (s.length : Int))) = false := by simp; omega
      rw [c1]
      refine ok_bind (P := fun b => b = true) (ok_if (fun _ => ok_some rfl) fun z => by cases z) fun b hb => ?_
      subst hb
      exact ok_if (fun _ => ok_some rfl) fun z => by cases z
  | nd i a b iha ihb =>
    intro n k h hn
    obtain ⟨n, rfl⟩ : ∃ m, n = m + 1 := ⟨n - 1, by omega⟩
    have hn' : max a.dep b.dep + 1 < n + 1 := hn
    unfold f_law_fan
    refine Ok.eq (ok_is (Tr.ix0 _) (ok_is (x := i) rfl ?_))
    unfold fanB
    rw [dns_len]
    by_cases c : 0 ≤ i ∧ i < (s.length : Int)
    · have c1 : (decide ((0 : Int) ≤ i) && decide (i < (s.length : Int))) = true := by simp [c]
      rw [c1]
      refine ok_bind (P := fun b => b = !decide (k ∈ Pt s i)) (ok_if (fun z => by cases z) fun _ => ok_is (Tr.ix0 _) (ok_is (x := i) rfl (ok_is (dns_idx c.1 c.2) (ok_some rfl)))) fun b' hb => ?_
      subst hb
      refine ok_if (fun z => ok_some ?_) fun z => ?_
      · simp at z
        simp [z]
      · simp at z
        refine ok_bind (P := fun b => b = decide (h = 1)) (ok_if (fun z => ok_some z.symm) fun z => ok_is (x := (3 : Int)) rfl (ok_some (by rw [z]; rfl))) fun b' hb => ?_
        subst hb
        refine ok_if (fun z2 => ?_) fun z2 => ?_
        · rw [z2]
          refine ok_bind (P := fun b => b = false) (ok_if (fun _ => ok_is (x := (3 : Int)) rfl (ok_some rfl)) fun z => by cases z) fun b' hb => ok_some ?_
          subst hb
          simp
        · rw [z2]
          refine ok_is (x := a.e) rfl (ok_is (x := b.e) rfl (ok_is (Tr.ix0 (.nd i a b)) (ok_is (x := i) rfl (ok_is (iha n i (h - 1) (by omega)) ?_))))
          refine ok_bind (P := fun b' => b' = (!fanB s i (h - 1) a || !fanB s i (h - 1) b)) (ok_if (fun z => ok_some (by rw [z]; rfl)) fun z => ok_is (Tr.ix0 (.nd i a b)) (ok_is (x := i) rfl (ok_is (ihb n i (h - 1) (by omega)) (ok_some (by rw [z]; rfl))))) fun b' hb => ?_
          subst hb
          refine ok_if (fun z3 => ok_some ?_) fun z3 => ?_
          · cases q1 : fanB s i (h - 1) a <;> cases q2 : fanB s i (h - 1) b <;> simp_all
          · have q1 : fanB s i (h - 1) a = true := by cases q1 : fanB s i (h - 1) a <;> simp_all
            have q2 : fanB s i (h - 1) b = true := by cases q2 : fanB s i (h - 1) b <;> simp_all
            obtain ⟨⟨a0, a1⟩, _⟩ := fanB_root q1
            obtain ⟨⟨b0, b1⟩, _⟩ := fanB_root q2
            refine ok_is (Tr.ix0 a) (ok_is (x := a.root) rfl (ok_is (Tr.ix0 b) (ok_is (x := b.root) rfl (ok_is (dns_idx b0 b1) ?_))))
            refine ok_bind (P := fun b' => b' = (!decide (a.root ∈ Pt s b.root) && !decide (b.root ∈ Pt s a.root))) (ok_if (fun z4 => ?_) fun z4 => ok_some (by rw [z4]; rfl)) fun b' hb => ok_some ?_
            · exact ok_is (Tr.ix0 b) (ok_is (x := b.root) rfl (ok_is (Tr.ix0 a) (ok_is (x := a.root) rfl (ok_is (dns_idx a0 a1) (ok_some (by rw [z4]; rfl))))))
            · subst hb
              simp [q1, q2, z, Bool.and_comm]
    · have c1 : (decide ((0 : Int) ≤ i) && decide (i < (s.length : Int))) = false := by simp; omega
      rw [c1]
      refine ok_bind (P := fun b => b = true) (ok_if (fun _ => ok_some rfl) fun z => by cases z) fun b' hb => ?_
      subst hb
      exact ok_if (fun _ => ok_some rfl) fun z => by cases z
end
end Pk

set_option Elab.async false
set_option linter.all false
set_option maxRecDepth 100000
set_option maxHeartbeats 1000000
/-! k64: told fans are fans. -/
namespace Pk
open PySem PySem.Spec PyProof.Rows L2 GxR
theorem ok_find {α R : Type} {f : α → Unit → Option (Fl Unit R)} {Q : R → Prop} : ∀ {xs : List α}, (∀ x, x ∈ xs → f x () = some (.nx ()) ∨ Ok (f x ()) fun o => ∃ r, o = .rt r ∧ Q r) → (∃ x, x ∈ xs ∧ f x () ≠ some (.nx ())) → Ok (forF xs () f) fun o => ∃ r, o = .rt r ∧ Q r
  | [], _, h => by
    obtain ⟨x, hx, _⟩ := h
    cases hx
  | x :: xs, h, he => by
    unfold forF
    rcases h x List.mem_cons_self with e | e
    · rw [e]
      refine ok_find (xs := xs) (fun y hy => h y (List.mem_cons_of_mem _ hy)) ?_
      obtain ⟨y, hy, ne⟩ := he
      rcases List.mem_cons.mp hy with rfl | hy
      · exact absurd e ne
      · exact ⟨y, hy, ne⟩
    · obtain ⟨o, e, r, rfl, q⟩ := e
      rw [e]
      exact ⟨_, rfl, r, rfl, q⟩
section
variable {s : List Int} {r : Int → Nat}
theorem all_above_ok (F : Fo s r) (k : Int) : f_all_above s k = some ((rng 0 (s.length : Int)).filter fun i => decide (k ∈ Pt s i)) := by
  unfold f_all_above
  rw [compM_filt (q := fun i => decide (k ∈ Pt s i)) (g := fun i => i) (fun i hi => ?_) fun _ _ _ => rfl, List.map_id']
  · rfl
  · obtain ⟨i0, i1⟩ := mem_rng.mp hi
    rw [above_ok F i0 i1]
    rfl
theorem great_ok (F : Fo s r) {x h : Int} : compM (fun x5 : Int × Int => (Option.bind (if (decide (x5.2 = x)) = true then (Option.bind (f_order_of 20 s x5.1) fun t6 => (some (decide ((h - (1 : Int)) ≤ t6)))) else some false) fun t7 => (some t7))) (fun x5 => some x5.1) (enu s) = some ((ch s x).filter fun j => decide (h - 1 ≤ od s j)) := by
  rw [compM_filt (q := fun x5 : Int × Int => decide (x5.2 = x) && decide (h - 1 ≤ od s x5.1)) (g := fun x5 => x5.1) (fun y hy => ?_) fun _ _ _ => rfl]
  · unfold ch
    rw [List.filter_map, List.filter_filter]
    congr 2
    apply List.filter_congr
    intro y _
    exact Bool.and_comm _ _
  · obtain ⟨i, v⟩ := y
    obtain ⟨i0, hv⟩ := enu_mem.mp hy
    have i1 := (List.getElem?_eq_some_iff.mp hv).1
    refine Ok.eq (ok_bind (P := fun b => b = (decide (v = x) && decide (h - 1 ≤ od s i))) (ok_if (fun z => ok_is (od_ok F i0 (by show i < _; omega)) (ok_some (by
      have z' : decide (v = x) = true := z
      rw [z']
      rfl))) fun z => ok_some (by
      have z' : decide (v = x) = false := z
      rw [z']
      rfl)) fun b hb => ok_some hb)
theorem fanB_up (F : Fo s r) {x g h : Int} {t : Tr} (x0 : 0 ≤ x) (x1 : x < s.length) (hg : g ∈ ch s x) (q : fanB s g h t = true) : fanB s x h t = true := by
  obtain ⟨⟨a0, a1⟩, hm⟩ := fanB_root q
  have hx := ch_up F x0 x1 hg a0 a1 hm
  cases t with
  | lf i =>
    unfold fanB at q ⊢
    simp only [Bool.and_eq_true, decide_eq_true_eq] at q ⊢
    exact ⟨⟨q.1.1, hx⟩, q.2⟩
  | nd i a b =>
    unfold fanB at q ⊢
    simp only [Bool.and_eq_true, decide_eq_true_eq] at q ⊢
    exact ⟨⟨⟨⟨⟨⟨q.1.1.1.1.1.1, hx⟩, q.1.1.1.1.2⟩, q.1.1.1.2⟩, q.1.1.2⟩, q.1.2⟩, q.2⟩
theorem fan_apart (F : Fo s r) {x g g' h : Int} {a b : Tr} (x0 : 0 ≤ x) (x1 : x < s.length) (hg : g ∈ ch s x) (hg' : g' ∈ ch s x) (ne : g ≠ g') (qa : fanB s g h a = true) (qb : fanB s g' h b = true) : b.root ∉ Pt s a.root := fun z => by
  obtain ⟨⟨a0, a1⟩, ha⟩ := fanB_root qa
  obtain ⟨⟨b0, b1⟩, hb⟩ := fanB_root qb
  obtain ⟨_, _, pre, hp⟩ := Pt_mem F a0 a1 _ z
  refine ne (ch_apart F x0 x1 hg hg' a0 a1 ha ?_)
  rw [hp]
  exact List.mem_append_right _ hb
theorem fan_ok (F : Fo s r) : ∀ (n : Nat) (k h : Int), 0 ≤ k → k < s.length → 1 ≤ h → h ≤ od s k → h ≤ n → Ok (f_fan n s k h) fun v => ∃ t : Tr, v = t.e ∧ fanB s k h t = true ∧ (t.dep : Int) = h - 1
  | 0, k, h, _, _, h1, _, h3 => by omega
  | n + 1, k, h, k0, k1, h1, h2, h3 => by
    unfold f_fan
    refine ok_is (od_ok F k0 k1) (ok_if (fun z => ?_) fun _ => ok_if (fun z => ?_) fun z => ?_)
    · have := of_decide_eq_true z
      omega
    · have := of_decide_eq_true z
      subst this
      refine ok_some ⟨.lf k, rfl, ?_, rfl⟩
      unfold fanB
      simp [k0, k1, Pt_self F k0 k1]
    · have hne := of_decide_eq_false z
      refine ok_is (all_above_ok F k) ?_
      refine ok_bind (ok_find (Q := fun v => ∃ t : Tr, v = t.e ∧ fanB s k h t = true ∧ (t.dep : Int) = h - 1) (fun x hx => ?_) ?_) fun o ho => by
        obtain ⟨v, rfl, q⟩ := ho
        exact ok_some q
      · obtain ⟨hx1, hx2⟩ := List.mem_filter.mp hx
        obtain ⟨x0, x1⟩ := mem_rng.mp hx1
        have hkx := of_decide_eq_true hx2
        rw [great_ok F]
        by_cases hl : 2 ≤ ((ch s x).filter fun j => decide (h - 1 ≤ od s j)).length
        · refine .inr ?_
          obtain ⟨a, b, rest, hf, ha, hb, pa, pb, ne⟩ := two_of (ch_nodup s x) hl
          have qa := of_decide_eq_true pa
          have qb := of_decide_eq_true pb
          obtain ⟨⟨a0, a1⟩, _⟩ := ch_mem.mp ha
          obtain ⟨⟨b0, b1⟩, _⟩ := ch_mem.mp hb
          rw [hf]
          refine ok_let (ok_if (fun _ => ?_) fun z => ?_)
          · refine ok_is (x := a) (idx_nat (i := 0) rfl) (ok_bind (fan_ok F n a (h - 1) a0 a1 (by omega) qa (by omega)) fun va hva => ok_is (x := b) (idx_nat (i := 1) rfl) (ok_bind (fan_ok F n b (h - 1) b0 b1 (by omega) qb (by omega)) fun vb hvb => ok_some ?_))
            obtain ⟨ta, rfl, fa, da⟩ := hva
            obtain ⟨tb, rfl, fb, db⟩ := hvb
            refine ⟨_, rfl, .nd x ta tb, rfl, ?_, ?_⟩
            · unfold fanB
              simp only [Bool.and_eq_true, Bool.not_eq_true', decide_eq_true_eq, decide_eq_false_iff_not]
              exact ⟨⟨⟨⟨⟨⟨⟨x0, x1⟩, hkx⟩, hne⟩, fanB_up F x0 x1 ha fa⟩, fanB_up F x0 x1 hb fb⟩, fan_apart F x0 x1 ha hb ne fa fb⟩, fan_apart F x0 x1 hb ha (Ne.symm ne) fb fa⟩
            · show ((max ta.dep tb.dep + 1 : Nat) : Int) = h - 1
              omega
          · have : decide ((1 : Int) < ((a :: b :: rest).length : Int)) = false := z
            simp at this
            omega
        · refine .inl (Ok.eq (ok_let (ok_if (fun z => ?_) fun _ => ok_some rfl)))
          have := of_decide_eq_true z
          omega
      · obtain ⟨i, ⟨i0, i1⟩, hk, hl⟩ := fan_at F (h := h) (by omega) k k0 k1 h2
        refine ⟨i, List.mem_filter.mpr ⟨mem_rng.mpr ⟨i0, i1⟩, decide_eq_true hk⟩, fun z => ?_⟩
        rw [great_ok F] at z
        obtain ⟨a, b, rest, hf, ha, hb, pa, pb, ne⟩ := two_of (ch_nodup s i) hl
        rw [hf] at z
        simp only [Option.bind_some] at z
        rw [if_pos (by simp; omega)] at z
        obtain ⟨a', _, z⟩ := bind_some z
        obtain ⟨_, _, z⟩ := bind_some z
        obtain ⟨_, _, z⟩ := bind_some z
        obtain ⟨_, _, z⟩ := bind_some z
        cases z
theorem is_tree_ok : ∀ (t : Tr) (n : Nat) (h : Int), t.dep < n → (t.dep : Int) ≤ h → f_law_is_tree n t.e h = some true := by
  intro t
  induction t with
  | lf i =>
    intro n h hn hh
    obtain ⟨n, rfl⟩ : ∃ m, n = m + 1 := ⟨n - 1, by omega⟩
    unfold f_law_is_tree
    rfl
  | nd i a b iha ihb =>
    intro n h hn hh
    obtain ⟨n, rfl⟩ : ∃ m, n = m + 1 := ⟨n - 1, by omega⟩
    have hn' : max a.dep b.dep + 1 < n + 1 := hn
    have hh' : ((max a.dep b.dep + 1 : Nat) : Int) ≤ h := hh
    unfold f_law_is_tree
    refine Ok.eq (ok_is (x := false) rfl (ok_if (fun z => by cases z) fun _ => ok_is (x := (3 : Int)) rfl (ok_if (fun z => by cases z) fun _ => ?_)))
    refine ok_bind (P := fun b => b = true) (ok_if (fun _ => ok_is (x := a.e) rfl (ok_is (iha n (h - 1) (by omega) (by omega)) ?_)) fun z => ?_) fun b hb => ok_some hb
    · exact ok_bind (P := fun b => b = true) (ok_if (fun _ => ok_is (x := b.e) rfl (ok_is (ihb n (h - 1) (by omega) (by omega)) (ok_some rfl))) fun z => by cases z) fun b hb => ok_some hb
    · have := of_decide_eq_false z
      omega
theorem trees_ok : ∀ (t : Tr) (n : Nat) (odd : Int), t.dep < n → t.dep ≤ 6 → Ok (f_law_trees n t.e odd) fun l => l.length + 7 ≤ 10 * 2 ^ t.dep ∧ ∀ x, x ∈ l → ∃ t' : Tr, x = t'.e ∧ t'.dep ≤ t.dep + 1 := by
  intro t
  induction t with
  | lf i =>
    intro n odd hn h6
    obtain ⟨n, rfl⟩ : ∃ m, n = m + 1 := ⟨n - 1, by omega⟩
    unfold f_law_trees
    refine ok_is (x := [PyData.int i]) rfl (ok_is (x := [PyData.int odd]) rfl (ok_let (ok_is (x := (1 : Int)) rfl (ok_if (fun _ => ok_is (x := PyData.int i) rfl (ok_is (catM_ok (by show 3 ≤ LN; decide)) (ok_some ⟨by show 3 + 7 ≤ 10 * 2 ^ 0; decide, fun x hx => ?_⟩))) fun z => by cases z))))
    simp only [List.cons_append, List.nil_append, List.mem_cons, List.not_mem_nil, or_false] at hx
    rcases hx with rfl | rfl | rfl
    · exact ⟨.lf i, rfl, by simp [Tr.dep]⟩
    · exact ⟨.lf odd, rfl, by simp [Tr.dep]⟩
    · exact ⟨.nd i (.lf i) (.lf i), rfl, by simp [Tr.dep]⟩
  | nd i a b iha ihb =>
    intro n odd hn h6
    obtain ⟨n, rfl⟩ : ∃ m, n = m + 1 := ⟨n - 1, by omega⟩
    have hn' : max a.dep b.dep + 1 < n + 1 := hn
    have h6' : max a.dep b.dep + 1 ≤ 6 := h6
    have pa : 2 ^ a.dep ≤ 2 ^ max a.dep b.dep := Nat.pow_le_pow_right (by omega) (by omega)
    have pb : 2 ^ b.dep ≤ 2 ^ max a.dep b.dep := Nat.pow_le_pow_right (by omega) (by omega)
    have pd : 2 ^ (max a.dep b.dep + 1) = 2 * 2 ^ max a.dep b.dep := by rw [Nat.pow_succ]; omega
    have p6 : 2 ^ max a.dep b.dep ≤ 2 ^ 6 := Nat.pow_le_pow_right (by omega) (by omega)
    unfold f_law_trees
    refine ok_is (x := [PyData.int i, a.e, b.e]) rfl (ok_is (x := [PyData.int odd, a.e, b.e]) rfl (ok_let (ok_is (x := (3 : Int)) rfl (ok_if (fun z => by cases z) fun _ => ?_))))
    refine ok_is (x := PyData.int i) rfl (ok_is (x := b.e) rfl (ok_is (x := a.e) rfl (ok_is (x := a.e) rfl (ok_is (x := a.e) rfl (ok_is (x := a.e) rfl (ok_is (x := b.e) rfl (ok_is (catM_ok (by show 7 ≤ LN; decide)) ?_)))))))
    have G : ∀ x, x ∈ [(Tr.nd i a b).e, PyData.tuple [PyData.int odd, a.e, b.e]] ++ [PyData.tuple [PyData.int i], eP3 eA eA eA (PyData.int i, b.e, a.e), eP3 eA eA eA (PyData.int i, a.e, a.e), a.e, eP3 eA eA eA (PyData.int i, (Tr.nd i a b).e, b.e)] → ∃ t' : Tr, x = t'.e ∧ t'.dep ≤ max a.dep b.dep + 1 + 1 := by
      intro x hx
      simp only [List.cons_append, List.nil_append, List.mem_cons, List.not_mem_nil, or_false] at hx
      rcases hx with rfl | rfl | rfl | rfl | rfl | rfl | rfl
      · exact ⟨.nd i a b, rfl, by simp [Tr.dep]⟩
      · exact ⟨.nd odd a b, rfl, by simp [Tr.dep]⟩
      · exact ⟨.lf i, rfl, by simp [Tr.dep]⟩
      · exact ⟨.nd i b a, rfl, by simp [Tr.dep]; omega⟩
      · exact ⟨.nd i a a, rfl, by simp [Tr.dep]; omega⟩
      · exact ⟨a, rfl, by omega⟩
      · exact ⟨.nd i (.nd i a b) b, rfl, by simp [Tr.dep]; omega⟩
    refine ok_is (x := a.e) rfl (ok_bind (iha n odd (by omega) (by omega)) fun la hla => ?_)
    refine ok_bind (ok_forM (fun j (l : List Dt) => l.length = 7 + j ∧ ∀ x, x ∈ l → ∃ t' : Tr, x = t'.e ∧ t'.dep ≤ max a.dep b.dep + 1 + 1) ⟨rfl, G⟩ fun j x l hx hl => ?_) fun l hl => ?_
    · have hj := (List.getElem?_eq_some_iff.mp hx).1
      refine ok_is (x := b.e) rfl (ok_is (appM_ok (by show _ < 1000000; omega)) (ok_some ⟨by rw [List.length_append, hl.1]; rfl, fun y hy => ?_⟩))
      rcases List.mem_append.mp hy with hy | hy
      · exact hl.2 y hy
      · obtain ⟨t', e, d⟩ := hla.2 x (List.mem_of_getElem? hx)
        exact ⟨.nd i t' b, by rw [List.mem_singleton.mp hy, e]; rfl, by simp only [Tr.dep]; omega⟩
    · refine ok_is (x := b.e) rfl (ok_bind (ihb n odd (by omega) (by omega)) fun lb hlb => ?_)
      refine ok_bind (ok_forM (fun j (l' : List Dt) => l'.length = l.length + j ∧ ∀ x, x ∈ l' → ∃ t' : Tr, x = t'.e ∧ t'.dep ≤ max a.dep b.dep + 1 + 1) ⟨rfl, hl.2⟩ fun j x l' hx hl' => ?_) fun l' hl' => ok_some ⟨?_, hl'.2⟩
      · have hj := (List.getElem?_eq_some_iff.mp hx).1
        refine ok_is (x := a.e) rfl (ok_is (appM_ok (by show _ < 1000000; omega)) (ok_some ⟨by rw [List.length_append, hl'.1]; rfl, fun y hy => ?_⟩))
        rcases List.mem_append.mp hy with hy | hy
        · exact hl'.2 y hy
        · obtain ⟨t', e, d⟩ := hlb.2 x (List.mem_of_getElem? hx)
          exact ⟨.nd i a t', by rw [List.mem_singleton.mp hy, e]; rfl, by simp only [Tr.dep]; omega⟩
      · show l'.length + 7 ≤ 10 * 2 ^ (max a.dep b.dep + 1)
        have := hl.1
        have := hl'.1
        have := hla.1
        have := hlb.1
        omega
end
end Pk

set_option Elab.async false
set_option linter.all false
set_option maxRecDepth 100000
set_option maxHeartbeats 1000000
/-! k64: the law's own orders. -/
namespace Pk
open PySem PySem.Spec PyProof.Rows L2 GxR
section
variable {s : List Int} {r : Int → Nat}
def ods (s : List Int) : List Int := (rng 0 (s.length : Int)).map (od s)
theorem ods_len : (ods s).length = s.length := by
  unfold ods
  rw [List.length_map, rng_len]
  omega
theorem ods_get {k : Int} (h0 : 0 ≤ k) (h1 : k < s.length) : (ods s)[k.toNat]? = some (od s k) := by
  unfold ods
  rw [List.getElem?_map, rng_get (by omega)]
  show some (od s (0 + ((k.toNat : Nat) : Int))) = _
  congr 2
  omega
theorem ods_idx {k : Int} (h0 : 0 ≤ k) (h1 : k < s.length) : idx (ods s) k = some (od s k) := by
  rw [idx_int h0]
  exact ods_get h0 h1
theorem orders_ok (F : Fo s r) : f_orders s = some (ods s) := by
  unfold f_orders ods
  rw [compM_ok (g := od s) fun x hx => by
    obtain ⟨x0, x1⟩ := mem_rng.mp hx
    rw [od_ok F x0 x1]
    rfl]
  rfl
theorem ch_eq (k : Int) : ch s k = (rng 0 (s.length : Int)).filter fun i => decide (par s i = k) := by
  unfold ch
  rw [← enu_fst s, List.filter_map]
  congr 1
  apply List.filter_congr
  intro x hx
  obtain ⟨i, v⟩ := x
  obtain ⟨i0, hv⟩ := enu_mem.mp hx
  show decide (v = k) = decide (par s i = k)
  unfold par
  rw [List.getD_eq_getElem?_getD, hv]
  rfl
theorem comb_ok2 {β : Type} (l : List Int) (g : Int → Option β) : (Option.bind (if (decide ((1 : Int) < ((srt ltI l).length : Int))) = true then (Option.bind (idx (srt ltI l) (-(2 : Int))) fun t18 => (Option.bind (idx (srt ltI l) (-(1 : Int))) fun t19 => (some (decide (t18 = t19))))) else some false) fun t20 =>
 (Option.bind (if (decide (((srt ltI l).length : Int) = (0 : Int))) = true then (some (1 : Int)) else (Option.bind (idx (srt ltI l) (-(1 : Int))) fun t21 => (some (t21 + (if t20 = true then (1 : Int) else (0 : Int)))))) g)) = g (comb l) := by
  unfold comb
  generalize srt ltI l = o
  simp only
  by_cases h : o.length = 0
  · rw [if_neg (by rw [h]; decide), if_pos h]
    simp only [Option.bind_some]
    rw [if_pos (by rw [h]; rfl)]
    rfl
  · have e1 : idx o (-(1 : Int)) = o[o.length - 1]? := idx_neg (k := 1) (by omega) (by omega)
    have hl : o[o.length - 1]? = some (o.getLastD 0) := by
      rw [List.getLastD_eq_getLast?, List.getLast?_eq_getElem?, List.getElem?_eq_getElem (by omega)]
      rfl
    have hz : ¬ (decide ((o.length : Int) = (0 : Int)) = true) := by simp; exact fun z => h (by rw [z]; rfl)
    rw [if_neg h]
    by_cases h2 : 1 < o.length
    · have e2 : idx o (-(2 : Int)) = o[o.length - 2]? := idx_neg (k := 2) (by omega) (by omega)
      rw [if_pos (by simp; omega), e2, e1, List.getElem?_eq_getElem (by omega : o.length - 2 < o.length), hl]
      simp only [Option.bind_some]
      rw [if_neg hz]
      by_cases h3 : o[o.length - 2] = o.getLastD 0
      · rw [if_pos (show decide (o[o.length - 2] = o.getLastD 0) = true by rw [h3]; simp), if_pos ⟨h2, by rw [h3]⟩]
        rfl
      · rw [if_neg (show ¬ (decide (o[o.length - 2] = o.getLastD 0) = true) by rw [decide_eq_false h3]; exact Bool.false_ne_true), if_neg (by rintro ⟨_, z⟩; exact h3 (Option.some.inj z))]
        show g (_ + 0) = _
        rw [Int.add_zero]
    · rw [if_neg (by simp; omega)]
      simp only [Option.bind_some]
      rw [if_neg hz, e1, hl, if_neg (show ¬ (1 < o.length ∧ o[o.length - 2]? = some (o.getLastD 0)) from fun z => h2 z.1)]
      show g (_ + 0) = _
      rw [Int.add_zero]
theorem law_orders_ok (F : Fo s r) : f_law_orders s (dns s) = some (ods s) := by
  have h18 := F.le
  refine Ok.eq ?_
  unfold f_law_orders
  have h0 : repM [(0 : Int)] (s.length : Int) = some (rep [(0 : Int)] (s.length : Int)) := if_pos (by simp; omega)
  refine ok_let (ok_is h0 (ok_is (rngM_ok (by omega) (by omega)) ?_))
  refine ok_bind (ok_forM (fun j (l : List Int) => l.length = s.length ∧ ∀ k : Int, 0 ≤ k → k < s.length → s.length + 1 < (Pt s k).length + j → l[k.toNat]? = some (od s k)) ⟨by rw [rep_len]; simp, fun k k0 k1 h => by have := Pt_le F k0 k1; omega⟩ fun j x l hx hl => ?_) fun l hl => ok_some ?_
  · have hj := (List.getElem?_eq_some_iff.mp hx).1
    rw [rng_len] at hj
    rw [rng_get (by omega)] at hx
    cases hx
    refine ok_is (rngM_ok (by omega) (by omega)) ?_
    refine ok_bind (ok_forM (fun i (l' : List Int) => l'.length = s.length ∧ (∀ k : Int, 0 ≤ k → k < s.length → s.length + 1 < (Pt s k).length + j → l'[k.toNat]? = some (od s k)) ∧ ∀ k : Int, 0 ≤ k → k < i → k < s.length → s.length + 1 ≤ (Pt s k).length + j → l'[k.toNat]? = some (od s k)) ⟨hl.1, hl.2, fun k k0 k1 => by omega⟩ fun i y l' hy hl' => ?_) fun l' hl' => ok_some ⟨hl'.1, fun k k0 k1 h => hl'.2.2 k k0 (by rw [rng_len]; omega) k1 (by omega)⟩
    have hi := (List.getElem?_eq_some_iff.mp hy).1
    rw [rng_len] at hi
    rw [rng_get (by omega)] at hy
    cases hy
    have y0 : (0 : Int) ≤ 0 + (i : Int) := by omega
    have y1 : (0 : Int) + (i : Int) < s.length := by omega
    have hp1 : 1 ≤ (Pt s (0 + (i : Int))).length := List.length_pos_of_mem (Pt_self F y0 y1)
    refine ok_is (dns_idx y0 y1) (ok_if (fun z => ?_) fun z => ok_some ⟨hl'.1, hl'.2.1, fun k k0 k1 k2 h => ?_⟩)
    · have z' := of_decide_eq_true z
      refine ok_is (rngC_ok (by omega) (by omega) (by omega)) ?_
      have e : compM (fun x11 => (Option.bind (idx s x11) fun t12 => (some (decide (t12 = (0 : Int) + (i : Int)))))) (fun x11 => (Option.bind (idx l' x11) fun t13 => (some t13))) (rng 0 (s.length : Int)) = some ((ch s (0 + (i : Int))).map (od s)) := by
        rw [ch_eq, compM_filt (q := fun a => decide (par s a = (0 : Int) + (i : Int))) (g := od s) (fun a ha => ?_) fun a ha q => ?_]
        · obtain ⟨a0, a1⟩ := mem_rng.mp ha
          rw [idx_par a0 a1]
          rfl
        · obtain ⟨a0, a1⟩ := mem_rng.mp ha
          have hc : a ∈ ch s (0 + (i : Int)) := ch_mem.mpr ⟨⟨a0, a1⟩, of_decide_eq_true q⟩
          have := ch_len F hc y0 y1
          rw [idx_int a0, hl'.2.1 a a0 a1 (by omega)]
          rfl
      refine ok_is e (ok_let ?_)
      rw [comb_ok2, ← od_eq F y0 y1]
      have es : setI l' (0 + (i : Int)) (od s (0 + (i : Int))) = some (l'.set i (od s (0 + (i : Int)))) := by
        have := setI_nat (xs := l') (i := i) (x := od s (0 + (i : Int))) (by omega)
        rw [Int.zero_add]
        rw [Int.zero_add] at this
        exact this
      refine ok_is es (ok_some ⟨by rw [List.length_set]; exact hl'.1, fun k k0 k1 h => ?_, fun k k0 k1 k2 h => ?_⟩)
      · by_cases e : i = k.toNat
        · have ek : (0 : Int) + (i : Int) = k := by omega
          rw [← e, List.getElem?_set_self (by omega), ek]
        · rw [List.getElem?_set_ne e]
          exact hl'.2.1 k k0 k1 h
      · by_cases e : i = k.toNat
        · have ek : (0 : Int) + (i : Int) = k := by omega
          rw [← e, List.getElem?_set_self (by omega), ek]
        · rw [List.getElem?_set_ne e]
          exact hl'.2.2 k k0 (by omega) k2 h
    · have z' := of_decide_eq_false z
      by_cases e : k = 0 + (i : Int)
      · subst e
        exact hl'.2.1 _ k0 k2 (by omega)
      · exact hl'.2.2 k k0 (by omega) k2 h
  · apply List.ext_getElem?
    intro i
    by_cases h : i < s.length
    · have p1 : 1 ≤ (Pt s (i : Int)).length := List.length_pos_of_mem (Pt_self F (by omega) (by omega))
      have a := hl.2 (i : Int) (by omega) (by omega) (by rw [rng_len]; omega)
      have b := ods_get (s := s) (k := (i : Int)) (by omega) (by omega)
      rw [Int.toNat_natCast] at a b
      rw [a, b]
    · rw [List.getElem?_eq_none (by have := hl.1; omega), List.getElem?_eq_none (by rw [ods_len]; omega)]
end
end Pk

set_option Elab.async false
set_option linter.all false
set_option maxRecDepth 100000
set_option maxHeartbeats 2000000
/-! k64: all is right with a forest. -/
namespace Pk
open PySem PySem.Spec PyProof.Rows L2 GxR
theorem lawis_B (a : Bool) : f_law_is 8 (eB a) (eB a) = some true := by
  rw [(isyB (n := 7)).eq, decide_eq_true rfl]
theorem not_true_if {β : Type} {m1 m2 : Option β} {Q : β → Prop} (h : Ok m2 Q) : Ok (if (!true) = true then m1 else m2) Q := h
theorem Tr.nn (t : Tr) : isN t.e = false := by cases t <;> rfl
section
variable {s : List Int} {r : Int → Nat}
theorem right_ok (F : Fo s r) (ds : List Int) (hd : 10 ≤ ds.length) : f_law_right s ds = some true := by
  have h18 := F.le
  have hdr : ∀ i : Int, 0 ≤ i → i < 10 → Ok (idx ds i) fun _ => True := fun i i0 i1 => by
    rw [idx_int i0, List.getElem?_eq_getElem (by omega)]
    exact ⟨_, rfl, trivial⟩
  refine Ok.eq ?_
  unfold f_law_right
  refine ok_let (ok_is (rngC_ok (by omega) (by omega) (by omega)) ?_)
  have e1 : compM (fun _ => some true) (fun x3 => (Option.bind (f_law_down s x3) fun t4 => (some t4))) (rng 0 (s.length : Int)) = some (dns s) := by
    rw [compM_ok (g := Pt s) fun x hx => by
      obtain ⟨x0, x1⟩ := mem_rng.mp hx
      rw [ld_ok F x0 x1]
      rfl]
    rfl
  refine ok_is e1 (ok_is (law_orders_ok F) (ok_is (orders_ok F) ?_))
  refine ok_is (x := true) (by rw [(isyT (n := 7) fun x y => (isyI (n := 6)).eq x y).eq, decide_eq_true rfl]) (not_true_if ?_)
  refine ok_is (rngM_ok (by omega) (by omega)) (ok_checks (fun k hk => ?_) (ok_some rfl))
  obtain ⟨k0, k1⟩ := mem_rng.mp hk
  have o1 := od_pos F k k0 k1
  have o5 := od_le F k0 k1
  refine ok_let (ok_is (ods_idx k0 k1) (ok_is (rngM_ok (by omega) (by omega)) ?_))
  refine ok_on (ok_forF (fun (j : Nat) (last : Dt) => (j = 0 ∧ last = eT eI [(0 : Int) - (1 : Int)]) ∨ ∃ t : Tr, last = t.e ∧ t.dep ≤ 4) (.inl ⟨rfl, rfl⟩) fun j x last hx hp => ?_) fun last hlast => ?_
  · have hj := (List.getElem?_eq_some_iff.mp hx).1
    rw [rng_len] at hj
    rw [rng_get (by omega)] at hx
    cases hx
    by_cases hh : (1 : Int) + (j : Int) ≤ od s k
    · refine ok_bind (fan_ok F 8 k (1 + (j : Int)) k0 k1 (by omega) hh (by omega)) fun v hv => ?_
      obtain ⟨t, rfl, ft, dt⟩ := hv
      refine ok_is (ods_idx k0 k1) (ok_if (fun z => ?_) fun _ => ok_if (fun _ => ?_) fun z => ?_)
      · rw [t.nn, decide_eq_false (by omega : ¬ od s k < 1 + (j : Int))] at z
        cases z
      · refine ok_is (is_tree_ok t 9 6 (by omega) (by omega)) (ok_is (x := false) ?_ (ok_if (fun z => by cases z) fun _ => ok_some ⟨t.e, rfl, .inr ⟨t, rfl, by omega⟩⟩))
        refine Ok.eq (ok_if (fun z => by cases z) fun _ => ok_is (law_fan_ok t 9 k _ (by omega)) (ok_some (by rw [ft]; rfl)))
      · rw [t.nn] at z
        cases z
    · have hn : f_fan 8 s k (1 + (j : Int)) = some (eN ()) := by
        refine Ok.eq ?_
        unfold f_fan
        refine ok_is (od_ok F k0 k1) (ok_if (fun _ => ok_some rfl) fun z => ?_)
        have := of_decide_eq_false z
        omega
      refine ok_is hn (ok_is (ods_idx k0 k1) (ok_if (fun z => ?_) fun _ => ok_if (fun z => by cases z) fun _ => ok_some ⟨last, rfl, ?_⟩))
      · rw [decide_eq_true (by omega : od s k < 1 + (j : Int))] at z
        cases z
      · rcases hp with ⟨hj0, _⟩ | hp
        · omega
        · exact .inr hp
  · have hlen : (rng (1 : Int) (od s k + 2)).length = (od s k + 1).toNat := by rw [rng_len]; omega
    obtain ⟨t, rfl, dt⟩ : ∃ t : Tr, last = t.e ∧ t.dep ≤ 4 := by
      rcases hlast with ⟨h, _⟩ | h
      · omega
      · exact h
    refine ok_bind (hdr 0 (by omega) (by omega)) fun d0 _ => ?_
    refine ok_bind (P := fun _ => True) (ok_if (fun _ => ok_is (ods_idx k0 k1) (ok_some trivial)) fun _ => ok_some trivial) fun b _ => ok_if (fun _ => ok_some rfl) fun _ => ?_
    refine ok_bind (hdr _ (by omega) (by omega)) fun d1 _ => ok_is (modM_ok (by omega)) (ok_is (dns_idx k0 k1) ?_)
    refine ok_bind (P := fun _ => True) ?_ fun t35 _ => ?_
    · rw [idx_last]
      have hne : Pt s k ≠ [] := fun z => by
        have := Pt_self F k0 k1
        rw [z] at this
        cases this
      rw [List.getLast?_eq_some_getLast hne]
      exact ok_some trivial
    · refine ok_bind (hdr _ (by omega) (by omega)) fun d2 _ => ?_
      refine ok_bind (P := fun _ => True) ?_ fun odd _ => ?_
      · rw [idx_int (by omega), List.getElem?_eq_getElem (by simp; omega)]
        exact ok_some trivial
      · refine ok_bind (trees_ok t 9 odd (by omega) (by omega)) fun l hl => ok_checks (fun x hx => ?_) ?_
        · obtain ⟨t', rfl, dt'⟩ := hl.2 x hx
          refine ok_is (ods_idx k0 k1) (ok_is (ods_idx k0 k1) (ok_is (ods_idx k0 k1) (ok_checks (fun h _ => ?_) (ok_some rfl))))
          exact ok_is (is_fan_ok F t' 9 k h (by omega)) (ok_is (law_fan_ok t' 9 k h (by omega)) (ok_is (lawis_B _) (not_true_if (ok_some rfl))))
        · refine ok_is (rngM_ok (by omega) (by omega)) (ok_checks (fun o ho => ?_) (ok_some rfl))
          obtain ⟨o0, o1'⟩ := mem_rng.mp ho
          refine ok_is (ods_idx k0 k1) (ok_is (is_fan_ok F t 9 o _ (by omega)) (ok_is (ods_idx k0 k1) (ok_is (law_fan_ok t 9 o _ (by omega)) (ok_is (lawis_B _) (not_true_if ?_)))))
          refine ok_is (is_fan_ok F (.lf o) 9 k 1 (by show 0 < 9; omega)) (ok_is (dns_idx o0 o1') ?_)
          have g1 : fanB s k 1 (.lf o) = decide (k ∈ Pt s o) := by
            unfold fanB
            simp [o0, o1']
          refine ok_is (x := true) (by rw [g1]; exact lawis_B _) (not_true_if ?_)
          refine ok_is (is_fan_ok F (.lf (o - (s.length : Int))) 9 k 1 (by show 0 < 9; omega)) ?_
          have g2 : fanB s k 1 (.lf (o - (s.length : Int))) = false := by
            unfold fanB
            simp
            omega
          refine ok_is (x := true) (by rw [g2]; exact lawis_B _) (not_true_if ?_)
          refine ok_bind (hdr 3 (by omega) (by omega)) fun d3 _ => ok_is (modM_ok (by omega)) (ok_let ?_)
          exact ok_is (is_fan_ok F (.nd k (.lf o) (.lf (d3 % (s.length : Int)))) 9 k 2 (by show 1 < 9; omega)) (ok_is (law_fan_ok (.nd k (.lf o) (.lf (d3 % (s.length : Int)))) 9 k 2 (by show 1 < 9; omega)) (ok_is (lawis_B _) (not_true_if (ok_some rfl))))
end
end Pk

set_option Elab.async false
set_option linter.all false
set_option maxRecDepth 100000
set_option maxHeartbeats 2000000
/-! k64: what is drawn is a forest. -/
namespace Pk
open PySem PySem.Spec PyProof.Rows L2 GxR
theorem ok_pick {α : Type} {xs : List α} {i : Int} (h0 : 0 ≤ i) (h1 : i < xs.length) : Ok (idx xs i) (· ∈ xs) := by
  rw [idx_int h0, List.getElem?_eq_getElem (by omega)]
  exact ⟨_, rfl, List.getElem_mem _⟩
def Up (s : List Int) : Prop := ∀ (i : Nat) v, s[i]? = some v → v = -1 ∨ (0 ≤ v ∧ v < i)
theorem Up.fo {s : List Int} (h : Up s) (l : s.length ≤ 18) : Fo s Int.toNat where
  pa := fun k k0 k1 => by
    have e : s[k.toNat]? = some (par s k) := by
      unfold par
      rw [List.getD_eq_getElem?_getD, List.getElem?_eq_getElem (by omega)]
      rfl
    rcases h _ _ e with q | ⟨q1, q2⟩
    · exact .inl q
    · exact .inr ⟨q1, by omega, by omega⟩
  lt := fun k k0 k1 => by omega
  le := l
theorem bush_ok (ds : List Int) (hd : 5 ≤ ds.length) : Ok (f_law_bush ds) fun s => Fo s Int.toNat := by
  unfold f_law_bush
  have hdr : ∀ i : Int, 0 ≤ i → i < 5 → Ok (idx ds i) fun _ => True := fun i i0 i1 => by
    rw [idx_int i0, List.getElem?_eq_getElem (by omega)]
    exact ⟨_, rfl, trivial⟩
  refine ok_bind (hdr 0 (by omega) (by omega)) fun d0 _ => ok_bind (ok_pick (by omega) (by simp; omega)) fun n hn => ?_
  have hn' : n = 7 ∨ n = 15 ∨ n = 3 := by simpa using hn
  refine ok_is (rngC_ok (by omega) (by omega) (by omega)) ?_
  have hl : (rng (1 : Int) n).length = (n - 1).toNat := rng_len _ _
  refine ok_is (catM_ok (by rw [List.length_map, hl]; show 1 + _ ≤ 1000000; omega)) ?_
  have up : Up ([(0 : Int) - (1 : Int)] ++ (rng (1 : Int) n).map fun x4 => (x4 - (1 : Int)) / (2 : Int)) := fun i v hv => by
    match i with
    | 0 =>
      cases hv
      exact .inl rfl
    | i + 1 =>
      have hv' : ((rng (1 : Int) n).map fun x4 => (x4 - (1 : Int)) / (2 : Int))[i]? = some v := hv
      rw [List.getElem?_map] at hv'
      have hi : i < (n - 1).toNat := by
        apply Classical.byContradiction
        intro z
        rw [List.getElem?_eq_none (by omega)] at hv'
        cases hv'
      rw [rng_get (by omega)] at hv'
      have e : ((1 : Int) + (i : Int) - 1) / 2 = v := Option.some.inj hv'
      refine .inr ⟨by omega, by omega⟩
  have ln : ([(0 : Int) - (1 : Int)] ++ (rng (1 : Int) n).map fun x4 => (x4 - (1 : Int)) / (2 : Int)).length = n.toNat := by
    rw [List.length_append, List.length_map, hl]
    show 1 + _ = _
    omega
  generalize ([(0 : Int) - (1 : Int)] ++ (rng (1 : Int) n).map fun x4 => (x4 - (1 : Int)) / (2 : Int)) = fd at up ln
  refine ok_bind (hdr 1 (by omega) (by omega)) fun d1 _ => ok_bind (P := fun s => Fo s Int.toNat) (ok_if (fun z => ?_) fun _ => ?_) fun s hs => ok_some hs
  · have z2 : n < 15 := by
      simp only [Bool.and_eq_true, decide_eq_true_eq] at z
      exact z.2
    refine ok_bind (hdr 2 (by omega) (by omega)) fun d2 _ => ok_is (modM_ok (by omega)) (ok_bind (hdr 3 (by omega) (by omega)) fun d3 _ => ?_)
    have m0 := Int.emod_nonneg d2 (by omega : n ≠ 0)
    have m1 := Int.emod_lt_of_pos d2 (by omega : 0 < n)
    have hc : cut [d2 % n, n, n] none (some (1 + d3 % 3)) = [d2 % n, n, n].take (1 + d3 % 3).toNat := by
      have := cut_to (xs := [d2 % n, n, n]) (j := (1 + d3 % 3).toNat) (by simp; omega)
      rw [← this]
      congr 2
      omega
    rw [hc]
    have lt : ([d2 % n, n, n].take (1 + d3 % 3).toNat).length ≤ 3 := by
      rw [List.length_take]
      exact Nat.min_le_right _ _
    refine ok_is (catM_ok (by show _ ≤ 1000000; omega)) (ok_some (Up.fo (fun i v hv => ?_) (by rw [List.length_append]; omega)))
    by_cases hi : i < fd.length
    · rw [List.getElem?_append_left hi] at hv
      exact up i v hv
    · rw [List.getElem?_append_right (by omega)] at hv
      have hv2 : [d2 % n, n, n][i - fd.length]? = some v := by
        rw [List.getElem?_take] at hv
        split at hv
        · exact hv
        · cases hv
      have h3 : i - fd.length < 3 := by
        apply Classical.byContradiction
        intro z
        rw [List.getElem?_eq_none (by simp; omega)] at hv2
        cases hv2
      right
      match hq : i - fd.length with
      | 0 =>
        rw [hq] at hv2
        cases hv2
        exact ⟨by omega, by omega⟩
      | 1 =>
        rw [hq] at hv2
        cases hv2
        exact ⟨by omega, by omega⟩
      | 2 =>
        rw [hq] at hv2
        cases hv2
        exact ⟨by omega, by omega⟩
      | j + 3 => omega
  · refine ok_bind (hdr 4 (by omega) (by omega)) fun d4 _ => ok_let (ok_some ?_)
    have hc : cut fd none (some (n - d4 % 4)) = fd.take (n - d4 % 4).toNat := by
      by_cases hz : 0 ≤ n - d4 % 4
      · have := cut_to (xs := fd) (j := (n - d4 % 4).toNat) (by omega)
        rw [← this]
        congr 2
        omega
      · omega
    rw [hc]
    refine Up.fo (fun i v hv => ?_) (by rw [List.length_take]; omega)
    rw [List.getElem?_take] at hv
    split at hv
    · exact up i v hv
    · cases hv
theorem streams_ok (ds : List Int) (hd : (ds.length : Int) = 30) (hb : ∀ d, d ∈ ds → 0 ≤ d ∧ d < 5040) : Ok (f_law_streams 0 ds) fun s => ∃ r, Fo s r := by
  unfold f_law_streams
  refine ok_bind (draw_at hd hb (by omega) (by omega)) fun d0 h0 => ok_bind (ok_pick (by omega) (by simp; omega)) fun n hn => ?_
  have hn' : 0 ≤ n ∧ n ≤ 11 := by
    simp at hn
    omega
  have ln : (rng 0 n).length = n.toNat := by rw [rng_len]; omega
  refine ok_is (rngM_ok (by omega) (by omega)) (ok_bind (ok_forM (fun (i : Nat) (l : List Int) => l.length = i ∧ l.Nodup ∧ ∀ v, v ∈ l ↔ 0 ≤ v ∧ v < (i : Int)) ⟨rfl, .nil, fun v => ⟨fun hv => (by cases hv), fun hv => absurd hv.1 (by have := hv.2; omega)⟩⟩ fun i x l hx hl => ?_) fun nm hnm => ?_)
  · have hi := (List.getElem?_eq_some_iff.mp hx).1
    rw [rng_get (by omega)] at hx
    cases hx
    obtain ⟨l1, l2, l3⟩ := hl
    refine ok_bind (draw_at hd hb (by omega) (by omega)) fun d hd' => ok_is (modM_ok (by omega)) ?_
    have m0 := Int.emod_nonneg d (by omega : (0 + (i : Int) + 1) ≠ 0)
    have m1 := Int.emod_lt_of_pos d (by omega : 0 < (0 + (i : Int) + 1))
    have hp : (d % (0 + (i : Int) + 1)).toNat ≤ l.length := by omega
    have e1 : cut l none (some (d % (0 + (i : Int) + 1))) = l.take (d % (0 + (i : Int) + 1)).toNat := by
      rw [← cut_to hp]
      congr 2
      omega
    have e2 : cut l (some (d % (0 + (i : Int) + 1))) none = l.drop (d % (0 + (i : Int) + 1)).toNat := by
      rw [← cut_from hp]
      congr 2
      omega
    rw [e1, e2]
    generalize (d % (0 + (i : Int) + 1)).toNat = p at hp
    refine ok_is (catM_ok (by rw [List.length_take]; show _ + 1 ≤ 1000000; omega)) (ok_is (catM_ok (by rw [List.length_append, List.length_take, List.length_drop]; show _ + 1 + _ ≤ 1000000; omega)) (ok_some ?_))
    have pm : (l.take p ++ [(0 : Int) + (i : Int)] ++ l.drop p).Perm ((0 + (i : Int)) :: l) := by
      rw [List.append_assoc]
      show (l.take p ++ ((0 + (i : Int)) :: l.drop p)).Perm _
      refine List.perm_middle.trans ?_
      rw [List.take_append_drop]
    refine ⟨by rw [pm.length_eq, List.length_cons, l1], pm.nodup_iff.mpr (List.nodup_cons.mpr ⟨fun z => ?_, l2⟩), fun v => ?_⟩
    · have := (l3 _).mp z
      omega
    · rw [pm.mem_iff, List.mem_cons, l3 v]
      constructor
      · rintro (h | h) <;> omega
      · intro h
        by_cases e : v = 0 + (i : Int)
        · exact .inl e
        · exact .inr (by omega)
  · obtain ⟨l1, l2, l3⟩ := hnm
    rw [ln] at l1 l3
    have hrep : repM [(0 : Int) - (1 : Int)] n = some (rep [(0 : Int) - (1 : Int)] n) := if_pos (by simp; omega)
    refine ok_is hrep (ok_bind (draw_at hd hb (by omega) (by omega)) fun d26 h26 => ok_bind (ok_pick (by omega) (by simp; omega)) fun wide hw => ?_)
    have hw' : 0 < wide := by
      simp at hw
      omega
    have hl : (rng (1 : Int) n).length = (n - 1).toNat := rng_len _ _
    refine ok_is (rngM_ok (by omega) (by omega)) (ok_bind (ok_forM (fun (_ : Nat) (f : List Int) => f.length = n.toNat ∧ ∀ (v : Nat) u, f[v]? = some u → u = -1 ∨ ∃ a b : Nat, b < a ∧ nm[a]? = some (v : Int) ∧ nm[b]? = some u) ⟨by rw [rep_len]; simp, fun v u hu => ?_⟩ fun i x f hx hf => ?_) fun f hf => ?_)
    · left
      have := List.mem_of_getElem? hu
      unfold rep at this
      obtain ⟨y, hy, hy2⟩ := List.mem_flatten.mp this
      rw [(List.mem_replicate.mp hy).2] at hy2
      rw [List.mem_singleton.mp hy2]
      rfl
    · have hi := (List.getElem?_eq_some_iff.mp hx).1
      rw [rng_get (by omega)] at hx
      cases hx
      obtain ⟨f1, f2⟩ := hf
      refine ok_bind (draw_at hd hb (by omega) (by omega)) fun d hd' => ok_is (modM_ok hw') (ok_let (ok_bind (draw_at hd hb (by omega) (by omega)) fun d' hd'' => ok_if (fun _ => ?_) fun _ => ok_some ⟨f1, f2⟩))
      have hm := Int.emod_nonneg d (by omega : wide ≠ 0)
      have ov : 0 ≤ max (0 : Int) ((1 + (i : Int)) - 1 - d % wide) ∧ max (0 : Int) ((1 + (i : Int)) - 1 - d % wide) < 1 + (i : Int) := by omega
      generalize max (0 : Int) ((1 + (i : Int)) - 1 - d % wide) = over at ov
      have a1 : nm[over.toNat]? = some nm[over.toNat] := List.getElem?_eq_getElem (by omega)
      have a2 : nm[(1 + (i : Int)).toNat]? = some nm[(1 + (i : Int)).toNat] := List.getElem?_eq_getElem (by omega)
      refine ok_is (by rw [idx_int ov.1, a1]) (ok_is (by rw [idx_int (by omega), a2]) ?_)
      have b2 := (l3 _).mp (List.getElem_mem (by omega : (1 + (i : Int)).toNat < nm.length))
      generalize hv : nm[(1 + (i : Int)).toNat] = v at a2 b2
      generalize hu : nm[over.toNat] = u at a1
      have es : setI f v u = some (f.set v.toNat u) := by
        have := setI_nat (xs := f) (i := v.toNat) (x := u) (by omega)
        rw [← this]
        congr 1
        omega
      refine ok_is es (ok_some ⟨by rw [List.length_set]; exact f1, fun w t ht => ?_⟩)
      by_cases e : v.toNat = w
      · rw [← e, List.getElem?_set_self (by omega)] at ht
        cases ht
        exact .inr ⟨(1 + (i : Int)).toNat, over.toNat, by omega, by rw [a2]; congr 1; omega, a1⟩
      · rw [List.getElem?_set_ne e] at ht
        exact f2 w t ht
    · obtain ⟨f1, f2⟩ := hf
      have fo : Fo f (fun v => nm.idxOf v) := by
        refine ⟨fun k k0 k1 => ?_, fun k k0 k1 => ?_, by omega⟩
        · have e : f[k.toNat]? = some (par f k) := by
            unfold par
            rw [List.getD_eq_getElem?_getD, List.getElem?_eq_getElem (by omega)]
            rfl
          rcases f2 _ _ e with q | ⟨a, b, hab, ha, hb'⟩
          · exact .inl q
          · have ka : ((k.toNat : Nat) : Int) = k := by omega
            rw [ka] at ha
            have u3 := (l3 _).mp (List.mem_of_getElem? hb')
            refine .inr ⟨u3.1, by omega, ?_⟩
            obtain ⟨ha1, ha2⟩ := List.getElem?_eq_some_iff.mp ha
            obtain ⟨hb1, hb2⟩ := List.getElem?_eq_some_iff.mp hb'
            show nm.idxOf (par f k) < nm.idxOf k
            rw [← hb2, ← ha2, l2.idxOf_getElem _ hb1, l2.idxOf_getElem _ ha1]
            exact hab
        · show nm.idxOf k < f.length
          have hk : k ∈ nm := (l3 k).mpr ⟨k0, by omega⟩
          have := List.idxOf_lt_length_of_mem hk
          omega
      refine ok_bind (P := fun g => g = f) (ok_if (fun z => by cases z) fun _ => ok_some rfl) fun g hg => ?_
      subst hg
      first
        | exact ok_bind (P := fun g => ∃ r, Fo g r) (ok_if (fun z => by cases z) fun _ => ok_some ⟨_, fo⟩) fun g hg => ok_some hg
        | exact ok_if (fun z => by cases z) fun _ => ok_some ⟨_, fo⟩
theorem law_true (ns : List Int) (h : ns.length ≤ 63) : f_law ns = some true := by
  refine Ok.eq ?_
  unfold f_law
  refine ok_bind (cell_ok ns 0 (by omega)) fun c _ => ok_bind (draws_ok c 20 (by omega) (by omega)) fun ds hds => ok_checks (fun k hk => ?_) (ok_some rfl)
  obtain ⟨k0, k1⟩ := mem_rng.mp hk
  refine ok_bind (cell_ok ns _ (by omega)) fun c1 _ => ok_bind (draws_ok c1 30 (by omega) (by omega)) fun d1 hd1 => ok_bind (streams_ok d1 hd1.1 hd1.2) fun s hs => ?_
  obtain ⟨r, F⟩ := hs
  have cl : ∀ j : Int, 0 ≤ j → j ≤ 10 → (cut ds (some j) none).length = (20 - j).toNat := fun j j0 j1 => by
    have := cut_from (xs := ds) (j := j.toNat) (by omega)
    rw [show ((j.toNat : Nat) : Int) = j by omega] at this
    rw [this, List.length_drop]
    omega
  refine ok_is (right_ok F _ (by rw [cl k (by omega) (by omega)]; omega)) (ok_bind (P := fun b => b = false) (ok_if (fun z => by cases z) fun _ => ?_) fun b hb => ?_)
  · refine ok_bind (bush_ok _ (by rw [cl _ (by omega) (by omega)]; omega)) fun s2 F2 => ok_is (right_ok F2 _ (by rw [cl _ (by omega) (by omega)]; omega)) (ok_some rfl)
  · subst hb
    exact ok_if (fun z => by cases z) fun _ => ok_some rfl
end Pk

set_option Elab.async false
set_option linter.all false
set_option maxRecDepth 100000
set_option maxHeartbeats 4000000
open PySem PySem.W PyProof.Rows
set_option maxRecDepth 100000 in
set_option maxHeartbeats 0 in
theorem PySem.Challenge.cw_placekeep_k64_whole_orders_or_fans_holds : PySem.Challenge.rw_placekeep_k64_whole_orders_or_fans.Holds := by
  w_on; o_law; k_head; (case hw => w_witness2)
  k_fill
  refine L2.walk_of (l := PySem.Challenge.rw_placekeep_k64_whole_orders_or_fans) (n := 63) (k := 32) (x := "script") (CX := fun _ => L2.CX0) (sp := fun w => Pk.Pur _ (fun _ => False) Pk.R_law) rfl (by decide) rfl ⟨rfl, by decide, by decide⟩ (fun w h Y => PySem.W.kIn_of Y) ?F (fun _ _ a ns hl _ hS => Pk.law_end (by decide) hl hS ⟨ns, true, rfl, rfl, Pk.law_true ns hl⟩) (fun _ _ _ _ _ h => h)
  case F =>
    intro w mg fa h KX G hmg
    refine' Pk.all_mk KX G hmg ?a1 ?l1 ?c1 ?k1 ?a2 ?l2 ?c2 ?k2 ?a3 ?l3 ?c3 ?k3 ?a4 ?l4 ?c4 ?k4 ?a5 ?l5 ?c5 ?k5 ?a6 ?l6 ?c6 ?k6 ?a7 ?l7 ?c7 ?k7 ?a8 ?l8 ?c8 ?k8 ?a9 ?l9 ?c9 ?k9 ?a10 ?l10 ?c10 ?k10 ?a11 ?l11 ?c11 ?k11 ?a12 ?l12 ?c12 ?k12 ?a13 ?l13 ?c13 ?k13 ?a14 ?l14 ?c14 ?k14 ?a15 ?l15 ?c15 ?k15 ?a16 ?l16 ?c16 ?k16 ?a17 ?l17 ?c17 ?k17 ?a18 ?l18 ?c18 ?k18 ?a19 ?l19 ?c19 ?k19 ?a20 ?l20 ?c20 ?k20 ?z_abs ?z_all ?z_bool ?z_enumerate ?z_int ?z_isinstance ?z_len ?z_max ?z_range ?z_sorted ?z_str ?z_tuple
    (case a1 => k_is)
    (case l1 => k_is)
    (case c1 => k_is)
    (case k1 => k_is)
    (case a2 => k_is)
    (case l2 => k_is)
    (case c2 => k_is)
    (case k2 => k_is)
    (case a3 => k_is)
    (case l3 => k_is)
    (case c3 => k_is)
    (case k3 => k_is)
    (case a4 => k_is)
    (case l4 => k_is)
    (case c4 => k_is)
    (case k4 => k_is)
    (case a5 => k_is)
    (case l5 => k_is)
    (case c5 => k_is)
    (case k5 => k_is)
    (case a6 => k_is)
    (case l6 => k_is)
    (case c6 => k_is)
    (case k6 => k_is)
    (case a7 => k_is)
    (case l7 => k_is)
    (case c7 => k_is)
    (case k7 => k_is)
    (case a8 => k_is)
    (case l8 => k_is)
    (case c8 => k_is)
    (case k8 => k_is)
    (case a9 => k_is)
    (case l9 => k_is)
    (case c9 => k_is)
    (case k9 => k_is)
    (case a10 => k_is)
    (case l10 => k_is)
    (case c10 => k_is)
    (case k10 => k_is)
    (case a11 => k_is)
    (case l11 => k_is)
    (case c11 => k_is)
    (case k11 => k_is)
    (case a12 => k_is)
    (case l12 => k_is)
    (case c12 => k_is)
    (case k12 => k_is)
    (case a13 => k_is)
    (case l13 => k_is)
    (case c13 => k_is)
    (case k13 => k_is)
    (case a14 => k_is)
    (case l14 => k_is)
    (case c14 => k_is)
    (case k14 => k_is)
    (case a15 => k_is)
    (case l15 => k_is)
    (case c15 => k_is)
    (case k15 => k_is)
    (case a16 => k_is)
    (case l16 => k_is)
    (case c16 => k_is)
    (case k16 => k_is)
    (case a17 => k_is)
    (case l17 => k_is)
    (case c17 => k_is)
    (case k17 => k_is)
    (case a18 => k_is)
    (case l18 => k_is)
    (case c18 => k_is)
    (case k18 => k_is)
    (case a19 => k_is)
    (case l19 => k_is)
    (case c19 => k_is)
    (case k19 => k_is)
    (case a20 => k_is)
    (case l20 => k_is)
    (case c20 => k_is)
    (case k20 => k_is)
    (case z_abs => k_is)
    (case z_all => k_is)
    (case z_bool => k_is)
    (case z_enumerate => k_is)
    (case z_int => k_is)
    (case z_isinstance => k_is)
    (case z_len => k_is)
    (case z_max => k_is)
    (case z_range => k_is)
    (case z_sorted => k_is)
    (case z_str => k_is)
    (case z_tuple => k_is)
