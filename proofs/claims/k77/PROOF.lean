import PyProof.Rows.All
import Wide.All
import OpenK.AllK
import Wide.FinOn
import PyProof.EqAt
import PyProof.EqKinds
import PyProof.TupleCall
import PyProof.ReprRoads
import HandS.ForMost
import HandS.Exc
import HandS.TryOnly
import HandS.ExcOwn
import HandS.WordsExc
import HandS.CallSlots
import HandS.IsInst
import HandS.TupAny
import HandS.TupMul
import HandS.FStr
import HandS.Zip
import HandS.Wide
import HandS.Sort
import HandS.Lambda
import HandS.EndTab
import KE.DataCmp
import KE.SortUse
import HandS.Deep
import PyProof.Rows.RuleB_pow
import HandS.Comp
import HandS.Iter
import KE.SortData
import PyProof.StrBlock2
import PyProof.CallFns
import PySem.Challenge.RW_leastnet_k77_words_vectors_fractions_as

section
set_option Elab.async false
set_option linter.all false
set_option maxRecDepth 100000
set_option maxHeartbeats 4000000
/-! The layer D: data of Python as PyData; a value at a heap tells data; expressions, tests, statements by pure functions of the slots' data. -/
namespace D
open PySem L2

abbrev Frag := PySem.W.Frag

/-! ### data at a heap -/
def Ex (H H' : Hp) : Prop := ∀ a o, H a = some o → H' a = some o
theorem Ex.refl (H : Hp) : Ex H H := fun _ _ h => h
theorem Ex.trans {H H1 H2 : Hp} (a : Ex H H1) (b : Ex H1 H2) : Ex H H2 := fun x o h => b x o (a x o h)
theorem Ex.new {H : Hp} {p : Addr} {o : HO} (h : H p = none) : Ex H (upd H p o) := fun a u e => by
  rw [upd_ne (ne_of_none e h)]
  exact e
theorem Ex.seqL {K : Frag} {H H' : Hp} {a : Addr} {xs : List V} (e : Ex H H') (h : SqL K H a xs) : SqL K H' a xs := by
  rcases h with (h | ⟨o, h⟩) | h
  · exact .inl (.inl (e _ _ h))
  · exact .inl (.inr ⟨o, e _ _ h⟩)
  · exact .inr h
theorem Ex.seqT {K : Frag} {H H' : Hp} {a : Addr} {xs : List V} (e : Ex H H') (h : SqT K H a xs) : SqT K H' a xs := by
  rcases h with (h | ⟨o, h⟩) | h
  · exact .inl (.inl (e _ _ h))
  · exact .inl (.inr ⟨o, e _ _ h⟩)
  · exact .inr h

mutual
/-- the value v tells the data d -/
inductive Dr (K : Frag) (H : Hp) : V → PyData → Prop
  | non : Dr K H .non .none
  | bl (b : Bool) : Dr K H (.bl b) (.bool b)
  | int (i : Int) : Dr K H (.int i) (.int i)
  | str (x : Str) : Dr K H (.str x) (.str x)
  | lst {a : Addr} {xs : List V} {ds : List PyData} : SqL K H a xs → DrA K H xs ds → Dr K H (.ref a) (.list ds)
  | tup {a : Addr} {xs : List V} {ds : List PyData} : SqT K H a xs → DrA K H xs ds → Dr K H (.ref a) (.tuple ds)
  | dic0 {a : Addr} : H a = some (.dK []) → Dr K H (.ref a) (.dict [])
inductive DrA (K : Frag) (H : Hp) : List V → List PyData → Prop
  | nil : DrA K H [] []
  | cons {v : V} {vs : List V} {d : PyData} {ds : List PyData} : Dr K H v d → DrA K H vs ds → DrA K H (v :: vs) (d :: ds)
end
mutual
theorem Dr.mono {K : Frag} {H H' : Hp} (e : Ex H H') : ∀ {d : PyData} {v : V}, Dr K H v d → Dr K H' v d
  | .none, _, h => by cases h; exact .non
  | .bool b, _, h => by cases h; exact .bl b
  | .int i, _, h => by cases h; exact .int i
  | .str x, _, h => by cases h; exact .str x
  | .list ds, _, h => by
    cases h with
    | lst h1 h2 => exact .lst (e.seqL h1) (DrA.mono e h2)
  | .tuple ds, _, h => by
    cases h with
    | tup h1 h2 => exact .tup (e.seqT h1) (DrA.mono e h2)
  | .dict ds, _, h => by
    cases h with
    | dic0 h1 => exact .dic0 (e _ _ h1)
theorem DrA.mono {K : Frag} {H H' : Hp} (e : Ex H H') : ∀ {ds : List PyData} {vs : List V}, DrA K H vs ds → DrA K H' vs ds
  | [], _, h => by cases h; exact .nil
  | d :: ds, _, h => by
    cases h with
    | cons h1 h2 => exact .cons (Dr.mono e h1) (DrA.mono e h2)
end
theorem DrA.length {K : Frag} {H : Hp} : ∀ {vs : List V} {ds : List PyData}, DrA K H vs ds → vs.length = ds.length
  | _, _, .nil => rfl
  | _, _, .cons _ t => by rw [List.length_cons, List.length_cons, DrA.length t]
theorem DrA.get {K : Frag} {H : Hp} : ∀ {vs : List V} {ds : List PyData} {i : Nat} {d : PyData}, DrA K H vs ds → ds[i]? = some d → ∃ v, vs[i]? = some v ∧ Dr K H v d
  | _, _, _, _, .nil, e => by simp at e
  | _, _, 0, _, .cons r _, e => by simp at e; subst e; exact ⟨_, rfl, r⟩
  | _, _, i + 1, d, .cons _ t, e => by
    obtain ⟨u, h1, h2⟩ := DrA.get (i := i) (d := d) t (by simpa using e)
    exact ⟨u, by simpa using h1, h2⟩
theorem DrA.get' {K : Frag} {H : Hp} : ∀ {vs : List V} {ds : List PyData} {i : Nat} {v : V}, DrA K H vs ds → vs[i]? = some v → ∃ d, ds[i]? = some d ∧ Dr K H v d
  | _, _, _, _, .nil, e => by simp at e
  | _, _, 0, _, .cons r _, e => by simp at e; subst e; exact ⟨_, rfl, r⟩
  | _, _, i + 1, d, .cons _ t, e => by
    obtain ⟨u, h1, h2⟩ := DrA.get' (i := i) (v := d) t (by simpa using e)
    exact ⟨u, by simpa using h1, h2⟩
theorem DrA.append {K : Frag} {H : Hp} : ∀ {vs ws : List V} {ds es : List PyData}, DrA K H vs ds → DrA K H ws es → DrA K H (vs ++ ws) (ds ++ es)
  | _, _, _, _, .nil, q => q
  | _, _, _, _, .cons r t, q => .cons r (DrA.append t q)
theorem DrA.take {K : Frag} {H : Hp} : ∀ {vs : List V} {ds : List PyData} (n : Nat), DrA K H vs ds → DrA K H (vs.take n) (ds.take n)
  | _, _, 0, _ => .nil
  | _, _, _ + 1, .nil => .nil
  | _, _, n + 1, .cons r t => .cons r (DrA.take n t)
theorem DrA.drop {K : Frag} {H : Hp} : ∀ {vs : List V} {ds : List PyData} (n : Nat), DrA K H vs ds → DrA K H (vs.drop n) (ds.drop n)
  | _, _, 0, r => r
  | _, _, _ + 1, .nil => .nil
  | _, _, n + 1, .cons _ t => DrA.drop n t
theorem DrA.eraseIdx {K : Frag} {H : Hp} : ∀ {vs : List V} {ds : List PyData} (i : Nat), DrA K H vs ds → DrA K H (vs.eraseIdx i) (ds.eraseIdx i)
  | _, _, _, .nil => .nil
  | _, _, 0, .cons _ t => t
  | _, _, i + 1, .cons r t => .cons r (DrA.eraseIdx i t)
theorem DrA.set {K : Frag} {H : Hp} {v : V} {d : PyData} (q : Dr K H v d) : ∀ {vs : List V} {ds : List PyData} (i : Nat), DrA K H vs ds → DrA K H (vs.set i v) (ds.set i d)
  | _, _, _, .nil => .nil
  | _, _, 0, .cons _ t => .cons q t
  | _, _, i + 1, .cons r t => .cons r (DrA.set q i t)
theorem DrA.snoc {K : Frag} {H : Hp} {v : V} {d : PyData} {vs : List V} {ds : List PyData} (t : DrA K H vs ds) (q : Dr K H v d) : DrA K H (vs ++ [v]) (ds ++ [d]) := t.append (.cons q .nil)
theorem DrA.rep {K : Frag} {H : Hp} {vs : List V} {ds : List PyData} (t : DrA K H vs ds) : ∀ k : Nat, DrA K H (List.replicate k vs).flatten (List.replicate k ds).flatten
  | 0 => .nil
  | k + 1 => by
    rw [List.replicate_succ, List.replicate_succ, List.flatten_cons, List.flatten_cons]
    exact t.append (DrA.rep t k)
/-- ints, texts, truths in a list are their own data -/
theorem DrA.strs {K : Frag} {H : Hp} : ∀ {vs : List V} {xs : List Str}, DrA K H vs (xs.map PyData.str) → vs = xs.map V.str
  | _, [], h => by cases h; rfl
  | _, x :: xs, h => by
    cases h with
    | cons h1 h2 =>
      cases h1
      rw [List.map_cons, DrA.strs h2]
theorem DrA.ints {K : Frag} {H : Hp} : ∀ {vs : List V} {xs : List Int}, DrA K H vs (xs.map PyData.int) → vs = xs.map V.int
  | _, [], h => by cases h; rfl
  | _, x :: xs, h => by
    cases h with
    | cons h1 h2 =>
      cases h1
      rw [List.map_cons, DrA.ints h2]
theorem DrA.bls {K : Frag} {H : Hp} : ∀ {vs : List V} {xs : List Bool}, DrA K H vs (xs.map PyData.bool) → vs = xs.map V.bl
  | _, [], h => by cases h; rfl
  | _, x :: xs, h => by
    cases h with
    | cons h1 h2 =>
      cases h1
      rw [List.map_cons, DrA.bls h2]
theorem DrA.ofStrs {K : Frag} {H : Hp} : ∀ xs : List Str, DrA K H (xs.map V.str) (xs.map PyData.str)
  | [] => .nil
  | x :: xs => .cons (.str x) (DrA.ofStrs xs)
theorem DrA.ofInts {K : Frag} {H : Hp} : ∀ xs : List Int, DrA K H (xs.map V.int) (xs.map PyData.int)
  | [] => .nil
  | x :: xs => .cons (.int x) (DrA.ofInts xs)

/-! ### hidden addresses: lists that may change -/
def hid (h : List Addr) (H : Hp) : Hp := fun a => if a ∈ h then none else match H a with
  | some (.tbl _) => none
  | o => o
theorem hid_some {h : List Addr} {H : Hp} {a : Addr} {o : HO} (e : hid h H a = some o) : a ∉ h ∧ H a = some o ∧ ∀ ps, o ≠ .tbl ps := by
  unfold hid at e
  split at e
  · cases e
  · rename_i n
    refine ⟨n, ?_⟩
    split at e
    · cases e
    · rename_i z
      exact ⟨e, fun ps q => z ps (by rw [← q]; exact e)⟩
theorem hid_mk {h : List Addr} {H : Hp} {a : Addr} {o : HO} (n : a ∉ h) (e : H a = some o) (z : ∀ ps, o ≠ .tbl ps) : hid h H a = some o := by
  unfold hid
  rw [if_neg n]
  split
  · rename_i q
    rw [e] at q
    exact absurd (Option.some.inj q) (z _)
  · exact e
theorem hid_le (h : List Addr) (H : Hp) : Ex (hid h H) H := fun a o e => (hid_some e).2.1
theorem hid_in {h : List Addr} {H : Hp} {a : Addr} (n : a ∈ h) : hid h H a = none := if_pos n
theorem Ex.hid {h : List Addr} {H H' : Hp} (e : Ex H H') : Ex (hid h H) (hid h H') := fun a o q => by
  obtain ⟨h1, h2, h3⟩ := hid_some q
  exact hid_mk h1 (e a o h2) h3
def Dom (h : List Addr) (H : Hp) : Prop := ∀ a ∈ h, ∃ xs, H a = some (.lst xs)
theorem Dom.mono {h : List Addr} {H H' : Hp} (d : Dom h H) (e : Ex H H') : Dom h H' := fun a m => by
  obtain ⟨xs, q⟩ := d a m
  exact ⟨xs, e a _ q⟩
theorem Dom.out {h : List Addr} {H : Hp} {p : Addr} (d : Dom h H) (n : H p = none) : p ∉ h := fun m => by
  obtain ⟨xs, q⟩ := d p m
  rw [n] at q
  cases q
/-- nothing stands at p (but perhaps a table, where tables are tracked) -/
def Nw (T : List (Addr × Str)) (H : Hp) (p : Addr) : Prop := ∀ o, H p = some o → T ≠ [] ∧ ∃ ps, o = .tbl ps
theorem Nw.of {T : List (Addr × Str)} {H : Hp} {p : Addr} (n : H p = none) : Nw T H p := fun o q => by rw [n] at q; cases q
theorem Nw.none {H : Hp} {p : Addr} (n : Nw [] H p) : H p = none := by
  cases q : H p with
  | none => rfl
  | some o => exact absurd rfl (n o q).1
theorem Nw.hid {T : List (Addr × Str)} {h : List Addr} {H : Hp} {p a : Addr} {o : HO} (n : Nw T H p) (q : hid h H a = some o) : a ≠ p := fun z => by
  obtain ⟨h1, h2, h3⟩ := hid_some q
  rw [z] at h2
  obtain ⟨_, ps, e⟩ := n o h2
  exact h3 ps e
theorem Dom.nw {T : List (Addr × Str)} {h : List Addr} {H : Hp} {p : Addr} (d : Dom h H) (n : Nw T H p) : p ∉ h := fun m => by
  obtain ⟨xs, q⟩ := d p m
  obtain ⟨_, ps, e⟩ := n _ q
  cases e

/-- what an expression tells: data that will not change, or a list of the frame's own as it stands now -/
def Dv (K : Frag) (h : List Addr) (H : Hp) (v : V) (d : PyData) : Prop :=
  Dr K (hid h H) v d ∨ ∃ (p : Addr) (vs : List V) (l : List PyData), v = .ref p ∧ d = .list l ∧ H p = some (.lst vs) ∧ DrA K (hid h H) vs l
theorem Dv.mono {K : Frag} {h : List Addr} {H H' : Hp} {v : V} {d : PyData} (x : Dv K h H v d) (e : Ex H H') : Dv K h H' v d := by
  rcases x with x | ⟨p, vs, l, rfl, rfl, h1, h2⟩
  · exact .inl (x.mono e.hid)
  · exact .inr ⟨p, vs, l, rfl, rfl, e _ _ h1, h2.mono e.hid⟩
theorem Dv.list {K : Frag} {h : List Addr} {H : Hp} {v : V} {l : List PyData} (x : Dv K h H v (.list l)) : ∃ p vs, v = .ref p ∧ SqL K H p vs ∧ DrA K (hid h H) vs l := by
  rcases x with x | ⟨p, vs, l', rfl, e, h1, h2⟩
  · cases x with
    | lst h1 h2 => exact ⟨_, _, rfl, (hid_le h H).seqL h1, h2⟩
  · cases e
    exact ⟨p, vs, rfl, SqL.of h1, h2⟩
theorem Dv.tuple {K : Frag} {h : List Addr} {H : Hp} {v : V} {l : List PyData} (x : Dv K h H v (.tuple l)) : ∃ p vs, v = .ref p ∧ SqT K H p vs ∧ DrA K (hid h H) vs l := by
  rcases x with x | ⟨p, vs, l', rfl, e, h1, h2⟩
  · cases x with
    | tup h1 h2 => exact ⟨_, _, rfl, (hid_le h H).seqT h1, h2⟩
  · cases e
theorem Dv.int {K : Frag} {h : List Addr} {H : Hp} {v : V} {i : Int} (x : Dv K h H v (.int i)) : v = .int i := by
  rcases x with x | ⟨p, vs, l', rfl, e, h1, h2⟩
  · cases x; rfl
  · cases e
theorem Dv.str {K : Frag} {h : List Addr} {H : Hp} {v : V} {i : Str} (x : Dv K h H v (.str i)) : v = .str i := by
  rcases x with x | ⟨p, vs, l', rfl, e, h1, h2⟩
  · cases x; rfl
  · cases e
theorem Dv.bool {K : Frag} {h : List Addr} {H : Hp} {v : V} {i : Bool} (x : Dv K h H v (.bool i)) : v = .bl i := by
  rcases x with x | ⟨p, vs, l', rfl, e, h1, h2⟩
  · cases x; rfl
  · cases e
theorem Dv.none {K : Frag} {h : List Addr} {H : Hp} {v : V} (x : Dv K h H v .none) : v = .non := by
  rcases x with x | ⟨p, vs, l', rfl, e, h1, h2⟩
  · cases x; rfl
  · cases e
theorem Dv.dr {K : Frag} {h : List Addr} {H : Hp} {v : V} {d : PyData} (x : Dv K h H v d) : Dr K H v d := by
  rcases x with x | ⟨p, vs, l', rfl, e, h1, h2⟩
  · exact x.mono (hid_le h H)
  · subst e
    exact .lst (SqL.of h1) (h2.mono (hid_le h H))

/-! ### results -/
inductive Res (α : Type) where
  | stuck
  | err (e : Str)
  | ok (a : α)
def Res.bind {α β : Type} (r : Res α) (f : α → Res β) : Res β := match r with
  | .stuck => .stuck
  | .err e => .err e
  | .ok a => f a
def ofO {α : Type} : Option α → Res α
  | none => .stuck
  | some a => .ok a

/-- what a slot holds: nothing known, data, a list of the frame's own -/
inductive Itm where
  | un
  | dat (d : PyData)
  | own (l : List PyData)
abbrev Rho := List Itm

structure Enr (K : Frag) (h : List Addr) (H : Hp) (σ : St) (ρ : Rho) : Prop where
  dom : Dom h H
  len : σ.length = ρ.length
  slot : ∀ (i : Nat) (d : PyData), ρ[i]? = some (.dat d) → ∃ v, σ[i]? = some (some v) ∧ Dr K (hid h H) v d
  own : ∀ (i : Nat) (l : List PyData), ρ[i]? = some (.own l) → ∃ p vs, σ[i]? = some (some (.ref p)) ∧ p ∈ h ∧ H p = some (.lst vs) ∧ DrA K (hid h H) vs l
  apart : ∀ (i j : Nat) (l l' : List PyData) (p : Addr), ρ[i]? = some (.own l) → ρ[j]? = some (.own l') → σ[i]? = some (some (.ref p)) → σ[j]? = some (some (.ref p)) → i = j
theorem Enr.mono {K : Frag} {h : List Addr} {H H' : Hp} {σ : St} {ρ : Rho} (E : Enr K h H σ ρ) (e : Ex H H') : Enr K h H' σ ρ where
  dom := E.dom.mono e
  len := E.len
  slot := fun i d q => by
    obtain ⟨v, h1, h2⟩ := E.slot i d q
    exact ⟨v, h1, h2.mono e.hid⟩
  own := fun i l q => by
    obtain ⟨p, vs, h1, h2, h3, h4⟩ := E.own i l q
    exact ⟨p, vs, h1, h2, e _ _ h3, h4.mono e.hid⟩
  apart := E.apart

/-! ### what is asked behind an expression -/
abbrev Wk := Value → Option Addr → Hp → Prop
def Po (K : Frag) (mg : Str → Option Value) (W : Wk) (h : List Addr) (H : Hp) (r : Res PyData) (Q : VK) : Prop := match r with
  | .stuck => False
  | .err e => ∀ C H', mg e = some (.ref C) → Ex H H' → W (.ref C) none H'
  | .ok d => ∀ v H', Ex H H' → Dr K (hid h H') v d → Q v H'
def PoV (K : Frag) (mg : Str → Option Value) (W : Wk) (h : List Addr) (H : Hp) (r : Res PyData) (Q : VK) : Prop := match r with
  | .stuck => False
  | .err e => ∀ C H', mg e = some (.ref C) → Ex H H' → W (.ref C) none H'
  | .ok d => ∀ v H', Ex H H' → Dv K h H' v d → Q v H'
def PoA (K : Frag) (mg : Str → Option Value) (W : Wk) (h : List Addr) (H : Hp) (r : Res (List PyData)) (Q : List V → Hp → Prop) : Prop := match r with
  | .stuck => False
  | .err e => ∀ C H', mg e = some (.ref C) → Ex H H' → W (.ref C) none H'
  | .ok ds => ∀ vs H', Ex H H' → DrA K (hid h H') vs ds → Q vs H'
def PoT (mg : Str → Option Value) (W : Wk) (H : Hp) (r : Res Bool) (Q : Bool → Hp → Prop) : Prop := match r with
  | .stuck => False
  | .err e => ∀ C H', mg e = some (.ref C) → Ex H H' → W (.ref C) none H'
  | .ok b => ∀ H', Ex H H' → Q b H'
section
variable {K : Frag} {mg : Str → Option Value} {W : Wk} {h : List Addr} {H H1 : Hp}
/-- later is easier -/
theorem Po.mono {r : Res PyData} {Q : VK} (p : Po K mg W h H r Q) (e : Ex H H1) : Po K mg W h H1 r Q := by
  cases r with
  | stuck => exact p
  | err x => exact fun C H' q z => p C H' q (e.trans z)
  | ok d => exact fun v H' z q => p v H' (e.trans z) q
theorem PoV.mono {r : Res PyData} {Q : VK} (p : PoV K mg W h H r Q) (e : Ex H H1) : PoV K mg W h H1 r Q := by
  cases r with
  | stuck => exact p
  | err x => exact fun C H' q z => p C H' q (e.trans z)
  | ok d => exact fun v H' z q => p v H' (e.trans z) q
theorem PoA.mono {r : Res (List PyData)} {Q : List V → Hp → Prop} (p : PoA K mg W h H r Q) (e : Ex H H1) : PoA K mg W h H1 r Q := by
  cases r with
  | stuck => exact p
  | err x => exact fun C H' q z => p C H' q (e.trans z)
  | ok d => exact fun v H' z q => p v H' (e.trans z) q
theorem PoT.mono {r : Res Bool} {Q : Bool → Hp → Prop} (p : PoT mg W H r Q) (e : Ex H H1) : PoT mg W H1 r Q := by
  cases r with
  | stuck => exact p
  | err x => exact fun C H' q z => p C H' q (e.trans z)
  | ok d => exact fun H' z => p H' (e.trans z)
end

/-! ### expressions, quiet ones: they change nothing that stood -/
abbrev DQ := Rho → Res PyData
abbrev DQs := Rho → Res (List PyData)
abbrev DT := Rho → Res Bool
/-- the wish at the slots σ -/
abbrev wAt (W : WX) (σ : St) : Wk := fun c d H => W c d σ H
def tD (X : Cx) (W : WX) (f : DQ) : TE := fun σ H Q => ∃ h ρ, Enr X.K h H σ ρ ∧ Po X.K X.mg (wAt W σ) h H (f ρ) Q
def tV (X : Cx) (W : WX) (f : DQ) : TE := fun σ H Q => ∃ h ρ, Enr X.K h H σ ρ ∧ PoV X.K X.mg (wAt W σ) h H (f ρ) Q
def tA (X : Cx) (W : WX) (f : DQs) : TA := fun σ H Q => ∃ h ρ, Enr X.K h H σ ρ ∧ PoA X.K X.mg (wAt W σ) h H (f ρ) Q
def tT (X : Cx) (W : WX) (f : DT) : TT := fun σ H Q => ∃ h ρ, Enr X.K h H σ ρ ∧ PoT X.mg (wAt W σ) H (f ρ) Q
abbrev PQ (X : Cx) (W : WX) (e : Expr) (f : DQ) : Prop := PE X e (tD X W f)
abbrev PV (X : Cx) (W : WX) (e : Expr) (f : DQ) : Prop := PE X e (tV X W f)
abbrev PQs (X : Cx) (W : WX) (es : List Expr) (f : DQs) : Prop := PA X es (tA X W f)
abbrev PB (X : Cx) (W : WX) (e : Expr) (f : DT) : Prop := PT X e (tT X W f)
abbrev PWB (X : Cx) (W : WX) (e : Expr) (f : DT) : Prop := PW X e (tT X W f)

theorem imp_e {X : Cx} {e : Expr} {t t' : TE} (p : PE X e t) (h : ∀ σ H Q, t' σ H Q → t σ H Q) : PE X e t' := ⟨fun pins s σ H Q I q => p.run pins s σ H Q I (h σ H Q q)⟩
theorem imp_t {X : Cx} {e : Expr} {t t' : TT} (p : PT X e t) (h : ∀ σ H Q, t' σ H Q → t σ H Q) : PT X e t' := ⟨fun pins s σ H Q I q => p.run pins s σ H Q I (h σ H Q q)⟩
theorem imp_w {X : Cx} {e : Expr} {t t' : TT} (p : PW X e t) (h : ∀ σ H Q, t' σ H Q → t σ H Q) : PW X e t' := ⟨fun wh pins s σ H Q I q => p.run wh pins s σ H Q I (h σ H Q q)⟩
theorem imp_a {X : Cx} {es : List Expr} {t t' : TA} (p : PA X es t) (h : ∀ σ H Q, t' σ H Q → t σ H Q) : PA X es t' := ⟨fun pos pins s σ H Q I q => p.run pos pins s σ H Q I (h σ H Q q)⟩
theorem imp_s {X : Cx} {st : Stmt} {t t' : TS} (p : PS X st t) (h : ∀ D σ H, t' D σ H → t D σ H) : PS X st t' := ⟨fun pins s σ H D I q => p.run pins s σ H D I (h D σ H q)⟩
theorem imp_ss {X : Cx} {st : List Stmt} {t t' : TS} (p : PSs X st t) (h : ∀ D σ H, t' D σ H → t D σ H) : PSs X st t' := ⟨fun pins s σ H D I q => p.run pins s σ H D I (h D σ H q)⟩

section
variable {X : Cx} {W : WX} {σ : St} {H : Hp} {h : List Addr} {ρ : Rho}
/-- run a part, then go on -/
theorem goV {f : DQ} {Q : VK} (E : Enr X.K h H σ ρ) (hs : f ρ ≠ .stuck) (he : ∀ x, f ρ = .err x → ∀ C H', X.mg x = some (.ref C) → Ex H H' → W (.ref C) none σ H')
    (k : ∀ d, f ρ = .ok d → ∀ v H1, Ex H H1 → Dv X.K h H1 v d → Q v H1) : tV X W f σ H Q := by
  refine ⟨h, ρ, E, ?_⟩
  cases q : f ρ with
  | stuck => exact absurd q hs
  | err x => exact he x q
  | ok d => exact k d q
theorem goD {f : DQ} {Q : VK} (E : Enr X.K h H σ ρ) (hs : f ρ ≠ .stuck) (he : ∀ x, f ρ = .err x → ∀ C H', X.mg x = some (.ref C) → Ex H H' → W (.ref C) none σ H')
    (k : ∀ d, f ρ = .ok d → ∀ v H1, Ex H H1 → Dr X.K (hid h H1) v d → Q v H1) : tD X W f σ H Q := by
  refine ⟨h, ρ, E, ?_⟩
  cases q : f ρ with
  | stuck => exact absurd q hs
  | err x => exact he x q
  | ok d => exact k d q
end
section
variable {X : Cx} {W : WX} {a b c : Expr} {es : List Expr} {f g k : DQ} {fs : DQs} {pos : Pos}
theorem vq (p : PQ X W a f) : PV X W a f := imp_e p fun σ H Q ⟨h, ρ, E, q⟩ => by
  refine ⟨h, ρ, E, ?_⟩
  revert q
  cases f ρ with
  | stuck => exact id
  | err x => exact id
  | ok d => exact fun q v H' e r => q v H' e (.inl r)

/-! ### names, constants -/
def dVar (i : Nat) : DQ := fun ρ => match ρ[i]? with
  | some (.dat d) => .ok d
  | _ => .stuck
def dOwn (i : Nat) : DQ := fun ρ => match ρ[i]? with
  | some (.own l) => .ok (.list l)
  | _ => .stuck
def dC (d : PyData) : DQ := fun _ => .ok d
theorem q_var (i : Nat) {x : Str} (hN : X.N[i]? = some x := by rfl) (hv : Vis X.env.scope x := by first | exact Or.inl rfl | exact Or.inr (Or.inl rfl) | exact Or.inr (Or.inr rfl)) (hd : (x == ("__debug__" : Str)) = false := by decide)
    (hcd : (x == ("__classdict__" : Str)) = false := by decide) : PQ X W (.Name x pos) (dVar i) := imp_e (pe_var hN hv hd hcd) fun σ H Q ⟨h, ρ, E, q⟩ => by
  unfold dVar at q
  cases e : ρ[i]? with
  | none => rw [e] at q; exact q.elim
  | some t =>
    rw [e] at q
    cases t with
    | un => exact q.elim
    | own l => exact q.elim
    | dat d =>
      obtain ⟨v, h1, h2⟩ := E.slot i d e
      exact ⟨v, h1, q v H (Ex.refl H) h2⟩
theorem v_own (i : Nat) {x : Str} (hN : X.N[i]? = some x := by rfl) (hv : Vis X.env.scope x := by first | exact Or.inl rfl | exact Or.inr (Or.inl rfl) | exact Or.inr (Or.inr rfl)) (hd : (x == ("__debug__" : Str)) = false := by decide)
    (hcd : (x == ("__classdict__" : Str)) = false := by decide) : PV X W (.Name x pos) (dOwn i) := imp_e (pe_var hN hv hd hcd) fun σ H Q ⟨h, ρ, E, q⟩ => by
  unfold dOwn at q
  cases e : ρ[i]? with
  | none => rw [e] at q; exact q.elim
  | some t =>
    rw [e] at q
    cases t with
    | un => exact q.elim
    | dat l => exact q.elim
    | own l =>
      obtain ⟨p, vs, h1, _, h3, h4⟩ := E.own i l e
      exact ⟨_, h1, q _ H (Ex.refl H) (.inr ⟨p, vs, l, rfl, rfl, h3, h4⟩)⟩
theorem q_int {i j} : PQ X W (.Constant (.int i) j pos) (dC (.int i)) := imp_e pe_int fun σ H Q ⟨h, ρ, E, q⟩ => q _ H (Ex.refl H) (.int i)
theorem q_bl {i j} : PQ X W (.Constant (.bool i) j pos) (dC (.bool i)) := imp_e pe_bl fun σ H Q ⟨h, ρ, E, q⟩ => q _ H (Ex.refl H) (.bl i)
theorem q_str {i j} : PQ X W (.Constant (.str i) j pos) (dC (.str i)) := imp_e pe_str fun σ H Q ⟨h, ρ, E, q⟩ => q _ H (Ex.refl H) (.str i)
theorem q_non {j} : PQ X W (.Constant .none j pos) (dC .none) := imp_e pe_non fun σ H Q ⟨h, ρ, E, q⟩ => q _ H (Ex.refl H) .non
/-- a module's constant -/
theorem q_gint {x : Str} {i : Int} (hm : ∃ t, X.mg x = some (.int i t)) (hg : Gl X x := by rfl) (hd : (x == ("__debug__" : Str)) = false := by decide) : PQ X W (.Name x pos) (dC (.int i)) := by
  obtain ⟨t, hm⟩ := hm
  exact imp_e (pe_glob (v := .int i) hg hm ⟨t, rfl⟩ hd) fun σ H Q ⟨h, ρ, E, q⟩ => q _ H (Ex.refl H) (.int i)
theorem q_gstr {x : Str} {i : Str} (hm : ∃ t, X.mg x = some (.str i t)) (hg : Gl X x := by rfl) (hd : (x == ("__debug__" : Str)) = false := by decide) : PQ X W (.Name x pos) (dC (.str i)) := by
  obtain ⟨t, hm⟩ := hm
  exact imp_e (pe_glob (v := .str i) hg hm ⟨t, rfl⟩ hd) fun σ H Q ⟨h, ρ, E, q⟩ => q _ H (Ex.refl H) (.str i)

/-! ### operators by data -/
/-- an operation on values keeps what it says of data -/
def OpS (K : Frag) (r : R2) (op : PyData → PyData → Option PyData) : Prop :=
  ∀ (h : List Addr) (H : Hp) (x y : V) (d e z : PyData) (Q : VK), Dom h H → Dv K h H x d → Dv K h H y e → op d e = some z → (∀ v H', Ex H H' → Dr K (hid h H') v z → Q v H') → r x y H Q
def dOp (op : PyData → PyData → Option PyData) (f g : DQ) : DQ := fun ρ => (f ρ).bind fun d => (g ρ).bind fun e => ofO (op d e)
theorem reads2 {r : R2} {op : PyData → PyData → Option PyData} (hs : OpS X.K r op) : ∀ σ H Q, tD X W (dOp op f g) σ H Q → tOp r (tV X W f) (tV X W g) σ H Q := fun σ H Q ⟨h, ρ, E, q⟩ => by
  unfold dOp at q
  refine ⟨h, ρ, E, ?_⟩
  cases e1 : f ρ with
  | stuck => rw [e1] at q; exact q
  | err x => rw [e1] at q; exact q
  | ok d =>
    rw [e1] at q
    refine fun v H1 x1 r1 => ⟨h, ρ, E.mono x1, ?_⟩
    cases e2 : g ρ with
    | stuck => simp only [Res.bind, e2] at q; exact q
    | err x => simp only [Res.bind, e2] at q; exact fun C H' m z => q C H' m (x1.trans z)
    | ok e =>
      refine fun u H2 x2 r2 => ?_
      simp only [Res.bind, e2] at q
      cases e3 : op d e with
      | none => rw [e3] at q; exact q.elim
      | some z =>
        rw [e3] at q
        exact hs h H2 v u d e z Q (E.dom.mono (x1.trans x2)) (r1.mono x2) r2 e3 fun v' H' x' r' => q v' H' ((x1.trans x2).trans x') r'
theorem q_op {op : Operator} {r : R2} {o : PyData → PyData → Option PyData} (hs : OpS X.K r o) (ho : OpR X (binaryOp op) r) (ha : PV X W a f) (hb : PV X W b g) : PQ X W (.BinOp a op b pos) (dOp o f g) :=
  imp_e (pe_op ho ha hb) (reads2 hs)
theorem q_cmp {op : CmpOp} {r : R2} {o : PyData → PyData → Option PyData} (hs : OpS X.K r o) (ho : OpR X (compareOp op) r) (ha : PV X W a f) (hb : PV X W b g) (hm : behindInMarks op b = false := by first | exact nomark _ | rfl) :
    PQ X W (.Compare a [op] [b] pos) (dOp o f g) := imp_e (pe_cmpR ho ha hb hm) (reads2 hs)
theorem q_ix {r : R2} {o : PyData → PyData → Option PyData} (hs : OpS X.K r o) (hr : IxR X r) (ha : PV X W a f) (hb : PV X W b g) (hp : PlainIx b := by exact fun _ _ => rfl) : PQ X W (.Subscript a b pos) (dOp o f g) :=
  imp_e (pe_ix hr ha hb hp) (reads2 hs)
end
end D
end

section
set_option Elab.async false
set_option linter.all false
set_option maxRecDepth 100000
set_option maxHeartbeats 4000000
namespace D
open PySem L2

/-! ### data as the library reads it -/
mutual
theorem Dr.dp {K : Frag} {H : Hp} : ∀ {d : PyData} {v : V}, Dr K H v d → d.canLay0 = true → Dp K H v d
  | .none, _, h, _ => by cases h; exact .non
  | .bool b, _, h, _ => by cases h; exact .bl b
  | .int i, _, h, _ => by cases h; exact .int i
  | .str x, _, h, _ => by cases h; exact .str x
  | .list ds, _, h, c => by
    cases h with
    | lst h1 h2 => exact .lst h1 (DrA.dp h2 (by simpa [PyData.canLay0] using c))
  | .tuple ds, _, h, c => by
    cases h with
    | tup h1 h2 => exact .tup h1 (DrA.dp h2 (by simpa [PyData.canLay0] using c))
  | .dict ds, _, h, c => by simp [PyData.canLay0] at c
theorem DrA.dp {K : Frag} {H : Hp} : ∀ {ds : List PyData} {vs : List V}, DrA K H vs ds → PyData.canLayAll0 ds = true → DpAll K H vs ds
  | [], _, h, _ => by cases h; exact .nil
  | d :: ds, _, h, c => by
    have c' : d.canLay0 = true ∧ PyData.canLayAll0 ds = true := by simpa [PyData.canLayAll0] using c
    cases h with
    | cons h1 h2 => exact .cons (Dr.dp h1 c'.1) (DrA.dp h2 c'.2)
end

section
variable {K : Frag} {h : List Addr} {H : Hp} {x y : V} {Q : VK}
/-- a new object that no list of the frame's own is -/
theorem new_hid {p : Addr} {o : HO} (d : Dom h H) (n : H p = none) (z : ∀ ps, o ≠ .tbl ps) : hid h (upd H p o) p = some o := hid_mk (d.out n) upd_same z
theorem new_tup {p : Addr} {vs : List V} {ds : List PyData} (d : Dom h H) (n : H p = none) (r : DrA K (hid h H) vs ds) : Dr K (hid h (upd H p (.tup vs))) (.ref p) (.tuple ds) :=
  .tup (SqT.of (new_hid d n fun _ z => nomatch z)) (r.mono (Ex.new n).hid)
theorem new_lst {p : Addr} {vs : List V} {ds : List PyData} (d : Dom h H) (n : H p = none) (r : DrA K (hid h H) vs ds) : Dr K (hid h (upd H p (.lst vs))) (.ref p) (.list ds) :=
  .lst (SqL.of (new_hid d n fun _ z => nomatch z)) (r.mono (Ex.new n).hid)

/-! ### + - * // % ** -/
theorem op_catL {X : Cx} : OpR X (binaryOp .Add) (fun x y H Q => ∃ l b xs zs, x = .ref l ∧ y = .ref b ∧ SqL X.K H l xs ∧ SqL X.K H b zs ∧ xs.length + zs.length ≤ sizeLine ∧ ∀ p, H p = none → Q (.ref p) (upd H p (.lst (xs ++ zs)))) := by
  intro pins s σ H x y v u Q I rx ry hh
  obtain ⟨l, b, xs, zs, rfl, rfl, hH, hB, hz, q⟩ := hh
  cases rx
  cases ry
  obtain ⟨its, r, pl, _⟩ := I.list hH
  obtain ⟨its2, r2, pl2, _⟩ := I.list hB
  obtain ⟨⟨cls, dd, data, sl⟩, ho, hc, n, hd⟩ := id pl.isList
  obtain ⟨⟨cls2, dd2, data2, sl2⟩, ho2, hc2, n2, hd2⟩ := id pl2.isList
  simp only at hc hd hc2 hd2
  subst hc hd hc2 hd2
  have hl := r.length
  have hl2 := r2.length
  have e : its.toArray ++ its2.toArray = (its ++ its2).toArray := by simp
  refine concat_meets ⟨_, ho, rfl⟩ ⟨_, ho2, rfl⟩ PySem.noFill_list_add PySem.seq_list_add PySem.F.slot_list_add PySem.F.entry_list_add (PySem.F.args_list_add_2 _ _) (PyProof.Rows.list_addW l b its.toArray its2.toArray n n2 dd dd2 sl sl2 (by rw [List.size_toArray, List.size_toArray]; omega)) ⟨ho, ho2, ?_⟩
  rw [e]
  exact ⟨.ref _, _, I.lnew (t' := s.toks) (r.append r2) (by rw [List.length_append]; omega), rfl, q _ I.fresh⟩
def oAdd : PyData → PyData → Option PyData
  | .int i, .int j => some (.int (i + j))
  | .str i, .str j => if i.length + j.length ≤ sizeLine then some (.str (i ++ j)) else none
  | .tuple i, .tuple j => if i.length + j.length ≤ sizeLine then some (.tuple (i ++ j)) else none
  | .list i, .list j => if i.length + j.length ≤ sizeLine then some (.list (i ++ j)) else none
  | _, _ => none
def rAddAll (K : Frag) : R2 := fun x y H Q => (∃ i j, x = .int i ∧ y = .int j ∧ Q (.int (i + j)) H) ∨ (∃ i j, x = .str i ∧ y = .str j ∧ i.length + j.length ≤ sizeLine ∧ Q (.str (i ++ j)) H) ∨ rCatA K x y H Q ∨
  (∃ l b xs zs, x = .ref l ∧ y = .ref b ∧ SqL K H l xs ∧ SqL K H b zs ∧ xs.length + zs.length ≤ sizeLine ∧ ∀ p, H p = none → Q (.ref p) (upd H p (.lst (xs ++ zs))))
theorem op_addAll {X : Cx} : OpR X (binaryOp .Add) (rAddAll X.K) := op_add.or (op_add_str.or (op_catA.or op_catL))
theorem s_add : OpS K (rAddAll K) oAdd := fun h H x y d e z Q dm rx ry hz k => by
  unfold oAdd at hz
  split at hz
  · cases hz
    rw [rx.int, ry.int]
    exact .inl ⟨_, _, rfl, rfl, k _ H (Ex.refl H) (.int _)⟩
  · split at hz
    · cases hz
      rename_i hl
      rw [rx.str, ry.str]
      exact .inr (.inl ⟨_, _, rfl, rfl, hl, k _ H (Ex.refl H) (.str _)⟩)
    · cases hz
  · split at hz
    · cases hz
      rename_i i j hl
      obtain ⟨p, vs, rfl, hs, r⟩ := rx.tuple
      obtain ⟨p', vs', rfl, hs', r'⟩ := ry.tuple
      have l1 := r.length
      have l2 := r'.length
      refine .inr (.inr (.inl ⟨p, p', vs, vs', rfl, rfl, hs, hs', by omega, fun e => ?_, fun e1 e2 => ?_, fun _ _ q nq => ?_⟩))
      · subst e
        cases r
        rcases ry with ry | ⟨_, _, _, _, e, _⟩
        · exact k _ H (Ex.refl H) ry
        · cases e
      · subst e2
        cases r'
        rw [List.append_nil] at k
        rcases rx with rx | ⟨_, _, _, _, e, _⟩
        · exact k _ H (Ex.refl H) rx
        · cases e
      · exact k _ _ (Ex.new nq) (new_tup dm nq (r.append r'))
    · cases hz
  · split at hz
    · cases hz
      rename_i i j hl
      obtain ⟨p, vs, rfl, hs, r⟩ := rx.list
      obtain ⟨p', vs', rfl, hs', r'⟩ := ry.list
      have l1 := r.length
      have l2 := r'.length
      exact .inr (.inr (.inr ⟨p, p', vs, vs', rfl, rfl, hs, hs', by omega, fun q nq => k _ _ (Ex.new nq) (new_lst dm nq (r.append r'))⟩))
    · cases hz
  · cases hz
def oInt (C : Int → Int → Bool) (g : Int → Int → Int) : PyData → PyData → Option PyData
  | .int i, .int j => if C i j = true then some (.int (g i j)) else none
  | _, _ => none
theorem s_int {C : Int → Int → Bool} {C' : Int → Int → Prop} {g : Int → Int → Int} (hC : ∀ i j, C i j = true → C' i j) : OpS K (rI C' fun i j => .int (g i j)) (oInt C g) := fun h H x y d e z Q dm rx ry hz k => by
  unfold oInt at hz
  split at hz
  · split at hz
    · cases hz
      rename_i hc
      rw [rx.int, ry.int]
      exact ⟨_, _, rfl, rfl, hC _ _ hc, k _ H (Ex.refl H) (.int _)⟩
    · cases hz
  · cases hz
def oSub : PyData → PyData → Option PyData
  | .int i, .int j => some (.int (i - j))
  | _, _ => none
theorem s_sub : OpS K (rI0 fun i j => .int (i - j)) oSub := fun h H x y d e z Q dm rx ry hz k => by
  unfold oSub at hz
  split at hz
  · cases hz
    rw [rx.int, ry.int]
    exact ⟨_, _, rfl, rfl, k _ H (Ex.refl H) (.int _)⟩
  · cases hz
/-- // by a positive divisor below 2 ^ 9000 -/
def oFDiv := oInt (fun _ j => decide (0 < j ∧ j.natAbs.log2 < 9000)) (fun i j => i / j)
theorem s_fdiv : OpS K (rI CDivW fun i j => .int (i / j)) oFDiv := s_int fun i j h => ⟨(of_decide_eq_true h).1, (of_decide_eq_true h).2⟩
def oMod := oInt (fun _ j => decide (0 < j)) (fun i j => i % j)
theorem s_mod : OpS K (rI (fun _ j => 0 < j) fun i j => .int (i % j)) oMod := s_int fun i j h => of_decide_eq_true h
theorem op_powG {X : Cx} : OpR X (binaryOp .Pow) (rI (fun i j => 0 ≤ j ∧ (Builtin.Int.intBits i : Int) * j ≤ 2 ^ 27) fun i j => .int (i ^ j.toNat)) := opI fun _ _ _ _ _ _ _ hc q => PyProof.Rows.pow_int hc.1 hc.2 q
def oPow := oInt (fun i j => decide (0 ≤ j ∧ (Builtin.Int.intBits i : Int) * j ≤ 2 ^ 27)) (fun i j => i ^ j.toNat)
theorem s_pow : OpS K (rI (fun i j => 0 ≤ j ∧ (Builtin.Int.intBits i : Int) * j ≤ 2 ^ 27) fun i j => .int (i ^ j.toNat)) oPow := s_int fun i j h => of_decide_eq_true h

/-! ### comparisons -/
def oEq (d e : PyData) : Option PyData := if SeqAt.shaped d = true ∧ SeqAt.shaped e = true then some (.bool (PyData.eqv d e)) else none
def oNe (d e : PyData) : Option PyData := if SeqAt.shaped d = true ∧ SeqAt.shaped e = true then some (.bool (!PyData.eqv d e)) else none
theorem s_eq : OpS K (rEqD K) oEq := fun h H x y d e z Q dm rx ry hz k => by
  unfold oEq at hz
  split at hz
  · cases hz
    rename_i hs
    exact ⟨d, e, rx.dr.dp (SeqAt.canLay_of_shaped hs.1), ry.dr.dp (SeqAt.canLay_of_shaped hs.2), hs.1, hs.2, k _ H (Ex.refl H) (.bl _)⟩
  · cases hz
theorem s_ne : OpS K (rNeD K) oNe := fun h H x y d e z Q dm rx ry hz k => by
  unfold oNe at hz
  split at hz
  · cases hz
    rename_i hs
    exact ⟨d, e, rx.dr.dp (SeqAt.canLay_of_shaped hs.1), ry.dr.dp (SeqAt.canLay_of_shaped hs.2), hs.1, hs.2, k _ H (Ex.refl H) (.bl _)⟩
  · cases hz
/-- two data that < can compare -/
def cmpable (d e : PyData) : Bool := PySem.W.alike d e && SeqAt.shaped d && SeqAt.shaped e && (match d with | .none => false | _ => true)
theorem cmpable_is {d e : PyData} (h : cmpable d e = true) : PySem.W.alike d e = true ∧ SeqAt.shaped d = true ∧ SeqAt.shaped e = true ∧ d ≠ .none := by
  unfold cmpable at h
  simp only [Bool.and_eq_true] at h
  obtain ⟨⟨⟨h1, h2⟩, h3⟩, h4⟩ := h
  exact ⟨h1, h2, h3, fun z => by subst z; cases h4⟩
def rCmpD (K : Frag) (g : PyData → PyData → Bool) : R2 := fun x y H Q => ∃ d e, Dp K H x d ∧ Dp K H y e ∧ cmpable d e = true ∧ Q (.bl (g d e)) H
theorem op_cmpD {X : Cx} {op : CmpOp} {g : PyData → PyData → Bool}
    (rule : ∀ (s : Shared) (a b : Value) (da db : PyData) (as bs : List Addr) (Q : Value → Shared → Prop), Reads s.heap a da as → Reads s.heap b db bs → PySem.W.alike da db = true → da ≠ .none → X.A.units + min da.depth db.depth < cLine → Q (.bool (g da db)) s →
      wpAny (model X.prog X.w) X.A (compareOp op a b) Q X.xe s) (hu : X.A.units + 64 < cLine) : OpR X (compareOp op) (rCmpD X.K g) := by
  intro pins s σ H x y v u Q I rx ry hh
  obtain ⟨d, e, hd, he, hc, q⟩ := hh
  obtain ⟨h1, h2, h3, h4⟩ := cmpable_is hc
  obtain ⟨as, r1⟩ := Dp.reads I d x v hd rx
  obtain ⟨bs, r2⟩ := Dp.reads I e y u he ry
  have hdp := SeqAt.depth_of_shaped h2
  exact rule s v u d e as bs _ r1 r2 h1 h4 (by omega) ⟨.bl _, H, I, rfl, q⟩
theorem op_ltD {X : Cx} (hu : X.A.units + 64 < cLine) : OpR X (compareOp .Lt) (rCmpD X.K fun d e => PySem.W.dataLt d e) := op_cmpD (fun s a b da db as bs Q r1 r2 h1 h2 h3 q => PySem.W.lt_data r1 r2 h1 h2 h3 q) hu
theorem op_gtD {X : Cx} (hu : X.A.units + 64 < cLine) : OpR X (compareOp .Gt) (rCmpD X.K fun d e => PySem.W.dataLt e d) := op_cmpD (fun s a b da db as bs Q r1 r2 h1 h2 h3 q => PySem.W.gt_data r1 r2 h1 h2 h3 q) hu
theorem op_leD {X : Cx} (hu : X.A.units + 64 < cLine) : OpR X (compareOp .LtE) (rCmpD X.K fun d e => !PySem.W.dataLt e d) := op_cmpD (fun s a b da db as bs Q r1 r2 h1 h2 h3 q => PySem.W.le_data r1 r2 h1 h2 h3 q) hu
theorem op_geD {X : Cx} (hu : X.A.units + 64 < cLine) : OpR X (compareOp .GtE) (rCmpD X.K fun d e => !PySem.W.dataLt d e) := op_cmpD (fun s a b da db as bs Q r1 r2 h1 h2 h3 q => PySem.W.ge_data r1 r2 h1 h2 h3 q) hu
def oCmp (gi : Int → Int → Bool) (g : PyData → PyData → Bool) (d e : PyData) : Option PyData := match d, e with
  | .int i, .int j => some (.bool (gi i j))
  | d, e => if cmpable d e = true then some (.bool (g d e)) else none
theorem s_cmp {gi : Int → Int → Bool} {g : PyData → PyData → Bool} (hg : ∀ i j, g (.int i) (.int j) = gi i j) : OpS K (rCmpD K g) (oCmp gi g) := fun h H x y d e z Q dm rx ry hz k => by
  unfold oCmp at hz
  split at hz
  · cases hz
    rename_i i j
    have hs : cmpable (.int i) (.int j) = true := by simp [cmpable, PySem.W.alike, SeqAt.shaped, PyData.canLay0, PyData.depth]
    refine ⟨_, _, rx.dr.dp rfl, ry.dr.dp rfl, hs, ?_⟩
    rw [hg]
    exact k _ H (Ex.refl H) (.bl _)
  · split at hz
    · cases hz
      rename_i hc
      obtain ⟨h1, h2, h3, h4⟩ := cmpable_is hc
      exact ⟨_, _, rx.dr.dp (SeqAt.canLay_of_shaped h2), ry.dr.dp (SeqAt.canLay_of_shaped h3), hc, k _ H (Ex.refl H) (.bl _)⟩
    · cases hz
def oLt := oCmp (fun i j => decide (i < j)) (fun d e => PySem.W.dataLt d e)
def oGt := oCmp (fun i j => decide (j < i)) (fun d e => PySem.W.dataLt e d)
def oLe := oCmp (fun i j => decide (i ≤ j)) (fun d e => !PySem.W.dataLt e d)
def oGe := oCmp (fun i j => decide (j ≤ i)) (fun d e => !PySem.W.dataLt d e)
theorem nlt (i j : Int) : (!decide (j < i)) = decide (i ≤ j) := by
  by_cases h : i ≤ j
  · rw [decide_eq_true h, decide_eq_false (by omega)]; rfl
  · rw [decide_eq_false h, decide_eq_true (by omega)]; rfl
theorem s_lt : OpS K (rCmpD K fun d e => PySem.W.dataLt d e) oLt := s_cmp fun i j => PySem.W.dataLt_int i j
theorem s_gt : OpS K (rCmpD K fun d e => PySem.W.dataLt e d) oGt := s_cmp fun i j => PySem.W.dataLt_int j i
theorem s_le : OpS K (rCmpD K fun d e => !PySem.W.dataLt e d) oLe := s_cmp fun i j => by rw [PySem.W.dataLt_int, nlt]
theorem s_ge : OpS K (rCmpD K fun d e => !PySem.W.dataLt d e) oGe := s_cmp fun i j => by rw [PySem.W.dataLt_int, nlt]

/-! ### in, not in -/
def flatP : PyData → Bool
  | .none | .bool _ | .int _ | .str _ => true
  | _ => false
theorem flat_of {v : V} {d : PyData} (r : Dr K H v d) (f : flatP d = true) : flatV v = true := by
  cases r <;> first | rfl | cases f
theorem eqV_of {v w : V} {d e : PyData} (r : Dr K H v d) (q : Dr K H w e) (f : flatP d = true) (g : flatP e = true) : eqV v w = PyData.eqv d e := by
  cases r <;> cases q <;> first | rfl | cases f | cases g | (simp [eqV, PyData.eqv]; done)
theorem allFlat_of : ∀ {vs : List V} {ds : List PyData}, DrA K H vs ds → ds.all flatP = true → vs.all flatV = true
  | _, _, .nil, _ => rfl
  | _, _, .cons r t, f => by
    rw [List.all_cons, Bool.and_eq_true] at f ⊢
    exact ⟨flat_of r f.1, allFlat_of t f.2⟩
theorem inV_of {v : V} {d : PyData} (r : Dr K H v d) (f : flatP d = true) : ∀ {vs : List V} {ds : List PyData}, DrA K H vs ds → ds.all flatP = true → inV v vs = ds.any fun z => PyData.eqv z d
  | _, _, .nil, _ => rfl
  | _, _, .cons (v := w) (vs := ws) q t, g => by
    rw [List.all_cons, Bool.and_eq_true] at g
    have ih := inV_of r f t g.2
    unfold inV at ih ⊢
    rw [List.any_cons, List.any_cons, ih, eqV_of q r g.1 f]
/-- whether data stand in a list or a tuple of flat data; whether a sign stands in a text -/
def inP (d e : PyData) : Option Bool := match e with
  | .list ds => if flatP d = true ∧ ds.all flatP = true then some (ds.any fun z => PyData.eqv z d) else none
  | .tuple ds => if flatP d = true ∧ ds.all flatP = true then some (ds.any fun z => PyData.eqv z d) else none
  | .str z => (match d with
    | .str ⟨⟨[c]⟩⟩ => some (decide (c ∈ z.cps.toList))
    | _ => none)
  | _ => none
def oIn (d e : PyData) : Option PyData := (inP d e).map .bool
def oNotIn (d e : PyData) : Option PyData := (inP d e).map fun b => .bool (!b)
def rInAll (K : Frag) (neg : Bool) : R2 := fun x y H Q => rIn K neg x y H Q ∨ ∃ (c : Nat) (z : Str), x = .str ⟨#[c]⟩ ∧ y = .str z ∧ Q (.bl (if neg then !decide (c ∈ z.cps.toList) else decide (c ∈ z.cps.toList))) H
theorem op_inAll {X : Cx} : OpR X (compareOp .In) (rInAll X.K false) := op_in_seq.or op_in_sign
theorem op_notInAll {X : Cx} : OpR X (compareOp .NotIn) (rInAll X.K true) := op_notIn_seq.or op_notIn_sign
theorem s_inAll {neg : Bool} : OpS K (rInAll K neg) (fun d e => (inP d e).map fun b => .bool (if neg then !b else b)) := fun h H x y d e z Q dm rx ry hz k => by
  dsimp only at hz
  cases q : inP d e with
  | none => rw [q] at hz; cases hz
  | some b =>
    rw [q] at hz
    cases hz
    unfold inP at q
    split at q
    · split at q
      · cases q
        rename_i f
        obtain ⟨p, vs, rfl, hs, r⟩ := ry.list
        have r' := r.mono (hid_le h H)
        refine .inl ⟨p, vs, rfl, .inl hs, flat_of rx.dr f.1, allFlat_of r' f.2, ?_⟩
        rw [inV_of rx.dr f.1 r' f.2]
        exact k _ H (Ex.refl H) (.bl _)
      · cases q
    · split at q
      · cases q
        rename_i f
        obtain ⟨p, vs, rfl, hs, r⟩ := ry.tuple
        have r' := r.mono (hid_le h H)
        refine .inl ⟨p, vs, rfl, .inr hs, flat_of rx.dr f.1, allFlat_of r' f.2, ?_⟩
        rw [inV_of rx.dr f.1 r' f.2]
        exact k _ H (Ex.refl H) (.bl _)
      · cases q
    · split at q
      · cases q
        rw [rx.str, ry.str]
        exact .inr ⟨_, _, rfl, rfl, k _ H (Ex.refl H) (.bl _)⟩
      · cases q
    · cases q
theorem s_in : OpS K (rInAll K false) oIn := s_inAll (neg := false)
theorem s_notIn : OpS K (rInAll K true) oNotIn := s_inAll (neg := true)
/-- is None -/
def isNonD : PyData → Bool
  | .none => true
  | _ => false
def oIsN (d e : PyData) : Option PyData := if isNonD e = true then some (.bool (isNonD d)) else none
def oNotN (d e : PyData) : Option PyData := if isNonD e = true then some (.bool (!isNonD d)) else none
theorem isN_of {v : V} {d : PyData} (r : Dr K H v d) : decide (v = .non) = isNonD d := by
  cases r <;> simp [isNonD]
theorem isN_eq {d : PyData} (h : isNonD d = true) : d = .none := by cases d <;> first | rfl | cases h
theorem s_isN : OpS K (fun x y H Q => y = .non ∧ Q (.bl (decide (x = .non))) H) oIsN := fun h H x y d e z Q dm rx ry hz k => by
  unfold oIsN at hz
  split at hz
  · rename_i hn
    cases hz
    cases isN_eq hn
    refine ⟨ry.none, ?_⟩
    rw [isN_of rx.dr]
    exact k _ H (Ex.refl H) (.bl _)
  · cases hz
theorem s_notN : OpS K (fun x y H Q => y = .non ∧ Q (.bl (!decide (x = .non))) H) oNotN := fun h H x y d e z Q dm rx ry hz k => by
  unfold oNotN at hz
  split at hz
  · rename_i hn
    cases hz
    cases isN_eq hn
    refine ⟨ry.none, ?_⟩
    rw [isN_of rx.dr]
    exact k _ H (Ex.refl H) (.bl _)
  · cases hz

/-! ### an item by its place -/
def oIx (d e : PyData) : Option PyData := match d, e with
  | .list ds, .int i => atI ds i
  | .tuple ds, .int i => atI ds i
  | .str z, .int i => if z.length ≤ sizeLine then (atI z.cps.toList i).map fun c => .str ⟨#[c]⟩ else none
  | _, _ => none
theorem atI_dr {vs : List V} {ds : List PyData} {i : Int} {d : PyData} (r : DrA K H vs ds) (e : atI ds i = some d) : ∃ v, atI vs i = some v ∧ Dr K H v d := by
  unfold atI at e ⊢
  rw [r.length]
  cases q : ixN ds.length i with
  | none => rw [q] at e; cases e
  | some j =>
    rw [q] at e
    exact r.get e
theorem s_ix : OpS K (rIx K) oIx := fun h H x y d e z Q dm rx ry hz k => by
  unfold oIx at hz
  split at hz
  · obtain ⟨p, vs, rfl, hs, r⟩ := rx.list
    obtain ⟨v, h1, h2⟩ := atI_dr r hz
    rw [ry.int]
    exact .inl ⟨p, vs, _, v, rfl, rfl, hs, h1, k _ H (Ex.refl H) h2⟩
  · obtain ⟨p, vs, rfl, hs, r⟩ := rx.tuple
    obtain ⟨v, h1, h2⟩ := atI_dr r hz
    rw [ry.int]
    exact .inr (.inl ⟨p, vs, _, v, rfl, rfl, hs, h1, k _ H (Ex.refl H) h2⟩)
  · split at hz
    · rename_i hl
      obtain ⟨c, hc, rfl⟩ := Option.map_eq_some_iff.mp hz
      rw [rx.str, ry.int]
      exact .inr (.inr ⟨_, _, c, rfl, rfl, hl, hc, k _ H (Ex.refl H) (.str _)⟩)
    · cases hz
  · cases hz
end
end D
end

section
set_option Elab.async false
set_option linter.all false
set_option maxRecDepth 100000
set_option maxHeartbeats 4000000
namespace D
open PySem L2

/-! ### tests -/
def asB : PyData → Res Bool
  | .bool b => .ok b
  | _ => .stuck
section
variable {X : Cx} {W : WX} {a b c : Expr} {es : List Expr} {f g k : DQ} {fs : DQs} {ft gt : DT} {pos : Pos}
theorem po_test {K : Frag} {mg : Str → Option Value} {W : Wk} {h : List Addr} {H : Hp} {r : Res PyData} {Q : Bool → Hp → Prop} (q : PoT mg W H (r.bind asB) Q) : Po K mg W h H r (fun x H' => ∃ c, x = .bl c ∧ Q c H') := by
  cases r with
  | stuck => exact q
  | err x => exact q
  | ok d =>
    intro v H' e hr
    cases hr <;> first | exact q.elim | exact ⟨_, rfl, q H' e⟩
theorem poV_test {K : Frag} {mg : Str → Option Value} {W : Wk} {h : List Addr} {H : Hp} {r : Res PyData} {Q : Bool → Hp → Prop} (q : PoT mg W H (r.bind asB) Q) : PoV K mg W h H r (fun x H' => ∃ c, x = .bl c ∧ Q c H') := by
  cases r with
  | stuck => exact q
  | err x => exact q
  | ok d =>
    intro v H' e hr
    cases d with
    | bool b => exact ⟨b, hr.bool, q H' e⟩
    | _ => exact q.elim
def dB (f : DQ) : DT := fun ρ => (f ρ).bind asB
/-- a value that is True or False, as a test -/
theorem b_val (p : PV X W a f) (he : ∀ whole, isTrue a X.env whole = (do let v ← whole; standAt a.pos; holding [v] (truthy v)) := by intro _; rfl) : PB X W a (dB f) :=
  imp_t (pt_val p he) fun σ H Q ⟨h, ρ, E, q⟩ => ⟨h, ρ, E, poV_test q⟩
theorem b_cmp {op : CmpOp} {r : R2} {o : PyData → PyData → Option PyData} (hs : OpS X.K r o) (ho : OpR X (compareOp op) r) (ha : PV X W a f) (hb : PV X W b g) (hm : behindInMarks op b = false := by first | exact nomark _ | rfl) :
    PB X W (.Compare a [op] [b] pos) (dB (dOp o f g)) := imp_t (pt_cmpR ho ha hb hm) fun σ H Q ⟨h, ρ, E, q⟩ => reads2 (f := f) (g := g) (W := W) hs σ H _ ⟨h, ρ, E, po_test q⟩
/-- a < b < c -/
def dChain (o o' : PyData → PyData → Option PyData) (f g k : DQ) : DQ := fun ρ => (f ρ).bind fun d => (g ρ).bind fun e => (ofO (o d e)).bind fun z => (asB z).bind fun t => if t = true then (k ρ).bind fun u => ofO (o' e u) else .ok (.bool false)
theorem reads3 {r r' : R2} {o o' : PyData → PyData → Option PyData} (hs : OpS X.K r o) (hs' : OpS X.K r' o') : ∀ σ H Q, tD X W (dChain o o' f g k) σ H Q → tChain r r' (tV X W f) (tV X W g) (tV X W k) σ H Q := fun σ H Q ⟨h, ρ, E, q⟩ => by
  unfold dChain at q
  refine ⟨h, ρ, E, ?_⟩
  cases e1 : f ρ with
  | stuck => rw [e1] at q; exact q
  | err x => rw [e1] at q; exact q
  | ok d =>
    rw [e1] at q
    refine fun v H1 x1 r1 => ⟨h, ρ, E.mono x1, ?_⟩
    cases e2 : g ρ with
    | stuck => simp only [Res.bind, e2] at q; exact q
    | err x => simp only [Res.bind, e2] at q; exact fun C H' m z => q C H' m (x1.trans z)
    | ok e =>
      refine fun u H2 x2 r2 => ?_
      simp only [Res.bind, e2] at q
      cases e3 : o d e with
      | none => rw [e3] at q; exact q.elim
      | some z =>
        rw [e3] at q
        refine hs h H2 v u d e z _ (E.dom.mono (x1.trans x2)) (r1.mono x2) r2 e3 fun v' H3 x3 r3 => ?_
        simp only [ofO] at q
        cases r3 with
        | bl t =>
          simp only [asB] at q
          refine ⟨t, rfl, ?_⟩
          cases t with
          | false =>
            simp only [Bool.false_eq_true, if_false] at q ⊢
            exact q _ H3 ((x1.trans x2).trans x3) (.bl _)
          | true =>
            simp only [if_true] at q ⊢
            refine ⟨h, ρ, E.mono ((x1.trans x2).trans x3), ?_⟩
            cases e4 : k ρ with
            | stuck => rw [e4] at q; exact q
            | err x => rw [e4] at q; exact fun C H' m z => q C H' m (((x1.trans x2).trans x3).trans z)
            | ok w =>
              rw [e4] at q
              refine fun w' H4 x4 r4 => ?_
              cases e5 : o' e w with
              | none => simp only [e5] at q; exact q.elim
              | some z' =>
                simp only [e5] at q
                exact hs' h H4 u w' e w z' _ (E.dom.mono (((x1.trans x2).trans x3).trans x4)) ((r2.mono x3).mono x4) r4 e5 fun v5 H5 x5 r5 => q v5 H5 ((((x1.trans x2).trans x3).trans x4).trans x5) r5
        | _ => exact q.elim
theorem q_chain {op op' : CmpOp} {r r' : R2} {o o' : PyData → PyData → Option PyData} (hs : OpS X.K r o) (ho : OpR X (compareOp op) r) (hs' : OpS X.K r' o') (ho' : OpR X (compareOp op') r') (ha : PV X W a f) (hb : PV X W b g) (hc : PV X W c k)
    (hm : lastMarks [op, op'] [b, c] = false := by with_unfolding_all rfl) : PQ X W (.Compare a [op, op'] [b, c] pos) (dChain o o' f g k) := imp_e (pe_chain ho ho' ha hb hc hm) (reads3 hs hs')
theorem b_chain {op op' : CmpOp} {r r' : R2} {o o' : PyData → PyData → Option PyData} (hs : OpS X.K r o) (ho : OpR X (compareOp op) r) (hs' : OpS X.K r' o') (ho' : OpR X (compareOp op') r') (ha : PV X W a f) (hb : PV X W b g) (hc : PV X W c k)
    (hm : lastMarks [op, op'] [b, c] = false := by with_unfolding_all rfl) : PB X W (.Compare a [op, op'] [b, c] pos) (dB (dChain o o' f g k)) :=
  imp_t (pt_chain ho ho' ha hb hc hm) fun σ H Q ⟨h, ρ, E, q⟩ => reads3 (f := f) (g := g) (k := k) (W := W) hs hs' σ H _ ⟨h, ρ, E, po_test q⟩
/-! and, or, not -/
def dAnd (f g : DT) : DT := fun ρ => (f ρ).bind fun t => if t = true then g ρ else .ok false
def dOr (f g : DT) : DT := fun ρ => (f ρ).bind fun t => if t = true then .ok true else g ρ
def dNot (f : DT) : DT := fun ρ => (f ρ).bind fun t => .ok (!t)
variable {rest : List Expr}
theorem w_and1 (p : PB X W a ft) : PWB X W (.BoolOp .And [a] pos) ft := pw_and1 p
theorem w_or1 (p : PB X W a ft) : PWB X W (.BoolOp .Or [a] pos) ft := pw_or1 p
theorem w_and (p : PB X W a ft) (q : PWB X W (.BoolOp .And (b :: rest) pos) gt) : PWB X W (.BoolOp .And (a :: b :: rest) pos) (dAnd ft gt) := imp_w (pw_and p q) fun σ H Q ⟨h, ρ, E, q⟩ => by
  unfold dAnd at q
  refine ⟨h, ρ, E, ?_⟩
  cases e1 : ft ρ with
  | stuck => rw [e1] at q; exact q
  | err x => rw [e1] at q; exact q
  | ok t =>
    rw [e1] at q
    intro H1 x1
    cases t with
    | false => exact q H1 x1
    | true => exact ⟨h, ρ, E.mono x1, PoT.mono q x1⟩
theorem w_or (p : PB X W a ft) (q : PWB X W (.BoolOp .Or (b :: rest) pos) gt) : PWB X W (.BoolOp .Or (a :: b :: rest) pos) (dOr ft gt) := imp_w (pw_or p q) fun σ H Q ⟨h, ρ, E, q⟩ => by
  unfold dOr at q
  refine ⟨h, ρ, E, ?_⟩
  cases e1 : ft ρ with
  | stuck => rw [e1] at q; exact q
  | err x => rw [e1] at q; exact q
  | ok t =>
    rw [e1] at q
    intro H1 x1
    cases t with
    | true => exact q H1 x1
    | false => exact ⟨h, ρ, E.mono x1, PoT.mono q x1⟩
theorem b_w (p : PWB X W a ft) : PB X W a ft := p.pt
theorem b_not (p : PB X W a ft) : PB X W (.UnaryOp .Not a pos) (dNot ft) := imp_t (pt_not p) fun σ H Q ⟨h, ρ, E, q⟩ => by
  unfold dNot at q
  refine ⟨h, ρ, E, ?_⟩
  cases e1 : ft ρ with
  | stuck => rw [e1] at q; exact q
  | err x => rw [e1] at q; exact q
  | ok t =>
    rw [e1] at q
    exact q
/-- as values -/
def dAndV (f g : DQ) : DQ := fun ρ => (f ρ).bind fun d => (asB d).bind fun t => if t = true then g ρ else .ok (.bool false)
def dOrV (f g : DQ) : DQ := fun ρ => (f ρ).bind fun d => (asB d).bind fun t => if t = true then .ok (.bool true) else g ρ
def dNotV (f : DQ) : DQ := fun ρ => (f ρ).bind fun d => (asB d).bind fun t => .ok (.bool (!t))
theorem q_one {op} (p : PQ X W a f) : PQ X W (.BoolOp op [a] pos) f := pe_one p
theorem q_and (p : PQ X W a f) (q : PQ X W (.BoolOp .And (b :: rest) pos) g) : PQ X W (.BoolOp .And (a :: b :: rest) pos) (dAndV f g) := imp_e (pe_and p q) fun σ H Q ⟨h, ρ, E, q⟩ => by
  unfold dAndV at q
  refine ⟨h, ρ, E, ?_⟩
  cases e1 : f ρ with
  | stuck => rw [e1] at q; exact q
  | err x => rw [e1] at q; exact q
  | ok d =>
    rw [e1] at q
    intro v H1 x1 r
    cases r with
    | bl t =>
      refine ⟨t, rfl, ?_⟩
      cases t with
      | false => exact q _ H1 x1 (.bl _)
      | true => exact ⟨h, ρ, E.mono x1, Po.mono q x1⟩
    | _ => exact q.elim
theorem q_or (p : PQ X W a f) (q : PQ X W (.BoolOp .Or (b :: rest) pos) g) : PQ X W (.BoolOp .Or (a :: b :: rest) pos) (dOrV f g) := imp_e (pe_or p q) fun σ H Q ⟨h, ρ, E, q⟩ => by
  unfold dOrV at q
  refine ⟨h, ρ, E, ?_⟩
  cases e1 : f ρ with
  | stuck => rw [e1] at q; exact q
  | err x => rw [e1] at q; exact q
  | ok d =>
    rw [e1] at q
    intro v H1 x1 r
    cases r with
    | bl t =>
      refine ⟨t, rfl, ?_⟩
      cases t with
      | true => exact q _ H1 x1 (.bl _)
      | false => exact ⟨h, ρ, E.mono x1, Po.mono q x1⟩
    | _ => exact q.elim
theorem q_not (p : PQ X W a f) : PQ X W (.UnaryOp .Not a pos) (dNotV f) := imp_e (pe_not p) fun σ H Q ⟨h, ρ, E, q⟩ => by
  unfold dNotV at q
  refine ⟨h, ρ, E, ?_⟩
  cases e1 : f ρ with
  | stuck => rw [e1] at q; exact q
  | err x => rw [e1] at q; exact q
  | ok d =>
    rw [e1] at q
    intro v H1 x1 r
    cases r with
    | bl t => exact ⟨t, rfl, q _ H1 x1 (.bl _)⟩
    | _ => exact q.elim
/-- a if t else b -/
def dIf (t : DT) (f g : DQ) : DQ := fun ρ => (t ρ).bind fun b => if b = true then f ρ else g ρ
theorem q_if (pt : PB X W c ft) (p : PQ X W a f) (q : PQ X W b g) : PQ X W (.IfExp c a b pos) (dIf ft f g) := imp_e (pe_ifExp pt p q) fun σ H Q ⟨h, ρ, E, q⟩ => by
  unfold dIf at q
  refine ⟨h, ρ, E, ?_⟩
  cases e1 : ft ρ with
  | stuck => rw [e1] at q; exact q
  | err x => rw [e1] at q; exact q
  | ok t =>
    rw [e1] at q
    intro H1 x1
    cases t with
    | true => exact ⟨h, ρ, E.mono x1, Po.mono q x1⟩
    | false => exact ⟨h, ρ, E.mono x1, Po.mono q x1⟩
/-- -a -/
def dNeg (f : DQ) : DQ := fun ρ => (f ρ).bind fun d => match d with
  | .int i => .ok (.int (-i))
  | _ => .stuck
theorem q_neg (p : PQ X W a f) : PQ X W (.UnaryOp .USub a pos) (dNeg f) := imp_e (pe_un un_neg p) fun σ H Q ⟨h, ρ, E, q⟩ => by
  unfold dNeg at q
  refine ⟨h, ρ, E, ?_⟩
  cases e1 : f ρ with
  | stuck => rw [e1] at q; exact q
  | err x => rw [e1] at q; exact q
  | ok d =>
    rw [e1] at q
    intro v H1 x1 r
    cases r with
    | int i => exact ⟨i, rfl, q _ H1 x1 (.int _)⟩
    | _ => exact q.elim

/-! ### arguments, displays -/
def dNil : DQs := fun _ => .ok []
def dCons (f : DQ) (fs : DQs) : DQs := fun ρ => (f ρ).bind fun d => (fs ρ).bind fun ds => .ok (d :: ds)
theorem qs_nil : PQs X W [] dNil := imp_a pa_nil fun σ H Q ⟨h, ρ, E, q⟩ => q [] H (Ex.refl H) .nil
theorem qs_cons (p : PQ X W a f) (ps : PQs X W es fs) (hs : starEach (a :: es) X.env = (false, eval a X.env) :: starEach es X.env := by rfl) : PQs X W (a :: es) (dCons f fs) := imp_a (pa_cons p ps hs) fun σ H Q ⟨h, ρ, E, q⟩ => by
  unfold dCons at q
  refine ⟨h, ρ, E, ?_⟩
  cases e1 : f ρ with
  | stuck => rw [e1] at q; exact q
  | err x => rw [e1] at q; exact q
  | ok d =>
    rw [e1] at q
    refine fun v H1 x1 r1 => ⟨h, ρ, E.mono x1, ?_⟩
    cases e2 : fs ρ with
    | stuck => simp only [Res.bind, e2] at q; exact q
    | err x => simp only [Res.bind, e2] at q; exact fun C H' m z => q C H' m (x1.trans z)
    | ok ds =>
      simp only [Res.bind, e2] at q
      exact fun vs H2 x2 r2 => q (v :: vs) H2 (x1.trans x2) (.cons (r1.mono x2.hid) r2)
/-- arguments of a built-in: lists of the frame's own too -/
inductive DvA (K : Frag) (h : List Addr) (H : Hp) : List V → List PyData → Prop
  | nil : DvA K h H [] []
  | cons {v : V} {vs : List V} {d : PyData} {ds : List PyData} : Dv K h H v d → DvA K h H vs ds → DvA K h H (v :: vs) (d :: ds)
def PoVA (K : Frag) (mg : Str → Option Value) (W : Wk) (h : List Addr) (H : Hp) (r : Res (List PyData)) (Q : List V → Hp → Prop) : Prop := match r with
  | .stuck => False
  | .err e => ∀ C H', mg e = some (.ref C) → Ex H H' → W (.ref C) none H'
  | .ok ds => ∀ vs H', Ex H H' → DvA K h H' vs ds → Q vs H'
def tVA (X : Cx) (W : WX) (f : DQs) : TA := fun σ H Q => ∃ h ρ, Enr X.K h H σ ρ ∧ PoVA X.K X.mg (wAt W σ) h H (f ρ) Q
abbrev PVs (X : Cx) (W : WX) (es : List Expr) (f : DQs) : Prop := PA X es (tVA X W f)
theorem vs_nil : PVs X W [] dNil := imp_a pa_nil fun σ H Q ⟨h, ρ, E, q⟩ => q [] H (Ex.refl H) .nil
theorem vs_cons (p : PV X W a f) (ps : PVs X W es fs) (hs : starEach (a :: es) X.env = (false, eval a X.env) :: starEach es X.env := by rfl) : PVs X W (a :: es) (dCons f fs) := imp_a (pa_cons p ps hs) fun σ H Q ⟨h, ρ, E, q⟩ => by
  unfold dCons at q
  refine ⟨h, ρ, E, ?_⟩
  cases e1 : f ρ with
  | stuck => rw [e1] at q; exact q
  | err x => rw [e1] at q; exact q
  | ok d =>
    rw [e1] at q
    refine fun v H1 x1 r1 => ⟨h, ρ, E.mono x1, ?_⟩
    cases e2 : fs ρ with
    | stuck => simp only [Res.bind, e2] at q; exact q
    | err x => simp only [Res.bind, e2] at q; exact fun C H' m z => q C H' m (x1.trans z)
    | ok ds =>
      simp only [Res.bind, e2] at q
      exact fun vs H2 x2 r2 => q (v :: vs) H2 (x1.trans x2) (.cons (r1.mono x2) r2)
def dTup (fs : DQs) : DQ := fun ρ => (fs ρ).bind fun ds => if ds.length ≤ 1000 then .ok (.tuple ds) else .stuck
def dLst (fs : DQs) : DQ := fun ρ => (fs ρ).bind fun ds => if ds.length ≤ 1000 then .ok (.list ds) else .stuck
theorem le1000 {n : Nat} (h : n ≤ 1000) : n ≤ sizeLine := Nat.le_trans h (by decide)
theorem q_tup {k} (ps : PQs X W es fs) : PQ X W (.Tuple es k pos) (dTup fs) := imp_e (pe_tup ps) fun σ H Q ⟨h, ρ, E, q⟩ => by
  unfold dTup at q
  refine ⟨h, ρ, E, ?_⟩
  cases e1 : fs ρ with
  | stuck => rw [e1] at q; exact q
  | err x => rw [e1] at q; exact q
  | ok ds =>
    rw [e1] at q
    simp only [Res.bind] at q
    split at q
    · rename_i hl
      exact fun vs H1 x1 r => ⟨by rw [r.length]; exact le1000 hl, fun p np => q _ _ (x1.trans (Ex.new np)) (new_tup (E.dom.mono x1) np r)⟩
    · exact q.elim
theorem q_lst (ps : PQs X W es fs) : PQ X W (.List es pos) (dLst fs) := imp_e (pe_lst ps) fun σ H Q ⟨h, ρ, E, q⟩ => by
  unfold dLst at q
  refine ⟨h, ρ, E, ?_⟩
  cases e1 : fs ρ with
  | stuck => rw [e1] at q; exact q
  | err x => rw [e1] at q; exact q
  | ok ds =>
    rw [e1] at q
    simp only [Res.bind] at q
    split at q
    · rename_i hl
      exact fun vs H1 x1 r => ⟨by rw [r.length]; exact le1000 hl, fun p np => q _ _ (x1.trans (Ex.new np)) (new_lst (E.dom.mono x1) np r)⟩
    · exact q.elim

/-! ### calls of defs -/
/-- a def that changes nothing: its promise by its mirror m -/
def spF (K : Frag) (mg : Str → Option Value) (n : Nat) (m : List PyData → Res PyData) : Sp := fun vs H Q E => vs.length = n ∧ ∃ h ds, Dom h H ∧ DrA K (hid h H) vs ds ∧ Po K mg E h H (m ds) Q
/-- the def x of the module keeps the promise sp -/
structure Cal (P : Program) (w : World) (K : Frag) (mg : Str → Option Value) (base : Heap) (x : Str) (k : Nat) (ps : List Str) (sp : Sp) : Prop where
  ex : ∃ (f : Addr) (fd : FuncData), FnOk P w K mg base (L2.CX P w) k f fd ps sp ∧ mg x = some (.ref f) ∧ PySem.W.keepIn K (.ref f) = true ∧ Binds K fd ps []
def dCall (m : List PyData → Res PyData) (fs : DQs) : DQ := fun ρ => (fs ρ).bind m
theorem reads_call {n : Nat} {m : List PyData → Res PyData} {E : St → XK} (hE : E = WE W) (hn : ∀ ds, m ds ≠ .stuck → ds.length = n) : ∀ σ H Q, tD X W (dCall m fs) σ H Q → tCallS (spF X.K X.mg n m) E (tA X W fs) σ H Q := fun σ H Q ⟨h, ρ, En, q⟩ => by
  subst hE
  unfold dCall at q
  refine ⟨h, ρ, En, ?_⟩
  cases e1 : fs ρ with
  | stuck => rw [e1] at q; exact q
  | err x => rw [e1] at q; exact q
  | ok ds =>
    rw [e1] at q
    intro vs H1 x1 r
    refine ⟨?_, h, ds, En.dom.mono x1, r, Po.mono q x1⟩
    rw [r.length]
    refine hn ds fun z => ?_
    have q' : Po X.K X.mg (wAt W σ) h H (m ds) Q := q
    rw [z] at q'
    exact q'
/-- what a callee may let out is wished for at the slots -/
def Pas (X : Cx) (W : WX) : Prop := ∀ σ, PassesAt (L2.CX X.prog X.w) X σ (WE W σ)
theorem pas_of (tk : Takes X W) : Pas X W := fun σ => passAt tk σ
theorem q_call {x : Str} {kk n : Nat} {ps : List Str} {m : List PyData → Res PyData} {p : Pos} (C : Cal X.prog X.w X.K X.mg X.base x kk ps (spF X.K X.mg n m)) (hn : ∀ ds, m ds ≠ .stuck → ds.length = n) (tk : Pas X W) (hr : Room kk X.A) (ha : PQs X W (a :: es) fs)
    (hg : Gl X x := by rfl) (hdb : (x == ("__debug__" : Str)) = false := by decide) (he : starEach (a :: es) X.env = (false, eval a X.env) :: starEach es X.env := by rfl) (hpl : (backTo pos (starEach es X.env)).any (·.1) = false := by rfl) :
    PQ X W (.Call (.Name x p) (a :: es) [] pos) (dCall m fs) := by
  obtain ⟨f, fd, F, hm, hk, hb⟩ := C.ex
  exact imp_e (pe_callS F hr hg hm hk hb tk ha hdb he hpl) (reads_call rfl hn)

/-! ### calls of built-ins -/
def BS (K : Frag) (r : List V → Hp → VK → Prop) (op : List PyData → Option PyData) : Prop :=
  ∀ (h : List Addr) (H : Hp) (xs : List V) (ds : List PyData) (z : PyData) (Q : VK), Dom h H → DvA K h H xs ds → op ds = some z → (∀ v H', Ex H H' → Dr K (hid h H') v z → Q v H') → r xs H Q
def dBi (op : List PyData → Option PyData) (fs : DQs) : DQ := fun ρ => (fs ρ).bind fun ds => ofO (op ds)
theorem reads_bi {r : List V → Hp → VK → Prop} {op : List PyData → Option PyData} (hs : BS X.K r op) : ∀ σ H Q, tD X W (dBi op fs) σ H Q → tCB r (tVA X W fs) σ H Q := fun σ H Q ⟨h, ρ, E, q⟩ => by
  unfold dBi at q
  refine ⟨h, ρ, E, ?_⟩
  cases e1 : fs ρ with
  | stuck => rw [e1] at q; exact q
  | err x => rw [e1] at q; exact q
  | ok ds =>
    rw [e1] at q
    refine fun vs H1 x1 r1 => ?_
    simp only [Res.bind] at q
    cases e2 : op ds with
    | none => rw [e2] at q; exact q.elim
    | some z =>
      rw [e2] at q
      exact hs h H1 vs ds z Q (E.dom.mono x1) r1 e2 fun v H' x' r' => q v H' (x1.trans x') r'
theorem q_bi {x : Str} {id : String} {r : List V → Hp → VK → Prop} {op : List PyData → Option PyData} {p : Pos} (hs : BS X.K r op) (hc : CallR X (.builtin id) r) (hm : X.mg x = none) (ha : PVs X W (a :: es) fs) (hv : bootBuiltins x = some (.builtin id) := by decide +kernel)
    (hg : Gl X x := by rfl) (hn : x ≠ "__name__" := by decide) (hdb : (x == ("__debug__" : Str)) = false := by decide) (he : starEach (a :: es) X.env = (false, eval a X.env) :: starEach es X.env := by rfl) (hpl : (backTo pos (starEach es X.env)).any (·.1) = false := by rfl) :
    PQ X W (.Call (.Name x p) (a :: es) [] pos) (dBi op fs) := imp_e (pe_callB hc hg hm hv ha hn hdb he hpl) (reads_bi hs)
theorem q_ty {x : Str} {id : String} {r : List V → Hp → VK → Prop} {op : List PyData → Option PyData} {p : Pos} (hs : BS X.K r op) (hc : CallR X (.type id) r) (hm : X.mg x = none) (ha : PVs X W (a :: es) fs) (hv : bootBuiltins x = some (.type id) := by decide +kernel)
    (hg : Gl X x := by rfl) (hn : x ≠ "__name__" := by decide) (hdb : (x == ("__debug__" : Str)) = false := by decide) (he : starEach (a :: es) X.env = (false, eval a X.env) :: starEach es X.env := by rfl) (hpl : (backTo pos (starEach es X.env)).any (·.1) = false := by rfl) :
    PQ X W (.Call (.Name x p) (a :: es) [] pos) (dBi op fs) := imp_e (pe_callTy hc hg hm hv ha hn hdb he hpl) (reads_bi hs)
end
theorem DvA.one {K : Frag} {h : List Addr} {H : Hp} {xs : List V} {d : PyData} (r : DvA K h H xs [d]) : ∃ v, xs = [v] ∧ Dv K h H v d := by
  cases r with
  | cons r t => cases t; exact ⟨_, rfl, r⟩
theorem DvA.two {K : Frag} {h : List Addr} {H : Hp} {xs : List V} {d e : PyData} (r : DvA K h H xs [d, e]) : ∃ v u, xs = [v, u] ∧ Dv K h H v d ∧ Dv K h H u e := by
  cases r with
  | cons r t =>
    cases t with
    | cons q t => cases t; exact ⟨_, _, rfl, r, q⟩
section
variable {K : Frag}
def bLen : List PyData → Option PyData
  | [.list l] => some (.int l.length)
  | [.tuple l] => some (.int l.length)
  | [.str z] => if z.length ≤ sizeLine then some (.int z.length) else none
  | _ => none
def rLenAll (K : Frag) : List V → Hp → VK → Prop := fun xs H Q => (∃ p ys, xs = [.ref p] ∧ (SqL K H p ys ∨ SqT K H p ys) ∧ Q (.int ys.length) H) ∨ ∃ z, xs = [.str z] ∧ z.length ≤ sizeLine ∧ Q (.int z.length) H
theorem call_lenAll {X : Cx} : CallR X (.builtin "len") (rLenAll X.K) := call_len_seq.or call_len_str
theorem s_len : BS K (rLenAll K) bLen := fun h H xs ds z Q dm r hz k => by
  unfold bLen at hz
  split at hz
  · cases hz
    obtain ⟨v, rfl, q⟩ := r.one
    obtain ⟨p, vs, rfl, h1, h2⟩ := q.list
    refine .inl ⟨p, vs, rfl, .inl h1, ?_⟩
    rw [h2.length]
    exact k _ H (Ex.refl H) (.int _)
  · cases hz
    obtain ⟨v, rfl, q⟩ := r.one
    obtain ⟨p, vs, rfl, h1, h2⟩ := q.tuple
    refine .inl ⟨p, vs, rfl, .inr h1, ?_⟩
    rw [h2.length]
    exact k _ H (Ex.refl H) (.int _)
  · split at hz
    · cases hz
      rename_i hl
      obtain ⟨v, rfl, q⟩ := r.one
      rw [q.str]
      exact .inr ⟨_, rfl, hl, k _ H (Ex.refl H) (.int _)⟩
    · cases hz
  · cases hz
/-- the truths in a list -/
def boolsOf : List PyData → Option (List Bool)
  | [] => some []
  | .bool b :: r => (boolsOf r).map (b :: ·)
  | _ :: _ => none
theorem boolsOf_is : ∀ {l : List PyData} {bs : List Bool}, boolsOf l = some bs → l = bs.map PyData.bool
  | [], _, h => by cases h; rfl
  | .bool b :: r, bs, h => by
    obtain ⟨bs', h1, rfl⟩ := Option.map_eq_some_iff.mp (show (boolsOf r).map (b :: ·) = some bs from h)
    rw [boolsOf_is h1] <;> rfl
  | .none :: r, _, h => by cases h
  | .int _ :: r, _, h => by cases h
  | .str _ :: r, _, h => by cases h
  | .list _ :: r, _, h => by cases h
  | .tuple _ :: r, _, h => by cases h
  | .dict _ :: r, _, h => by cases h
def bAll : List PyData → Option PyData
  | [.list l] => (boolsOf l).map fun bs => .bool (bs.all id)
  | _ => none
def bAny : List PyData → Option PyData
  | [.list l] => (boolsOf l).map fun bs => .bool (bs.any id)
  | _ => none
theorem s_all : BS K (rAll K) bAll := fun h H xs ds z Q dm r hz k => by
  unfold bAll at hz
  split at hz
  · obtain ⟨bs, hb, rfl⟩ := Option.map_eq_some_iff.mp hz
    obtain ⟨v, rfl, q⟩ := r.one
    obtain ⟨p, vs, rfl, h1, h2⟩ := q.list
    rw [boolsOf_is hb] at h2
    rw [h2.bls] at h1
    exact ⟨p, bs, rfl, h1, k _ H (Ex.refl H) (.bl _)⟩
  · cases hz
theorem s_any : BS K (rAny K) bAny := fun h H xs ds z Q dm r hz k => by
  unfold bAny at hz
  split at hz
  · obtain ⟨bs, hb, rfl⟩ := Option.map_eq_some_iff.mp hz
    obtain ⟨v, rfl, q⟩ := r.one
    obtain ⟨p, vs, rfl, h1, h2⟩ := q.list
    rw [boolsOf_is hb] at h2
    rw [h2.bls] at h1
    exact ⟨p, bs, rfl, h1, k _ H (Ex.refl H) (.bl _)⟩
  · cases hz
def bAbs : List PyData → Option PyData
  | [.int i] => some (.int (if i < 0 then -i else i))
  | _ => none
theorem s_abs : BS K (fun xs H Q => ∃ i, xs = [.int i] ∧ Q (.int (if i < 0 then -i else i)) H) bAbs := fun h H xs ds z Q dm r hz k => by
  unfold bAbs at hz
  split at hz
  · cases hz
    obtain ⟨v, rfl, q⟩ := r.one
    rw [q.int]
    exact ⟨_, rfl, k _ H (Ex.refl H) (.int _)⟩
  · cases hz
def bMax2 : List PyData → Option PyData
  | [.int i, .int j] => some (.int (if j > i then j else i))
  | _ => none
def bMin2 : List PyData → Option PyData
  | [.int i, .int j] => some (.int (if j < i then j else i))
  | _ => none
theorem s_max2 : BS K (fun xs H Q => ∃ i j, xs = [.int i, .int j] ∧ Q (.int (if j > i then j else i)) H) bMax2 := fun h H xs ds z Q dm r hz k => by
  unfold bMax2 at hz
  split at hz
  · cases hz
    obtain ⟨v, u, rfl, q, q2⟩ := r.two
    rw [q.int, q2.int]
    exact ⟨_, _, rfl, k _ H (Ex.refl H) (.int _)⟩
  · cases hz
theorem s_min2 : BS K (fun xs H Q => ∃ i j, xs = [.int i, .int j] ∧ Q (.int (if j < i then j else i)) H) bMin2 := fun h H xs ds z Q dm r hz k => by
  unfold bMin2 at hz
  split at hz
  · cases hz
    obtain ⟨v, u, rfl, q, q2⟩ := r.two
    rw [q.int, q2.int]
    exact ⟨_, _, rfl, k _ H (Ex.refl H) (.int _)⟩
  · cases hz
/-- int(..) of an int, a truth, a text -/
def bInt : List PyData → Option PyData
  | [.int i] => some (.int i)
  | [.bool b] => some (.int (if b then 1 else 0))
  | [.str z] => if z.length ≤ 640 then (PySem.intText? z).map .int else none
  | _ => none
def rIntAll : List V → Hp → VK → Prop := fun xs H Q => ((∃ i, xs = [.int i] ∧ Q (.int i) H) ∨ ∃ k, xs = [.bl k] ∧ Q (.int (if k then 1 else 0)) H) ∨ ∃ a n, xs = [.str a] ∧ PySem.intText? a = some n ∧ a.length ≤ 640 ∧ Q (.int n) H
theorem call_intAll {X : Cx} : CallR X (.type "int") rIntAll := call_int1.or call_int_str
theorem s_int1 : BS K rIntAll bInt := fun h H xs ds z Q dm r hz k => by
  unfold bInt at hz
  split at hz
  · cases hz
    obtain ⟨v, rfl, q⟩ := r.one
    rw [q.int]
    exact .inl (.inl ⟨_, rfl, k _ H (Ex.refl H) (.int _)⟩)
  · cases hz
    obtain ⟨v, rfl, q⟩ := r.one
    rw [q.bool]
    exact .inl (.inr ⟨_, rfl, k _ H (Ex.refl H) (.int _)⟩)
  · split at hz
    · rename_i hl
      obtain ⟨n, hn, rfl⟩ := Option.map_eq_some_iff.mp hz
      obtain ⟨v, rfl, q⟩ := r.one
      rw [q.str]
      exact .inr ⟨_, n, rfl, hn, hl, k _ H (Ex.refl H) (.int _)⟩
    · cases hz
  · cases hz
/-- str(..) of an int -/
def bStr : List PyData → Option PyData
  | [.int i] => if i.natAbs.log2 < 1920 then some (.str (toString i)) else none
  | _ => none
theorem s_str : BS K (fun xs H Q => ∃ i, xs = [.int i] ∧ i.natAbs.log2 < 1920 ∧ Q (.str (toString i)) H) bStr := fun h H xs ds z Q dm r hz k => by
  unfold bStr at hz
  split at hz
  · split at hz
    · cases hz
      rename_i hl
      obtain ⟨v, rfl, q⟩ := r.one
      rw [q.int]
      exact ⟨_, rfl, hl, k _ H (Ex.refl H) (.str _)⟩
    · cases hz
  · cases hz
def bTuple : List PyData → Option PyData
  | [.list l] => some (.tuple l)
  | [.tuple l] => some (.tuple l)
  | _ => none
theorem s_tuple : BS K (fun xs H Q => ∃ p ys, xs = [.ref p] ∧ ((SqL K H p ys ∧ ∀ l, H l = none → Q (.ref l) (upd H l (.tup ys))) ∨ (SqT K H p ys ∧ Q (.ref p) H))) bTuple := fun h H xs ds z Q dm r hz k => by
  unfold bTuple at hz
  split at hz
  · cases hz
    obtain ⟨v, rfl, q⟩ := r.one
    obtain ⟨p, vs, rfl, h1, h2⟩ := q.list
    exact ⟨p, vs, rfl, .inl ⟨h1, fun l nl => k _ _ (Ex.new nl) (new_tup dm nl h2)⟩⟩
  · cases hz
    obtain ⟨v, rfl, q⟩ := r.one
    obtain ⟨p, vs, e, h1, h2⟩ := q.tuple
    subst e
    refine ⟨p, vs, rfl, .inr ⟨h1, ?_⟩⟩
    rcases q with q | ⟨_, _, _, _, e, _⟩
    · exact k _ H (Ex.refl H) q
    · cases e
  · cases hz
def bList : List PyData → Option PyData
  | [.list l] => some (.list l)
  | [.tuple l] => some (.list l)
  | _ => none
theorem s_list : BS K (fun xs H Q => ∃ p ys, xs = [.ref p] ∧ (SqL K H p ys ∨ SqT K H p ys) ∧ ∀ l, H l = none → Q (.ref l) (upd H l (.lst ys))) bList := fun h H xs ds z Q dm r hz k => by
  unfold bList at hz
  split at hz
  · cases hz
    obtain ⟨v, rfl, q⟩ := r.one
    obtain ⟨p, vs, rfl, h1, h2⟩ := q.list
    exact ⟨p, vs, rfl, .inl h1, fun l nl => k _ _ (Ex.new nl) (new_lst dm nl h2)⟩
  · cases hz
    obtain ⟨v, rfl, q⟩ := r.one
    obtain ⟨p, vs, rfl, h1, h2⟩ := q.tuple
    exact ⟨p, vs, rfl, .inr h1, fun l nl => k _ _ (Ex.new nl) (new_lst dm nl h2)⟩
  · cases hz
end
end D
end

section
set_option Elab.async false
set_option linter.all false
set_option maxRecDepth 100000
set_option maxHeartbeats 4000000
namespace D
open PySem L2

/-! ### slices -/
abbrev DO := Rho → Res (Option Int)
def PoO (mg : Str → Option Value) (W : Wk) (H : Hp) (r : Res (Option Int)) (Q : Option Int → Hp → Prop) : Prop := match r with
  | .stuck => False
  | .err e => ∀ C H', mg e = some (.ref C) → Ex H H' → W (.ref C) none H'
  | .ok b => ∀ H', Ex H H' → Q b H'
def tO (X : Cx) (W : WX) (f : DO) : TO := fun σ H Q => ∃ h ρ, Enr X.K h H σ ρ ∧ PoO X.mg (wAt W σ) H (f ρ) Q
abbrev POp (X : Cx) (W : WX) (e : Option Expr) (f : DO) : Prop := PO X e (tO X W f)
theorem imp_o {X : Cx} {e : Option Expr} {t t' : TO} (p : PO X e t) (h : ∀ σ H Q, t' σ H Q → t σ H Q) : PO X e t' := ⟨fun pins s σ H Q I q => p.run pins s σ H Q I (h σ H Q q)⟩
def dNo : DO := fun _ => .ok none
def dSo (f : DQ) : DO := fun ρ => (f ρ).bind fun d => match d with
  | .int i => .ok (some i)
  | _ => .stuck
/-- the part of data from lo to hi -/
def cutP (l : List PyData) (lo hi : Option Int) : List PyData := (l.drop (HT.sIx l.length 0 lo)).take (HT.sIx l.length l.length hi - HT.sIx l.length 0 lo)
def oSl (d : PyData) (lo hi : Option Int) : Option PyData := match d with
  | .list l => some (.list (cutP l lo hi))
  | .tuple l => some (.tuple (cutP l lo hi))
  | .str z => if z.length ≤ sizeLine then some (.str (cutS z lo hi)) else none
  | _ => none
def rSlAll (K : Frag) : V → Option Int → Option Int → Hp → VK → Prop := fun x lo hi H Q => rSlL K x lo hi H Q ∨ rSlA K x lo hi H Q ∨ rSlS x lo hi H Q
theorem sl_all {X : Cx} : SlR X (rSlAll X.K) := sl_list.or (sl_tupA.or sl_str)
theorem s_sl {K : Frag} {h : List Addr} {H : Hp} {x : V} {d z : PyData} {lo hi : Option Int} {Q : VK} (dm : Dom h H) (rx : Dv K h H x d) (hz : oSl d lo hi = some z) (k : ∀ v H', Ex H H' → Dr K (hid h H') v z → Q v H') : rSlAll K x lo hi H Q := by
  unfold oSl at hz
  split at hz
  · cases hz
    obtain ⟨p, vs, rfl, h1, h2⟩ := rx.list
    refine .inl ⟨p, vs, rfl, h1, fun q nq => k _ _ (Ex.new nq) (new_lst dm nq ?_)⟩
    unfold cutV cutP
    rw [h2.length]
    exact (h2.drop _).take _
  · cases hz
    obtain ⟨p, vs, e, h1, h2⟩ := rx.tuple
    subst e
    refine .inr (.inl ⟨p, vs, rfl, h1, fun hw => ?_, fun _ q nq => k _ _ (Ex.new nq) (new_tup dm nq ?_)⟩)
    · rename_i l
      have e : cutP l lo hi = l := by
        unfold cutP
        rw [← h2.length, hw.1, hw.2, h2.length, List.drop_zero, Nat.sub_zero, List.take_length]
      rw [e] at k
      rcases rx with rx | ⟨_, _, _, _, e, _⟩
      · exact k _ H (Ex.refl H) rx
      · cases e
    · unfold cutV cutP
      rw [h2.length]
      exact (h2.drop _).take _
  · split at hz
    · cases hz
      rename_i hl
      rw [rx.str]
      exact .inr (.inr ⟨_, rfl, hl, k _ H (Ex.refl H) (.str _)⟩)
    · cases hz
  · cases hz
def dSl (f : DQ) (lo hi : DO) : DQ := fun ρ => (f ρ).bind fun d => (lo ρ).bind fun l => (hi ρ).bind fun u => ofO (oSl d l u)
section
variable {X : Cx} {W : WX} {a b c : Expr} {es : List Expr} {f g k : DQ} {fs : DQs} {ft gt : DT} {pos : Pos} {oa ob : Option Expr} {lo hi : DO}
theorem o_none : POp X W none dNo := imp_o po_none fun σ H Q ⟨h, ρ, E, q⟩ => q H (Ex.refl H)
theorem o_some (p : PV X W a f) : POp X W (some a) (dSo f) := imp_o (po_some p) fun σ H Q ⟨h, ρ, E, q⟩ => by
  unfold dSo at q
  refine ⟨h, ρ, E, ?_⟩
  cases e1 : f ρ with
  | stuck => rw [e1] at q; exact q
  | err x => rw [e1] at q; exact q
  | ok d =>
    rw [e1] at q
    intro v H1 x1 r
    cases d with
    | int i => exact ⟨i, r.int, q H1 x1⟩
    | _ => exact q.elim
theorem q_sl {p2 : Pos} (p : PV X W a f) (pl : POp X W oa lo) (pu : POp X W ob hi) : PQ X W (.Subscript a (.Slice oa ob none p2) pos) (dSl f lo hi) := imp_e (pe_slice sl_all p pl pu) fun σ H Q ⟨h, ρ, E, q⟩ => by
  unfold dSl at q
  refine ⟨h, ρ, E, ?_⟩
  cases e1 : f ρ with
  | stuck => rw [e1] at q; exact q
  | err x => rw [e1] at q; exact q
  | ok d =>
    rw [e1] at q
    refine fun v H1 x1 r1 => ⟨h, ρ, E.mono x1, ?_⟩
    simp only [Res.bind] at q
    cases e2 : lo ρ with
    | stuck => rw [e2] at q; exact q
    | err x => rw [e2] at q; exact fun C H' m z => q C H' m (x1.trans z)
    | ok l =>
      rw [e2] at q
      refine fun H2 x2 => ⟨h, ρ, E.mono (x1.trans x2), ?_⟩
      simp only at q
      cases e3 : hi ρ with
      | stuck => rw [e3] at q; exact q
      | err x => rw [e3] at q; exact fun C H' m z => q C H' m ((x1.trans x2).trans z)
      | ok u =>
        rw [e3] at q
        refine fun H3 x3 => ?_
        simp only at q
        cases e4 : oSl d l u with
        | none => rw [e4] at q; exact q.elim
        | some z =>
          rw [e4] at q
          exact s_sl (E.dom.mono ((x1.trans x2).trans x3)) ((r1.mono x2).mono x3) e4 fun v' H' x' r' => q v' H' (((x1.trans x2).trans x3).trans x') r'

/-! ### methods of texts -/
def M1 (K : Frag) (r : V → List V → Hp → VK → Prop) (op : Str → PyData → Option PyData) : Prop :=
  ∀ (h : List Addr) (H : Hp) (a : Str) (y : V) (e z : PyData) (Q : VK), Dom h H → Dv K h H y e → op a e = some z → (∀ v H', Ex H H' → Dr K (hid h H') v z → Q v H') → r (.str a) [y] H Q
def dM1 (op : Str → PyData → Option PyData) (f g : DQ) : DQ := fun ρ => (f ρ).bind fun d => match d with
  | .str a => (g ρ).bind fun e => ofO (op a e)
  | _ => .stuck
theorem reads_m1 {r : V → List V → Hp → VK → Prop} {op : Str → PyData → Option PyData} (hs : M1 X.K r op) : ∀ σ H Q, tD X W (dM1 op f g) σ H Q → tM1 r (tV X W f) (tV X W g) σ H Q := fun σ H Q ⟨h, ρ, E, q⟩ => by
  unfold dM1 at q
  refine ⟨h, ρ, E, ?_⟩
  cases e1 : f ρ with
  | stuck => rw [e1] at q; exact q
  | err x => rw [e1] at q; exact q
  | ok d =>
    rw [e1] at q
    simp only [Res.bind] at q
    cases d with
    | str a =>
      simp only at q
      refine fun v H1 x1 r1 => ?_
      rw [r1.str]
      refine ⟨⟨a, rfl⟩, h, ρ, E.mono x1, ?_⟩
      cases e2 : g ρ with
      | stuck => rw [e2] at q; exact q
      | err x => rw [e2] at q; exact fun C H' m z => q C H' m (x1.trans z)
      | ok e =>
        rw [e2] at q
        refine fun u H2 x2 r2 => ?_
        simp only at q
        cases e3 : op a e with
        | none => rw [e3] at q; exact q.elim
        | some z =>
          rw [e3] at q
          exact hs h H2 a u e z Q (E.dom.mono (x1.trans x2)) r2 e3 fun v' H' x' r' => q v' H' ((x1.trans x2).trans x') r'
    | _ => exact q.elim
theorem q_m1 {id : String} {name : Str} {apos : Pos} {r : V → List V → Hp → VK → Prop} {op : Str → PyData → Option PyData} (hs : M1 X.K r op) (slot : Slot "str" name id) (ty : typeOf (.builtin id) = pure (.type "method_descriptor")) (rule : MtR X id r) (pa : PV X W a f) (pb : PV X W b g)
    (hst : starEach [b] X.env = [(false, eval b X.env)] := by rfl) (hbase : attributeBase a name X.env (eval a X.env) = eval a X.env := by rfl) (hline : (apos.endLine == pos.line) = true := by rfl) :
    PQ X W (.Call (.Attribute a name apos) [b] [] pos) (dM1 op f g) := imp_e (pe_m1 slot ty rule pa pb hst hbase hline) (reads_m1 hs)
end
section
variable {K : Frag}
theorem strs_dr {H : Hp} {p : Addr} {ys : List Str} {h : List Addr} (dm : Dom h H) (np : H p = none) : Dr K (hid h (upd H p (.lst (ys.map V.str)))) (.ref p) (.list (ys.map PyData.str)) := new_lst dm np (DrA.ofStrs ys)
def mSplit (a : Str) : PyData → Option PyData
  | .str b => if b.length ≠ 0 ∧ a.length + 2 ≤ sizeLine then some (.list ((Txt.split a b).map .str)) else none
  | _ => none
theorem s_split : M1 K (fun x xs H Q => ∃ a b, x = .str a ∧ xs = [.str b] ∧ (b.length == 0) = false ∧ a.length + 2 ≤ sizeLine ∧ rNewStrs (Txt.split a b) H Q) mSplit := fun h H a y e z Q dm ry hz k => by
  unfold mSplit at hz
  split at hz
  · split at hz
    · cases hz
      rename_i b hl
      rw [ry.str]
      exact ⟨a, b, rfl, rfl, by simpa using hl.1, hl.2, fun p np => k _ _ (Ex.new np) (strs_dr dm np)⟩
    · cases hz
  · cases hz
def mPart (a : Str) : PyData → Option PyData
  | .str b => if b.length ≠ 0 ∧ a.length ≤ sizeLine then some (.tuple [.str (Txt.partition a b).1, .str (Txt.partition a b).2.1, .str (Txt.partition a b).2.2]) else none
  | _ => none
theorem s_part : M1 K (fun x xs H Q => ∃ a b, x = .str a ∧ xs = [.str b] ∧ (b.length == 0) = false ∧ a.length ≤ sizeLine ∧
    ∀ p, H p = none → Q (.ref p) (upd H p (.tup [.str (Txt.partition a b).1, .str (Txt.partition a b).2.1, .str (Txt.partition a b).2.2]))) mPart := fun h H a y e z Q dm ry hz k => by
  unfold mPart at hz
  split at hz
  · split at hz
    · cases hz
      rename_i b hl
      rw [ry.str]
      exact ⟨a, b, rfl, rfl, by simpa using hl.1, hl.2, fun p np => k _ _ (Ex.new np) (new_tup dm np (.cons (.str _) (.cons (.str _) (.cons (.str _) .nil))))⟩
    · cases hz
  · cases hz
/-- the texts in a list -/
def strsOf : List PyData → Option (List Str)
  | [] => some []
  | .str b :: r => (strsOf r).map (b :: ·)
  | _ :: _ => none
theorem strsOf_is : ∀ {l : List PyData} {bs : List Str}, strsOf l = some bs → l = bs.map PyData.str
  | [], _, h => by cases h; rfl
  | .str b :: r, bs, h => by
    obtain ⟨bs', h1, rfl⟩ := Option.map_eq_some_iff.mp (show (strsOf r).map (b :: ·) = some bs from h)
    rw [strsOf_is h1] <;> rfl
  | .none :: r, _, h => by cases h
  | .int _ :: r, _, h => by cases h
  | .bool _ :: r, _, h => by cases h
  | .list _ :: r, _, h => by cases h
  | .tuple _ :: r, _, h => by cases h
  | .dict _ :: r, _, h => by cases h
theorem strsOf_map : ∀ xs : List Str, strsOf (xs.map PyData.str) = some xs
  | [] => rfl
  | x :: xs => by
    show (strsOf (xs.map PyData.str)).map (x :: ·) = _
    rw [strsOf_map xs] <;> rfl
def joinP (a : Str) (ys : List Str) : Option PyData := if (ys.map (·.length)).sum + ys.length * a.length ≤ 16777216 then some (.str (Txt.join a ys)) else none
def mJoin (a : Str) : PyData → Option PyData
  | .list l => (strsOf l).bind (joinP a)
  | .tuple l => (strsOf l).bind (joinP a)
  | _ => none
theorem s_join : M1 K (fun x xs H Q => ∃ a p, ∃ ys : List Str, x = .str a ∧ xs = [.ref p] ∧ (SqL K H p (ys.map V.str) ∨ SqT K H p (ys.map V.str)) ∧
    (ys.map (·.length)).sum + ys.length * a.length ≤ 16777216 ∧ Q (.str (Txt.join a ys)) H) mJoin := fun h H a y e z Q dm ry hz k => by
  unfold mJoin at hz
  split at hz
  · obtain ⟨ys, h1, h2⟩ := Option.bind_eq_some_iff.mp hz
    unfold joinP at h2
    split at h2
    · cases h2
      rename_i hl
      obtain ⟨p, vs, rfl, q1, q2⟩ := ry.list
      rw [strsOf_is h1] at q2
      rw [q2.strs] at q1
      exact ⟨a, p, ys, rfl, rfl, .inl q1, hl, k _ H (Ex.refl H) (.str _)⟩
    · cases h2
  · obtain ⟨ys, h1, h2⟩ := Option.bind_eq_some_iff.mp hz
    unfold joinP at h2
    split at h2
    · cases h2
      rename_i hl
      obtain ⟨p, vs, rfl, q1, q2⟩ := ry.tuple
      rw [strsOf_is h1] at q2
      rw [q2.strs] at q1
      exact ⟨a, p, ys, rfl, rfl, .inr q1, hl, k _ H (Ex.refl H) (.str _)⟩
    · cases h2
  · cases hz
def mStarts (a : Str) : PyData → Option PyData
  | .str b => some (.bool (Txt.startswith a b))
  | _ => none
theorem s_starts : M1 K (fun x xs H Q => ∃ a b, x = .str a ∧ xs = [.str b] ∧ Q (.bl (Txt.startswith a b)) H) mStarts := fun h H a y e z Q dm ry hz k => by
  unfold mStarts at hz
  split at hz
  · cases hz
    rw [ry.str]
    exact ⟨a, _, rfl, rfl, k _ H (Ex.refl H) (.bl _)⟩
  · cases hz
end

/-! ### f-strings -/
section
variable {X : Cx} {W : WX} {a b c : Expr} {es : List Expr} {f g k : DQ} {fs : DQs} {pos : Pos}
def fmtP : PyData → Option PyData
  | .str y => if y.length ≤ sizeLine then some (.str y) else none
  | .int i => if i.natAbs.log2 < 1920 then some (.str (toString i)) else none
  | _ => none
def dFmt (f : DQ) : DQ := fun ρ => (f ρ).bind fun d => ofO (fmtP d)
theorem q_fmt (p : PV X W a f) : PQ X W (.FormattedValue a (-1) none pos) (dFmt f) := imp_e (pe_fmt p) fun σ H Q ⟨h, ρ, E, q⟩ => by
  unfold dFmt at q
  refine ⟨h, ρ, E, ?_⟩
  cases e1 : f ρ with
  | stuck => rw [e1] at q; exact q
  | err x => rw [e1] at q; exact q
  | ok d =>
    rw [e1] at q
    intro v H1 x1 r
    simp only [Res.bind] at q
    cases d with
    | str y =>
      unfold fmtP at q
      simp only at q
      split at q
      · rename_i hl
        exact .inl ⟨y, r.str, hl, q _ H1 x1 (.str _)⟩
      · exact q.elim
    | int i =>
      unfold fmtP at q
      simp only at q
      split at q
      · rename_i hl
        exact .inr ⟨i, r.int, hl, q _ H1 x1 (.str _)⟩
      · exact q.elim
    | _ => exact q.elim
inductive PJD (X : Cx) (W : WX) : List Expr → List DQ → Prop where
  | nil : PJD X W [] []
  | cons {e : Expr} {f : DQ} {es : List Expr} {fs : List DQ} (h : PQ X W e f) (r : PJD X W es fs) : PJD X W (e :: es) (f :: fs)
def joinD : List DQ → Str → Rho → Res PyData
  | [], acc, _ => .ok (.str acc)
  | f :: fs, acc, ρ => (f ρ).bind fun d => match d with
    | .str y => if (acc ++ y).length ≤ sizeLine then joinD fs (acc ++ y) ρ else .stuck
    | _ => .stuck
theorem pj_of {es : List Expr} {fl : List DQ} (h : PJD X W es fl) : PJ X es (fl.map (tD X W)) := by
  induction h with
  | nil => exact .nil
  | cons p _ ih => exact .cons p ih
theorem reads_js {h : List Addr} {ρ : Rho} {σ : St} : ∀ (fl : List DQ) (acc : Str) (H : Hp) (Q : Str → Hp → Prop), Enr X.K h H σ ρ → Po X.K X.mg (wAt W σ) h H (joinD fl acc ρ) (fun v H' => ∃ y, v = .str y ∧ Q y H') → tJs (fl.map (tD X W)) acc σ H Q
  | [], acc, H, Q, E, q => by
    obtain ⟨y, e, q⟩ := q _ H (Ex.refl H) (.str acc)
    cases e
    exact q
  | f :: fl, acc, H, Q, E, q => by
    refine ⟨h, ρ, E, ?_⟩
    unfold joinD at q
    cases e1 : f ρ with
    | stuck => rw [e1] at q; exact q
    | err x => rw [e1] at q; exact q
    | ok d =>
      rw [e1] at q
      simp only [Res.bind] at q
      intro v H1 x1 r
      cases d with
      | str y =>
        simp only at q
        split at q
        · rename_i hl
          cases r
          exact ⟨y, rfl, hl, reads_js fl (acc ++ y) H1 Q (E.mono x1) (Po.mono q x1)⟩
        · exact q.elim
      | _ => exact q.elim
def dJoined (fl : List DQ) : DQ := joinD fl Str.empty
theorem q_joined {e1 e2 : Expr} {rest : List Expr} {fl : List DQ} (p : PJD X W (e1 :: e2 :: rest) fl) : PQ X W (.JoinedStr (e1 :: e2 :: rest) pos) (dJoined fl) := imp_e (pe_joined (pj_of p)) fun σ H Q ⟨h, ρ, E, q⟩ => by
  have hd : ∀ (fl : List DQ) (acc : Str) (d : PyData), joinD fl acc ρ = .ok d → ∃ y, d = .str y := by
    intro fl
    induction fl with
    | nil => intro acc d e; cases e; exact ⟨acc, rfl⟩
    | cons f fl ih =>
      intro acc d e
      unfold joinD at e
      cases e1 : f ρ with
      | stuck => rw [e1] at e; cases e
      | err x => rw [e1] at e; cases e
      | ok d1 =>
        rw [e1] at e
        simp only [Res.bind] at e
        cases d1 with
        | str y =>
          simp only at e
          split at e
          · exact ih _ _ e
          · cases e
        | _ => cases e
  refine reads_js (W := W) fl Str.empty H _ E ?_
  have hd' := hd fl Str.empty
  revert q hd'
  unfold dJoined
  cases joinD fl Str.empty ρ with
  | stuck => exact fun q _ => q
  | err x => exact fun q _ => q
  | ok d =>
    intro q hd' v H' x r
    obtain ⟨y, rfl⟩ := hd' d rfl
    cases r
    exact ⟨y, rfl, q _ H' x (.str y)⟩
end
end D
end

section
set_option Elab.async false
set_option linter.all false
set_option maxRecDepth 100000
set_option maxHeartbeats 4000000
/-! A list comprehension whose element or test may raise. -/
namespace D
open PySem L2 PyProof.Rows

/-- what is asked behind the block, its own environment known -/
def Cpost (M : Model) (A : Around) (E : Value → Shared → Prop) (use : Option (Value → Sem Unit)) (Q : Value → Shared → Prop) (acc : Value) (ce : PySem.Env) (r : Result) (s' : Shared) : Prop :=
  match r with
  | .ok _ => compPost M A E use Q acc ce.locals (.ok .next) s'
  | .error x => ∃ m, s'.heap.Ns ce.locals m ∧ ∀ h', Heap.SameBut ce.locals s'.heap h' → wpAny M A (PySem.passOn "comprehension.variables-let-go" x ce : Sem Value) (fun _ _ => False) E { s' with heap := h' }

theorem comp_frame {M : Model} {A : Around} {E : Value → Shared → Prop} {s : Shared} {env : Env} {e : Expr} {scope : Scope} {pos : Pos} {newAcc first : Sem Value} {g : Comprehension} {gs : List Comprehension} {cl : List (Str × Addr)} {use : Option (Value → Sem Unit)} {Q : Value → Shared → Prop}
    (hcl : clausesOf e = g :: gs) (hs : ∀ x, foldedSetIterable g.iter env x = pure x) (hclos : closureFor scope env = pure cl) (hkind : scope.kind = .function) (hnames : ∀ x ∈ scope.names, x.2 = .local → scope.names.lookup x.1 = some .local)
    (h : wpAny M A first (fun x s1 => wpAny M A (pyIter x) (fun it s2 => wpAny M A newAcc (fun acc s3 => wpAny M A (newFunctionEnv scope env.globals cl [] env.qual none .none (some env))
      (fun ce s4 => codeAny M A (.compStart e 0 it acc { ce with scope := relabel scope env }) (Cpost M A E use Q acc { ce with scope := relabel scope env }) s4) E s3) E s2) E s1) E s) :
    wpAny M A (comprehension e scope env pos newAcc false first use) Q E s := by
  unfold comprehension
  rw [hclos, hcl]
  have id2 : ∀ (x : Value) (s : Shared), E x s → E x s := fun _ _ z => z
  refine wpAny_bind (wpAny_mono h (fun x s1 h1 => ?_) id2)
  refine wpAny_bind (wpAny_standAt (wpAny_bind (wpAny_of_eq (hs x) ?_)))
  refine wpAny_bind (wpAny_holding (wpAny_mono h1 (fun it s2 h2 => ?_) id2))
  refine wpAny_standIf (wpAny_bind (wpAny_mono h2 (fun acc s3 h3 => ?_) id2))
  refine wpAny_bind (wpAny_pure (wpAny_bind (wpAny_mono h3 (fun ce s4 h4 => ?_) id2)))
  dsimp only
  have own : ∀ x ∈ (scope.names.filter fun x => (x.2 == .local || x.2 == .cell) && x.1 != (".0" : Str)).reverse, x.2 = .local → Env.kindOf { ce with scope := relabel scope env } x.1 = some .local :=
    fun x hx hl => lookup_relabel_local (hnames x (List.mem_filter.mp (List.mem_reverse.mp hx)).1 hl)
  refine wpAny_holding (wpAny_bind (wpAny_attempt (wpAny_holding (wpAny_run (codeAny_mono h4 fun r s' hr => ?_)))))
  cases r with
  | error x =>
    obtain ⟨m, hn, hr⟩ := hr
    refine wpAny_bind (wpAny_holding (wpAny_comp_letGo (cenv := { ce with scope := relabel scope env }) hkind _ s' m own hn fun h' m' _ hs' => ?_))
    exact wpAny_mono (hr h' hs') (fun _ _ f => f.elim) id2
  | ok f =>
    cases use with
    | none =>
      obtain ⟨m, hn, hr⟩ := hr
      refine wpAny_bind (wpAny_holding (wpAny_comp_letGo (cenv := { ce with scope := relabel scope env }) hkind _ s' m own hn fun h' m' _ hs' => ?_))
      exact wpAny_pure (hr h' hs')
    | some u =>
      refine wpAny_bind (wpAny_rule (wpAny_bind (wpAny_holding (wpAny_mono hr (fun _ s2 hr2 => ?_) id2))))
      obtain ⟨m, hn, hr3⟩ := hr2
      refine wpAny_bind (wpAny_comp_letGo (cenv := { ce with scope := relabel scope env }) hkind _ s2 m (fun x hx hl => ?_) hn fun h' m' _ hs' => wpAny_pure (hr3 h' hs'))
      rcases List.mem_append.mp hx with z | z
      · exact own x (List.mem_of_mem_drop z) hl
      · exact own x (List.mem_of_mem_take z) hl

theorem note_same {e : Value} {c d : Env} (h : c.frame = d.frame) : noteFrame e c = noteFrame e d := by
  unfold noteFrame PySem.frameOf
  rw [h]

/-- an exception in the air above a comprehension's block is noted, the block's names go, it is passed on: it is in the air still -/
theorem Sky.noted {M : Model} {A : Around} {E1 : Value → Shared → Prop} {env : Env} {outer : List PySem.Env} {L a : Addr} {Z : Obj → Prop} {B : Heap} {s : Shared} {Q : Unit → Shared → Prop} (hZ : HandSPX.Steady Z) (hfr : A.frames = some (env :: outer)) (hf : env.frame = some L)
    (x : Sky B (env :: outer) a Z L s.heap) (hQ : ∀ h', HandSPX.HeldZ B (env :: outer) a Z L h' → s.heap.UpToSlots h' → Q () { s with heap := h' }) : wpAny M A (noteFrame (.ref a) env) Q E1 s := by
  rcases x with ⟨hB, hn, hl, oe, vs, he, hz, hd, h1⟩ | fl | hh
  · exact HandSPX.look_newZ hZ hfr hl hf he hB hn hd h1 hz hQ
  · exact HandSPX.looks_onZ hZ hfr hf fl hQ
  · exact HandSPX.againZ hf hh.2.2.2 (hQ s.heap hh (Heap.UpToSlots.refl _))

/-- leaving out one record that nobody needs -/
theorem held_drop {B : Heap} {l : List PySem.Env} {a C L : Addr} {Z : Obj → Prop} {h1 h2 : Heap} {oC : Obj} (hh : HandSPX.HeldZ B l a Z L h1) (sb : Heap.SameBut C h1 h2) (hC : h1.get? C = some oC) (dC : ∀ vs, oC.data ≠ .fields vs) (nC : C ∉ frs l) :
    ∃ B2 : Heap, (∀ b o, b ≠ C → B.get? b = some o → B2.get? b = some o) ∧ HandSPX.HeldZ B2 l a Z L h2 := by
  obtain ⟨B2, g1, g2⟩ := restrict B fun b => decide (b ≠ C)
  have old : ∀ b o, B2.get? b = some o → b ≠ C ∧ B.get? b = some o := fun b o e => by
    by_cases hb : b = C
    · rw [g2 b (by simp [hb])] at e; cases e
    · rw [g1 b (by simp [hb])] at e
      exact ⟨hb, e⟩
  have none2 : ∀ b, B.get? b = none → B2.get? b = none := fun b e => by
    cases q : B2.get? b with
    | none => rfl
    | some o => rw [(old b o q).2] at e; cases e
  obtain ⟨k1, k2, k3, oe, vs, T, oT, ts, he, hz, hd, q1, hnT, hTe, hT, hdT, q3⟩ := hh
  have rec_ : ∀ b o, h1.get? b = some o → (∃ fs, o.data = .fields fs) → b ≠ C := fun b o e ⟨fs, d⟩ z => by
    rw [z, hC] at e; cases e
    exact dC fs d
  have fr : ∀ (l' : List PySem.Env), (∀ L' ∈ frs l', L' ≠ C) → h1.FunFrames B l' → h2.FunFrames B2 l' := by
    intro l'
    induction l' with
    | nil => intro _ _; trivial
    | cons env r ih =>
      intro hn hl
      obtain ⟨hk, ⟨L', o, hf, hnb, ho, hdo⟩, hr⟩ := hl
      have mem : L' ∈ frs (env :: r) := List.mem_filterMap.mpr ⟨env, List.mem_cons_self, hf⟩
      refine ⟨hk, ⟨L', o, hf, none2 _ hnb, (sb.2 L' (hn L' mem)).trans ho, hdo⟩, ih (fun L2 m => hn L2 ?_) hr⟩
      obtain ⟨e2, m2, q2⟩ := List.mem_filterMap.mp m
      exact List.mem_filterMap.mpr ⟨e2, List.mem_cons_of_mem _ m2, q2⟩
  refine ⟨B2, fun b o hb e => by rw [g1 b (by simp [hb])]; exact e, fun b o e => ?_, none2 _ k2, fr l (fun L' m z => nC (z ▸ m)) k3, oe, vs, T, oT, ts, ?_, hz, hd, q1, none2 _ hnT, hTe, ?_, hdT, q3⟩
  · obtain ⟨hb, e'⟩ := old b o e
    exact (sb.2 b hb).trans (k1 b o e')
  · exact (sb.2 a (rec_ a oe he ⟨vs, hd⟩)).trans he
  · exact (sb.2 T (rec_ T oT hT ⟨ts, hdT⟩)).trans hT

abbrev _root_.L2.Cx.blkX (X : Cx) (s : Shared) (H : Hp) (scope : Scope) (cenv : PySem.Env) (fp : List Addr) (xe : Value → Shared → Prop) : Cx := { X.blk s H scope cenv fp with xe := xe }
section
variable {X : Cx} {pins : List (Addr × Obj)} {σ : L2.St} {H : Hp} {s : Shared}
theorem ok_blkX {s0 : Shared} {H0 : Hp} {scope : Scope} {ce : Env} {fp : List Addr} {xe : Value → Shared → Prop} (ok : (X.blk s0 H0 scope ce fp).Ok) : (X.blkX s0 H0 scope ce fp xe).Ok :=
  ⟨ok.mod, ok.kind, ok.glob, ok.blt, ok.above, ok.inj, ok.has, ok.cab, ok.hd, ok.frames, ok.stk, ok.exf, ok.bs, ok.bsz, ok.noex, ok.exfs, ok.funs, ok.frf⟩
theorem inv_blkX {s0 : Shared} {H0 : Hp} {scope : Scope} {ce : Env} {fp : List Addr} {xe : Value → Shared → Prop} (I : Inv (X.blk s0 H0 scope ce fp) pins σ H s) : Inv (X.blkX s0 H0 scope ce fp xe) pins σ H s :=
  ⟨ok_blkX I.ok, I.os, I.bare, I.base, I.loc, I.cell, I.free, I.freeC, I.pin, I.hok, I.len⟩

/-- what leaves the block leaves the def's expression -/
theorem block_air {W : WX} {M : Model} {Qf : Value → Shared → Prop} {use : Option (Value → Sem Unit)} {D C : Addr} {ce : PySem.Env} {u : Value} {s1 s' : Shared} {H1 : Hp} (hM : M = model X.prog X.w) (hst : X.stack = X.env :: X.outer) (hfr : X.env.frame = some X.env.locals) (tk : Takes X W)
    (J : Inv X pins σ H1 s1) (fC : FpOk X pins H1 C) (hce : ce.locals = C) (hcf : ce.frame = X.env.frame) (nsC : ∃ m, s1.heap.Ns C m) (c : L2.CX X.prog X.w X.stack H1 s1 (WE W σ) u s') :
    notedBy M X.A ce (fun e s2 => Cpost M X.A X.xe use Qf (.ref D) ce (.error e) s2) u s' := by
  subst hM
  have nst : C ∉ frs X.stack := fun hm => by
    rcases List.mem_cons.mp (J.stkSub C hm) with z | z
    · exact fC.2.1 z
    · exact fC.2.2.1 z
  have nsC' : ∃ m o es ep, s'.heap.get? C = some o ∧ o.data = .dict es ep ∧ ∀ h' : Heap, (∃ sl, h'.get? C = some { o with slots := sl }) → h'.Ns C m := by
    obtain ⟨a, B, H', cls, d, rfl, fl, hok, ub, na, os, ag, hE⟩ := id c
    obtain ⟨m, o, es, ep, ho, hd, r⟩ := nsC
    exact ⟨m, o, es, ep, fl.1 C o (ub.keep C o ho fC.1 nst), hd, fun h' ⟨sl, e⟩ => ⟨_, es, ep, e, hd, r⟩⟩
  have c2 : L2.CX X.prog X.w X.stack H1 s1 (fun cls d H' => H' C = none ∧ W cls d σ H') u s' := by
    obtain ⟨a, B, H', cls, d, rfl, fl, hok, ub, na, os, ag, hE⟩ := id c
    obtain ⟨m, o, es, ep, ho, hd, r⟩ := nsC
    exact ⟨a, B, H', cls, d, rfl, fl, hok, ub, na, os, ag, ub.free C o ho fC.1, hE⟩
  obtain ⟨a, B, sI, pins2, σ2, H2, cls, d, rfl, I2, nb, up, sky, na, os, ag, e2, nC2, w⟩ := XE.of_call (W := fun c d τ H => τ = σ ∧ H C = none ∧ W c d σ H) J (fun _ _ _ q => ⟨rfl, q⟩) c2
  subst e2
  have fr2 : X.A.frames = some (X.env :: X.outer) := by rw [J.ok.frames, hst]
  obtain ⟨m, oC, es, ep, hoC, dC, nsAt⟩ := nsC'
  have dC' : ∀ vs, oC.data ≠ .fields vs := fun vs z => by rw [dC] at z; cases z
  show wpAny _ X.A (noteFrame (.ref a) ce) _ _ s'
  rw [note_same hcf]
  rw [hst] at sky
  refine Sky.noted Zc.steady fr2 hfr sky fun h1 hh up1 => ?_
  obtain ⟨slC, hC1⟩ := up1 C oC hoC dC'
  refine ⟨m, by rw [hce]; exact nsAt h1 ⟨slC, hC1⟩, fun h2 sb => ?_⟩
  rw [hce] at sb
  obtain ⟨B2, kB, hh2⟩ := held_drop hh sb hC1 dC' (by rw [← hst]; exact nst)
  obtain ⟨G, g1, g2⟩ := restrict sI.heap fun b => decide (b ≠ C)
  have gold : ∀ b o, G.get? b = some o → b ≠ C ∧ sI.heap.get? b = some o := fun b o e => by
    by_cases hb : b = C
    · rw [g2 b (by simp [hb])] at e; cases e
    · rw [g1 b (by simp [hb])] at e
      exact ⟨hb, e⟩
  have upC : G.UpToSlots h2 := fun b o e hn => by
    obtain ⟨hb, e1⟩ := gold b o e
    obtain ⟨sl, e2⟩ := up b o e1 hn
    obtain ⟨sl2, e3⟩ := up1 b _ e2 hn
    exact ⟨sl2, (sb.2 b hb).trans e3⟩
  have I0 : Inv X [] σ2 H2 sI := I2.pins_of fun p hp => absurd hp (by simp)
  have I3 : Inv X [] σ2 H2 { sI with heap := G, toks := sI.toks } := I0.turned (it := C) (fun b o hb e => by rw [g1 b (by simp [hb])]; exact e) nC2 fC.2.1 fC.2.2.2.1 fC.2.2.2.2.1 fun p hp => fC.2.2.2.2.2 p (List.mem_append_left _ (by rw [List.append_nil] at hp; exact hp))
  unfold PySem.passOn
  obtain ⟨k1, k2, k3, k4⟩ := id hh2
  obtain ⟨oe, vs, T, oT, ts, he, hz, hd, q1, hnT, hTe, hT, hdT, q3⟩ := id k4
  refine wpAny_bind (wpAny_field he hd q1 ?_)
  rw [if_neg (show ¬ ((Value.ref T == Value.none) = true) from by simp)]
  have fin : wpAny (model X.prog X.w) X.A (setFlight (.ref a) ce.frame) (fun _ s4 => wpAny (model X.prog X.w) X.A (throw (.ref a) : Sem Value) (fun _ _ => False) X.xe s4) X.xe { s' with heap := h2 } := by
    rw [hcf, hfr]
    refine HandSPX.setFlight_anyZ k1 k3 k4 fun h4 z1 z2 z3 z4 => wpAny_throw (tk _ _ ?_)
    exact ⟨a, B2, { sI with heap := G }, [], σ2, H2, cls, d, rfl, I3, fun b o e hb => kB b o (gold b o e).1 (nb b o (gold b o e).2 hb), upC.trans z4, .inr (.inr ⟨z1, k2, by rw [hst]; exact z2, z3⟩), na, os, ag, w⟩
  first
    | exact wpAny_bind (wpAny_pure (wpAny_bind fin))
    | exact wpAny_bind fin

/-- the loop of a block: as the library has it, the exceptions told too -/
theorem block_loop {elt tg iter : Expr} {ifs : List Expr} {scope : Scope} {pos : Pos} {it acc : Value} {env : PySem.Env} {R : Result → Shared → Prop} {s : Shared} {P : Program} {w : World} {A : Around} (I : Nat → Shared → Prop) (XE' : Value → Shared → Prop)
    (hX : ∀ e s', XE' e s' → notedBy (model P w) A env (fun e s2 => R (.error e) s2) e s')
    (turn : ∀ n s, I n s → wpAny (model P w) A (pyNext it) (fun r s1 => match r with
      | none => R (.ok .next) s1
      | some v => wpAny (model P w) A (letOwnedTupleGo tg it v) (fun _ s2 => wpAny (model P w) A (assign tg env v) (fun _ s3 =>
          wpAny (model P w) A (forIn ifs true fun c r => if r = true then do let ok ← isTrue c env (eval c env); pure (ForInStep.yield ok) else pure (ForInStep.yield r)) (fun ok s4 =>
            if ok = true then wpAny (model P w) A (eval elt env) (fun x s5 => wpAny (model P w) A (call (.builtin "list.append") [acc, x]) (fun _ s6 => ∃ m, m < n ∧ I m s6) XE' s5) XE' s4 else ∃ m, m < n ∧ I m s4) XE' s3) XE' s2) XE' s1) XE' s)
    (n : Nat) (h : I n s) : codeAny (model P w) A (.compLoop (.ListComp elt [⟨tg, iter, ifs, 0⟩] scope pos) 0 it acc env) R s := by
  refine compLoop_any I (fun n s hI => ?_) n h
  refine wpAny_mono (turn n s hI) (fun r s1 h1 => ?_) hX
  cases r with
  | none => exact h1
  | some v =>
    refine wpAny_mono h1 (fun _ s2 h2 => wpAny_mono h2 (fun _ s3 h3 => wpAny_mono h3 (fun ok s4 h4 => ?_) hX) hX) hX
    cases ok with
    | false => exact h4
    | true => exact wpAny_mono h4 (fun x s5 h5 => wpAny_mono h5 (fun _ _ z => z) hX) hX

/-- the wish of a block: what a callee may let out, told of the block's own state -/
def blkXe (X : Cx) (W : WX) (σ : L2.St) (pins : List (Addr × Obj)) (C : Addr) : Value → Shared → Prop := fun u s' => ∃ (s1 : Shared) (H1 : Hp), Inv X pins σ H1 s1 ∧ FpOk X pins H1 C ∧ (∃ m, s1.heap.Ns C m) ∧ L2.CX X.prog X.w X.stack H1 s1 (WE W σ) u s'

end
section
variable {X : Cx}
/-- a comprehension whose parts may raise: the parts are judged in the block's context, where a callee's exceptions are wished for at the def's own slots -/
structure BlkPart (X : Cx) (W : WX) (scope : Scope) (tg : Expr) (ifs : List Expr) (elt : Expr) (g : TG) (tt : (σ : L2.St) → TT) (te : (σ : L2.St) → TE) : Prop where
  hg : ∀ (s : Shared) (H : Hp) (C : Addr) (cl : List (Str × Addr)) (fp : List Addr) (xe : Value → Shared → Prop), PG (X.blkX s H scope (compEnvC scope cl C X.env) fp xe) tg g
  ht : ∀ (s : Shared) (H : Hp) (C : Addr) (cl : List (Str × Addr)) (fp : List Addr) (xe : Value → Shared → Prop) (σ : L2.St), Pas (X.blkX s H scope (compEnvC scope cl C X.env) fp xe) (fun c d _ H => W c d σ H) → PTs (X.blkX s H scope (compEnvC scope cl C X.env) fp xe) ifs (tt σ)
  he : ∀ (s : Shared) (H : Hp) (C : Addr) (cl : List (Str × Addr)) (fp : List Addr) (xe : Value → Shared → Prop) (σ : L2.St), Pas (X.blkX s H scope (compEnvC scope cl C X.env) fp xe) (fun c d _ H => W c d σ H) → PE (X.blkX s H scope (compEnvC scope cl C X.env) fp xe) elt (te σ)
def tLcX (wi : TI) (g : TG) (tt : (σ : L2.St) → TT) (te : (σ : L2.St) → TE) (vs : List Nat) : TE := fun σ H Q => tLc wi g (tt σ) (te σ) vs σ H Q
theorem lcx_core {pins : List (Addr × Obj)} {s : Shared} {σ : L2.St} {H : Hp} {Q : VK} {W : WX} {elt tg iter : Expr} {ifs : List Expr} {scope : Scope} {own : List (Str × Nat)} {pos pos' : Pos} {wi : TI} {g : TG} {tt : (σ : L2.St) → TT} {te : (σ : L2.St) → TE} {use : Option (Value → Sem Unit)} {Qf : Value → Shared → Prop}
    (hc : X.calm = true) (hst : X.stack = X.env :: X.outer) (hfr : X.env.frame = some X.env.locals) (tk : Takes X W) (hN : X.N.Nodup) (I : Inv X pins σ H s) (hi : PI X tg iter wi) (ok : BlkOk X.N X.env.scope scope own)
    (parts : BlkPart X W scope tg ifs elt g tt te) (hs : ∀ x, foldedSetIterable iter X.env x = pure x) (h : tLcX wi g tt te (own.map (·.2)) σ H Q)
    (hRR : ∀ D C s' m H', Inv X pins σ H' s' → Q (.ref D) H' → s'.heap.Ns C m → FpOk X pins H' C → compPost (model X.prog X.w) X.A X.xe use Qf (.ref D) C (.ok .next) s') :
    wpAny (model X.prog X.w) X.A (comprehension (.ListComp elt [⟨tg, iter, ifs, 0⟩] scope pos) scope X.env pos' (newList []) false (eval iter X.env) use) Qf X.xe s := by
  have free : ∀ y ∈ scope.names, y.2 = .free → ∃ c, X.env.cells.lookup y.1 = some c := fun y hy e => (ok.free y hy e).elim (fun k => I.ok.has _ (.inl k)) fun k => I.ok.has _ (.inr k)
  refine comp_frame (use := use) rfl hs (closure_ok free) ok.kind (fun y hy e => by rw [ok.uniq y hy, e]) ?_
  refine thn (hi.run pins s σ H _ I h) fun xv s1 hx => thn hx fun itv s2 h2 => ?_
  obtain ⟨it, fp, tn, J, H2, e, I2, T, st2, f2, q⟩ := h2
  subst e
  refine wpAny_newObj_type (newEnv_comp ?_) (by show 0 ≤ sizeLine; decide)
  generalize hD : s2.heap.objs.size = D
  have Dn : H2 D = none := I2.hok.fresh (Nat.le_of_eq hD)
  obtain ⟨Wt, ⟨m0, w0⟩, turn⟩ := q D Dn
  generalize e3 : ({ s2 with heap := s2.heap.push { cls := .type "list", data := .seq ([] : List Value).toArray } } : Shared) = s3
  have h3 : s3.heap = s2.heap.push { cls := .type "list", data := .seq ([] : List Value).toArray } := by rw [← e3]
  have I3 : Inv X pins σ (upd H2 D (.lst [])) s3 := by
    rw [← e3]
    exact I2.laid (t' := s2.toks) (fun b o e => Heap.get?_push_of_some _ e) (Nat.le_of_eq hD) ⟨Nat.zero_le _, [], 0, .nil, by rw [← hD]; exact Heap.get?_push_size _ rfl⟩
  have below : ∀ b ∈ fp, b < s2.heap.objs.size := fun b hb => let ⟨_, e, _⟩ := T.obj _ _ st2 b hb; Heap.lt_size e
  have f3 : ∀ b ∈ fp, FpOk X pins (upd H2 D (.lst [])) b ∧ b < s3.heap.objs.size := fun b hb =>
    ⟨⟨by rw [upd_ne (by rw [← hD]; exact Nat.ne_of_lt (below b hb))]; exact (f2 b hb).1, (f2 b hb).2⟩, by rw [h3, Heap.size_push]; exact Nat.lt_succ_of_lt (below b hb)⟩
  have st3 : tn 0 s3.heap := T.keep _ _ _ st2 fun b _ o e => by rw [h3]; exact Heap.get?_push_of_some _ e
  have I4 := block_start I3 ok hN f3
  have nfp : ∀ b ∈ fp, (upd H2 D (.lst [])) b = none := fun b hb => (f3 b hb).1.1
  have P := parts
  show codeAny _ _ (.compStart (.ListComp elt [⟨tg, iter, ifs, 0⟩] scope pos) 0 (.ref it) (.ref D) (compEnvC scope (cellsFrom (s3.heap.objs.size + 1) scope.names (cloFrom X.env.cells scope.names [])) s3.heap.objs.size X.env))
    (Cpost (model X.prog X.w) X.A X.xe use Qf (.ref D) (compEnvC scope (cellsFrom (s3.heap.objs.size + 1) scope.names (cloFrom X.env.cells scope.names [])) s3.heap.objs.size X.env)) { s3 with heap := pushCells (s3.heap.push { cls := .type "dict", data := .dict #[] }) scope.names }
  have pg := P.hg s3 (upd H2 D (.lst [])) s3.heap.objs.size (cellsFrom (s3.heap.objs.size + 1) scope.names (cloFrom X.env.cells scope.names [])) fp (blkXe X W σ pins s3.heap.objs.size)
  have pt := P.ht s3 (upd H2 D (.lst [])) s3.heap.objs.size (cellsFrom (s3.heap.objs.size + 1) scope.names (cloFrom X.env.cells scope.names [])) fp (blkXe X W σ pins s3.heap.objs.size) σ
  have pe := P.he s3 (upd H2 D (.lst [])) s3.heap.objs.size (cellsFrom (s3.heap.objs.size + 1) scope.names (cloFrom X.env.cells scope.names [])) fp (blkXe X W σ pins s3.heap.objs.size) σ
  have cF : (compEnvC scope (cellsFrom (s3.heap.objs.size + 1) scope.names (cloFrom X.env.cells scope.names [])) s3.heap.objs.size X.env).frame = X.env.frame := rfl
  generalize hce : compEnvC scope (cellsFrom (s3.heap.objs.size + 1) scope.names (cloFrom X.env.cells scope.names [])) s3.heap.objs.size X.env = ce at I4 pg pt pe cF ⊢
  have cL : ce.locals = s3.heap.objs.size := by subst hce; rfl
  generalize hH3 : upd H2 D (.lst []) = H3 at I3 I4 pg pt pe w0 nfp f3
  generalize hs4 : ({ s3 with heap := pushCells (s3.heap.push { cls := .type "dict", data := .dict #[] }) scope.names } : Shared) = s4 at I4 ⊢
  have st4 : tn 0 s4.heap := T.keep _ _ _ st3 fun b _ o e => by rw [← hs4]; exact pushCells_keeps _ _ _ _ (Heap.get?_push_of_some _ e)
  -- from the block's state to the def's
  have back : ∀ {xe : Value → Shared → Prop} {pns : List (Addr × Obj)} {σ' : L2.St} {H' : Hp} {s' : Shared}, Inv (X.blkX s3 H3 scope ce fp xe) pns σ' H' s' → Inv X pins σ H' s' ∧ FpOk X pins H' s3.heap.objs.size ∧ ∃ m, s'.heap.Ns s3.heap.objs.size m := fun {xe pns σ' H' s'} I' => by
    have z : H' ce.locals = none := I'.free
    obtain ⟨m, hn, _⟩ := id I'.loc
    have hn : s'.heap.Ns ce.locals m := hn
    rw [cL] at z hn
    exact ⟨I3.call' (ch := fp) I'.os I'.base I'.hok I'.bare fun b hb => ⟨(f3 b hb).1.2.2.2.1, (f3 b hb).1.2.1, (f3 b hb).1.2.2.2.2.1, (f3 b hb).1.2.2.2.2.2⟩, I3.fpOk (Nat.le_refl _) z, m, hn⟩
  have pas : Pas (X.blkX s3 H3 scope ce fp (blkXe X W σ pins s3.heap.objs.size)) (fun c d _ H => W c d σ H) := fun τ pns H' s' e s2 I' c => by
    obtain ⟨b1, b2, b3⟩ := back I'
    exact ⟨s', H', b1, b2, b3, c⟩
  have pt := pt pas
  have pe := pe pas
  have I4x : Inv (X.blkX s3 H3 scope ce fp (blkXe X W σ pins s3.heap.objs.size)) [] (wipe σ (own.map (·.2))) H3 s4 := inv_blkX I4
  have stat : ∀ {xe : Value → Shared → Prop} {σ' : L2.St} {H' : Hp} {s' : Shared}, Inv (X.blkX s3 H3 scope ce fp xe) [] σ' H' s' → (∀ b ∈ fp, H' b = none) → ∀ b ∈ fp, FpOk (X.blkX s3 H3 scope ce fp xe) [] H' b := fun {xe σ' H' s'} I' hn b hb =>
    ⟨hn b hb, (I'.ok.exf b hb).1, I'.ok.exfs b hb, .inl hb, fun x c e => (I'.ok.exf b hb).2 x c e, fun p hp => absurd (show p ∈ ([] : List (Addr × Obj)) ++ [] from hp) (by simp)⟩
  have loop : codeAny (model X.prog X.w) X.A (.compLoop (.ListComp elt [⟨tg, iter, ifs, 0⟩] scope pos) 0 (.ref it) (.ref D) ce) (Cpost (model X.prog X.w) X.A X.xe use Qf (.ref D) ce) s4 := by
    refine block_loop (fun n s' => ∃ i H', Inv (X.blkX s3 H3 scope ce fp (blkXe X W σ pins s3.heap.objs.size)) [] (wipe σ (own.map (·.2))) H' s' ∧ tn i s'.heap ∧ (∀ b ∈ fp, H' b = none) ∧ Wt i n H') (blkXe X W σ pins s3.heap.objs.size) (fun u s' hu => ?_) ?_ m0 ⟨0, H3, I4x, st4, nfp, w0⟩
    · obtain ⟨s1, H1, b1, b2, b3, c⟩ := hu
      exact block_air rfl hst hfr tk b1 b2 cL cF b3 c
    rintro n s5 ⟨i, H5, I5, st5, n5, w5⟩
    rcases turn i n H5 w5 with ⟨stop, qq⟩ | ⟨go, Nx, hNx, step⟩
    · refine thn (T.done (X.blkX s3 H3 scope ce fp (blkXe X W σ pins s3.heap.objs.size)) rfl rfl rfl hc i [] s5 _ H5 _ I5 (stat I5 n5) st5 stop) fun r s6 ⟨hr, I6⟩ => ?_
      subst hr
      obtain ⟨b1, b2, m, b3⟩ := back I6
      show compPost _ _ _ _ _ _ ce.locals _ s6
      rw [cL]
      exact hRR D s3.heap.objs.size s6 m H5 b1 qq b3 b2
    · refine thn (T.item (X.blkX s3 H3 scope ce fp (blkXe X W σ pins s3.heap.objs.size)) rfl rfl rfl hc i [] s5 _ H5 _ I5 (stat I5 n5) st5 go) fun r s6 ⟨u, hr, h6⟩ => ?_
      subst hr
      refine thn h6 fun _ s7 ⟨x, H7, I7, r7, y7, st7, n7⟩ => ?_
      have I7p := I7.pinned (stat I7 n7) (T.obj _ _ st7)
      refine thn (pg.run _ s7 _ H7 x u _ I7p r7 (step x H7 y7)) fun _ s8 ⟨σ8, H8, I8, hw8, q8⟩ => ?_
      refine thn (pt.run _ s8 σ8 H8 _ I8 q8) fun b s9 ⟨H9, I9, q9⟩ => ?_
      have fin : ∀ {s' : Shared} {H' : Hp}, Inv (X.blkX s3 H3 scope ce fp (blkXe X W σ pins s3.heap.objs.size)) ([] ++ pinsAt fp s7.heap) σ8 H' s' → Nx H' →
          ∃ m, m < n ∧ ∃ i H', Inv (X.blkX s3 H3 scope ce fp (blkXe X W σ pins s3.heap.objs.size)) [] (wipe σ (own.map (·.2))) H' s' ∧ tn i s'.heap ∧ (∀ b ∈ fp, H' b = none) ∧ Wt i m H' := fun {s' H'} I' nx => by
        obtain ⟨m', hm, w'⟩ := hNx H' nx
        have at_ : ∀ b ∈ fp, ∀ o, s7.heap.get? b = some o → s'.heap.get? b = some o ∧ H' b = none := fun b hb o e =>
          ⟨(I'.pin (b, o) (List.mem_append_right _ (List.mem_append_right _ (mem_pinsAt hb e)))).1, (I'.pin (b, o) (List.mem_append_right _ (List.mem_append_right _ (mem_pinsAt hb e)))).2.1⟩
        refine ⟨m', hm, i + 1, H', (I'.unpinned (pins := [])).weak (by rw [← hw8, wipe_length]) (fun j v e => ?_), T.keep _ _ _ st7 fun b hb o e => (at_ b hb o e).1, fun b hb => ?_, w'⟩
        · rw [← hw8] at e
          exact (wipe_some e).1
        · obtain ⟨o, e, _⟩ := T.obj _ _ st7 b hb
          exact (at_ b hb o e).2
      cases b with
      | false =>
        simp only [Bool.false_eq_true, if_false] at q9 ⊢
        exact fin I9 q9
      | true =>
        simp only [if_true] at q9 ⊢
        refine thn (pe.run _ s9 σ8 H9 _ I9 q9) fun z sA ⟨yv, HA, IA, rA, acc, hDA, hzA, nx⟩ => ?_
        exact app_ok (X := X.blkX s3 H3 scope ce fp (blkXe X W σ pins s3.heap.objs.size)) IA hDA hzA rA fun sB IB => fin IB nx
  exact codeAny_compStart_list loop (T.self X.A 0 _ _ _ st4 loop)
theorem pe_lcX {W : WX} {elt tg iter : Expr} {ifs : List Expr} {scope : Scope} {own : List (Str × Nat)} {pos : Pos} {wi : TI} {g : TG} {tt : (σ : L2.St) → TT} {te : (σ : L2.St) → TE} (hc : X.calm = true) (hst : X.stack = X.env :: X.outer) (hfr : X.env.frame = some X.env.locals) (tk : Takes X W) (hN : X.N.Nodup)
    (hi : PI X tg iter wi) (ok : BlkOk X.N X.env.scope scope own) (parts : BlkPart X W scope tg ifs elt g tt te) (hs : ∀ x, foldedSetIterable iter X.env x = pure x := by intro _; rfl) : PE X (.ListComp elt [⟨tg, iter, ifs, 0⟩] scope pos) (tLcX wi g tt te (own.map (·.2))) := by
  refine ⟨fun pins s σ H Q I h => ?_⟩
  rw [eval_ListComp]
  refine lcx_core hc hst hfr tk hN I hi ok parts hs h fun D C s' m H' I' q hn f => ⟨m, hn, fun h2 sb => ?_⟩
  exact ⟨.ref D, H', I'.turned (t' := s'.toks) (fun b o hb e => (sb.2 b hb).trans e) f.1 f.2.1 f.2.2.2.1 f.2.2.2.2.1 f.2.2.2.2.2, rfl, q⟩
/-- y = [..] on one line -/
theorem ps_setLcX {W : WX} {i : Nat} {y : Str} {py : Pos} {elt tg iter : Expr} {ifs : List Expr} {scope : Scope} {own : List (Str × Nat)} {pos spos : Pos} {wi : TI} {g : TG} {tt : (σ : L2.St) → TT} {te : (σ : L2.St) → TE} (hc : X.calm = true) (hst : X.stack = X.env :: X.outer) (hfr : X.env.frame = some X.env.locals) (tk : Takes X W) (hN : X.N.Nodup)
    (hy : X.N[i]? = some y) (hyl : X.env.scope.names.lookup y = some .local) (hsw : swapsWith (.ListComp elt [⟨tg, iter, ifs, 0⟩] scope pos) (some (.Name y py)) spos.line X.env = pure true) (hi : PI X tg iter wi) (ok : BlkOk X.N X.env.scope scope own) (parts : BlkPart X W scope tg ifs elt g tt te)
    (hs : ∀ x, foldedSetIterable iter X.env x = pure x := by intro _; rfl) : PS X (.Assign [.Name y py] (.ListComp elt [⟨tg, iter, ifs, 0⟩] scope pos) spos) (tAsg (tLcX wi g tt te (own.map (·.2))) (gName i)) := by
  refine ⟨fun pins s σ H D I h => ?_⟩
  rw [exec_Assign_Name_used _ _ _ _ hsw]
  refine wpAny_bind (wpAny_standAt (wpAny_bind ?_))
  show wpAny _ X.A (do let _ ← comprehension (.ListComp elt [⟨tg, iter, ifs, 0⟩] scope pos) scope X.env (firstIterPos [⟨tg, iter, ifs, 0⟩] pos) (newList []) false (eval iter X.env) (some (assign (.Name y py) X.env))) _ _ s
  have h : tLcX wi g tt te (own.map (·.2)) σ H (fun x H1 => gName i x σ H1 D.nx) := h
  refine wpAny_bind (thn (lcx_core (Qf := fun _ s' => SP X pins D .next s') hc hst hfr tk hN I hi ok parts hs h fun L C s' m H' I' q hn f => ?_) fun _ s' hq => wpAny_pure (wpAny_pure hq))
  show wpAny _ _ (assign (.Name y py) X.env (.ref L)) _ _ _
  refine wpAny_assign_Name (store_ok2 (v := V.ref L) I' hN hy (.inl hyl) rfl (fun s2 I2 ⟨a, sb, ha⟩ => ?_) (.inr hyl))
  have haC : C ≠ a := ha.elim (fun z => by rw [z]; exact f.2.1) fun z e => f.2.2.2.2.1 y a z e.symm
  exact ⟨m, hn.sameBut sb haC, fun h3 sb3 => ⟨_, H', I2.turned (t' := s2.toks) (fun b o hb e => (sb3.2 b hb).trans e) f.1 f.2.1 f.2.2.2.1 f.2.2.2.2.1 f.2.2.2.2.2, q⟩⟩
end
end D
end

section
set_option Elab.async false
set_option linter.all false
set_option maxRecDepth 100000
set_option maxHeartbeats 4000000
/-! Walks over data, targets, comprehensions by data, isinstance, sorted. -/
namespace D
open PySem L2

/-! ### what is walked -/
/-- the iterator J yields the data ds, wherever what was known still stands -/
def ItD (K : Frag) (h : List Addr) (J : It) (ds : List PyData) (H1 : Hp) : Prop :=
  ∀ (h' : List Addr) (H' : Hp), Dom h' H' → Ex (hid h H1) (hid h' H') →
    (∀ i d, ds[i]? = some d → J.go i H' ∧ ∀ x H'', J.yld i H' x H'' → Ex H' H'' ∧ Dr K (hid h' H'') x d) ∧ J.stop ds.length H'
/-- .. wherever all that stood stands -/
def ItV (K : Frag) (h : List Addr) (J : It) (ds : List PyData) (H1 : Hp) : Prop :=
  ∀ (h' : List Addr) (H' : Hp), Dom h' H' → Ex H1 H' → Ex (hid h H1) (hid h' H') →
    (∀ i d, ds[i]? = some d → J.go i H' ∧ ∀ x H'', J.yld i H' x H'' → Ex H' H'' ∧ Dr K (hid h' H'') x d) ∧ J.stop ds.length H'
theorem ItD.v {K : Frag} {h : List Addr} {J : It} {ds : List PyData} {H1 : Hp} (w : ItD K h J ds H1) : ItV K h J ds H1 := fun h' H' d _ e => w h' H' d e
def PoI (K : Frag) (mg : Str → Option Value) (W : Wk) (h : List Addr) (H : Hp) (r : Res (List PyData)) (S : It → List PyData → Hp → Prop) (R : It → Hp → Prop) : Prop := match r with
  | .stuck => False
  | .err e => ∀ C H', mg e = some (.ref C) → Ex H H' → W (.ref C) none H'
  | .ok ds => ∀ J H', Ex H H' → S J ds H' → R J H'
def tID (X : Cx) (W : WX) (f : DQs) : TI := fun σ H R => ∃ h ρ, Enr X.K h H σ ρ ∧ PoI X.K X.mg (wAt W σ) h H (f ρ) (ItD X.K h) R
def tIV (X : Cx) (W : WX) (f : DQs) : TI := fun σ H R => ∃ h ρ, Enr X.K h H σ ρ ∧ PoI X.K X.mg (wAt W σ) h H (f ρ) (ItV X.K h) R
abbrev PItD (X : Cx) (W : WX) (tg iter : Expr) (f : DQs) : Prop := PI X tg iter (tID X W f)
abbrev PItV (X : Cx) (W : WX) (tg iter : Expr) (f : DQs) : Prop := PI X tg iter (tIV X W f)
theorem imp_i {X : Cx} {tg e : Expr} {t t' : TI} (p : PI X tg e t) (h : ∀ σ H R, t' σ H R → t σ H R) : PI X tg e t' := ⟨fun pins s σ H R I q => p.run pins s σ H R I (h σ H R q)⟩
theorem PI.or {X : Cx} {tg e : Expr} {t t' : TI} (p : PI X tg e t) (p' : PI X tg e t') : PI X tg e (fun σ H R => t σ H R ∨ t' σ H R) := ⟨fun pins s σ H R I q => by
  rcases q with q | q
  · exact p.run pins s σ H R I q
  · exact p'.run pins s σ H R I q⟩
section
variable {X : Cx} {W : WX} {a b : Expr} {es : List Expr} {f g : DQ} {fs : DQs} {pos : Pos} {tg : Expr}
theorem iv (p : PItD X W tg a fs) : PItV X W tg a fs := imp_i p fun σ H R ⟨h, ρ, E, q⟩ => by
  refine ⟨h, ρ, E, ?_⟩
  revert q
  cases fs ρ with
  | stuck => exact id
  | err x => exact id
  | ok ds => exact fun q J H' e w => q J H' e w.v
/-- the items of data that one can walk -/
def itemsP : PyData → Option (List PyData)
  | .list l => some l
  | .tuple l => some l
  | .str z => some (z.cps.toList.map fun c => .str ⟨#[c]⟩)
  | _ => none
def dItems (f : DQ) : DQs := fun ρ => (f ρ).bind fun d => ofO (itemsP d)
theorem dr_up {K : Frag} {H1 H' : Hp} {h h' : List Addr} {v : V} {d : PyData} (e : Ex (hid h H1) (hid h' H')) (r : Dr K (hid h H1) v d) : Dr K (hid h' H') v d := r.mono e
theorem itl_d {K : Frag} {h : List Addr} {p : Addr} {vs : List V} {l : List PyData} {H1 : Hp} (s : SqL K (hid h H1) p vs) (r : DrA K (hid h H1) vs l) : ItD K h (Itl K p) l H1 := fun h' H' dm e => by
  have s' : SqL K H' p vs := (hid_le h' H').seqL (e.seqL s)
  refine ⟨fun i d q => ?_, vs, s', by rw [r.length]; exact Nat.le_refl _⟩
  obtain ⟨v, h1, h2⟩ := r.get q
  refine ⟨⟨vs, v, s', h1⟩, fun x H'' y => ?_⟩
  obtain ⟨e1, y⟩ := y
  subst e1
  have z := y vs s'
  rw [h1] at z
  cases z
  exact ⟨Ex.refl _, h2.mono e⟩
theorem itl_v {K : Frag} {h : List Addr} {p : Addr} {vs : List V} {l : List PyData} {H1 : Hp} (s : SqL K H1 p vs) (r : DrA K (hid h H1) vs l) : ItV K h (Itl K p) l H1 := fun h' H' dm e0 e => by
  have s' : SqL K H' p vs := e0.seqL s
  refine ⟨fun i d q => ?_, vs, s', by rw [r.length]; exact Nat.le_refl _⟩
  obtain ⟨v, h1, h2⟩ := r.get q
  refine ⟨⟨vs, v, s', h1⟩, fun x H'' y => ?_⟩
  obtain ⟨e1, y⟩ := y
  subst e1
  have z := y vs s'
  rw [h1] at z
  cases z
  exact ⟨Ex.refl _, h2.mono e⟩
theorem itt_d {K : Frag} {h : List Addr} {p : Addr} {vs : List V} {l : List PyData} {H1 : Hp} (s : SqT K (hid h H1) p vs) (r : DrA K (hid h H1) vs l) : ItD K h (Itt K p) l H1 := fun h' H' dm e => by
  have s' : SqT K H' p vs := (hid_le h' H').seqT (e.seqT s)
  refine ⟨fun i d q => ?_, vs, s', by rw [r.length]; exact Nat.le_refl _⟩
  obtain ⟨v, h1, h2⟩ := r.get q
  refine ⟨⟨vs, v, s', h1⟩, fun x H'' y => ?_⟩
  obtain ⟨e1, y⟩ := y
  subst e1
  have z := y vs s'
  rw [h1] at z
  cases z
  exact ⟨Ex.refl _, h2.mono e⟩
theorem its_d {K : Frag} {h : List Addr} {z : Str} {H1 : Hp} : ItD K h (Its z) (z.cps.toList.map fun c => .str ⟨#[c]⟩) H1 := fun h' H' dm e => by
  refine ⟨fun i d q => ?_, by show z.cps.size ≤ _; rw [List.length_map, Array.length_toList]; exact Nat.le_refl _⟩
  rw [List.getElem?_map] at q
  obtain ⟨c, hc, rfl⟩ := Option.map_eq_some_iff.mp q
  have hc' : z.cps[i]? = some c := by rw [← Array.getElem?_toList]; exact hc
  refine ⟨(Array.getElem?_eq_some_iff.mp hc').1, fun x H'' y => ?_⟩
  obtain ⟨e1, c', h1, h2⟩ := y
  subst e1 h2
  rw [hc'] at h1
  cases h1
  exact ⟨Ex.refl _, .str _⟩
theorem Dr.listD {K : Frag} {H : Hp} {v : V} {l : List PyData} (x : Dr K H v (.list l)) : ∃ p vs, v = .ref p ∧ SqL K H p vs ∧ DrA K H vs l := by
  cases x with
  | lst h1 h2 => exact ⟨_, _, rfl, h1, h2⟩
theorem Dr.tupleD {K : Frag} {H : Hp} {v : V} {l : List PyData} (x : Dr K H v (.tuple l)) : ∃ p vs, v = .ref p ∧ SqT K H p vs ∧ DrA K H vs l := by
  cases x with
  | tup h1 h2 => exact ⟨_, _, rfl, h1, h2⟩
/-- a walk over what an expression gives -/
theorem i_any (p : PQ X W a f) : PItD X W tg a (dItems f) := imp_i (PI.or (pi_list p) (PI.or (pi_tup p) (pi_str p))) fun σ H R ⟨h, ρ, E, q⟩ => by
  unfold dItems at q
  cases e1 : f ρ with
  | stuck => rw [e1] at q; exact q.elim
  | err x => rw [e1] at q; exact .inl ⟨h, ρ, E, by rw [e1]; exact q⟩
  | ok d =>
    rw [e1] at q
    simp only [Res.bind] at q
    cases d with
    | list l => exact .inl ⟨h, ρ, E, by
        rw [e1]
        intro v H1 x1 r
        obtain ⟨p, vs, rfl, s, r'⟩ := r.listD
        exact ⟨p, rfl, ⟨vs, (hid_le h H1).seqL s⟩, q _ H1 x1 (itl_d s r')⟩⟩
    | tuple l => exact .inr (.inl ⟨h, ρ, E, by
        rw [e1]
        intro v H1 x1 r
        obtain ⟨p, vs, rfl, s, r'⟩ := r.tupleD
        exact ⟨p, rfl, ⟨vs, (hid_le h H1).seqT s⟩, q _ H1 x1 (itt_d s r')⟩⟩)
    | str z => exact .inr (.inr ⟨h, ρ, E, by
        rw [e1]
        intro v H1 x1 r
        cases r
        exact ⟨z, rfl, q _ H1 x1 its_d⟩⟩)
    | _ => exact q.elim
/-- over a list of the frame's own -/
theorem i_own (p : PV X W a f) : PItV X W tg a (dItems f) := imp_i (PI.or (pi_list p) (PI.or (pi_tup p) (pi_str p))) fun σ H R ⟨h, ρ, E, q⟩ => by
  unfold dItems at q
  cases e1 : f ρ with
  | stuck => rw [e1] at q; exact q.elim
  | err x => rw [e1] at q; exact .inl ⟨h, ρ, E, by rw [e1]; exact q⟩
  | ok d =>
    rw [e1] at q
    simp only [Res.bind] at q
    cases d with
    | list l => exact .inl ⟨h, ρ, E, by
        rw [e1]
        intro v H1 x1 r
        obtain ⟨p, vs, rfl, s, r'⟩ := r.list
        exact ⟨p, rfl, ⟨vs, s⟩, q _ H1 x1 (itl_v s r')⟩⟩
    | tuple l => exact .inr (.inl ⟨h, ρ, E, by
        rw [e1]
        intro v H1 x1 r
        rcases r with r | ⟨_, _, _, _, e, _⟩
        · obtain ⟨p, vs, rfl, s, r'⟩ := r.tupleD
          exact ⟨p, rfl, ⟨vs, (hid_le h H1).seqT s⟩, q _ H1 x1 (itt_d s r').v⟩
        · cases e⟩)
    | str z => exact .inr (.inr ⟨h, ρ, E, by
        rw [e1]
        intro v H1 x1 r
        exact ⟨z, r.str, q _ H1 x1 its_d.v⟩⟩)
    | _ => exact q.elim
/-- range(n), range(a, b) -/
def rngP : List PyData → Option (List PyData)
  | [.int n] => if -(2 ^ 62) ≤ n ∧ n < 2 ^ 62 then some ((List.range n.toNat).map fun (i : Nat) => .int ((i : Nat) : Int)) else none
  | _ => none
def rngP2 : List PyData → Option (List PyData)
  | [.int a, .int b] => if -(2 ^ 62) ≤ a ∧ a < 2 ^ 62 ∧ -(2 ^ 62) ≤ b ∧ b < 2 ^ 62 then some ((List.range (b - a).toNat).map fun (i : Nat) => .int (a + ((i : Nat) : Int))) else none
  | _ => none
def dRng (fs : DQs) : DQs := fun ρ => (fs ρ).bind fun ds => ofO (rngP ds)
def dRng2 (fs : DQs) : DQs := fun ρ => (fs ρ).bind fun ds => ofO (rngP2 ds)
theorem itr_d {K : Frag} {h : List Addr} {lo : Int} {n : Nat} {H1 : Hp} : ItD K h (Itr lo n) ((List.range n).map fun (i : Nat) => .int (lo + ((i : Nat) : Int))) H1 := fun h' H' dm e => by
  refine ⟨fun i d q => ?_, by show n ≤ _; rw [List.length_map, List.length_range]; exact Nat.le_refl _⟩
  rw [List.getElem?_map] at q
  obtain ⟨c, hc, rfl⟩ := Option.map_eq_some_iff.mp q
  obtain ⟨hl, hv⟩ := List.getElem?_eq_some_iff.mp hc
  rw [List.length_range] at hl
  rw [List.getElem_range] at hv
  subst hv
  refine ⟨hl, fun x H'' y => ?_⟩
  obtain ⟨e1, y⟩ := y
  subst e1 y
  exact ⟨Ex.refl _, .int _⟩
theorem i_rng {p : Pos} (pa : PQs X W [a] fs) (hm : X.mg "range" = none) (hg : Gl X "range" := by rfl) (hs : starEach [a] X.env = [(false, eval a X.env)] := by rfl) : PItD X W tg (.Call (.Name "range" p) [a] [] pos) (dRng fs) := imp_i (pi_range1 hg hm pa hs) fun σ H R ⟨h, ρ, E, q⟩ => by
  unfold dRng at q
  refine ⟨h, ρ, E, ?_⟩
  cases e1 : fs ρ with
  | stuck => rw [e1] at q; exact q
  | err x => rw [e1] at q; exact q
  | ok ds =>
    rw [e1] at q
    simp only [Res.bind] at q
    intro vs H1 x1 r
    unfold rngP at q
    split at q
    · split at q
      · rename_i hb
        cases r with
        | cons r1 r2 =>
          cases r1
          cases r2
          refine ⟨_, rfl, hb.1, hb.2, q _ H1 x1 ?_⟩
          have z := itr_d (K := X.K) (h := h) (lo := 0) (n := (show Int from by assumption).toNat) (H1 := H1)
          simpa only [Int.zero_add] using z
      · exact q.elim
    · exact q.elim
theorem i_rng2 {p : Pos} (pa : PQs X W [a, b] fs) (hm : X.mg "range" = none) (hg : Gl X "range" := by rfl) (hs : starEach [a, b] X.env = [(false, eval a X.env), (false, eval b X.env)] := by rfl) (hs2 : starEach [b] X.env = [(false, eval b X.env)] := by rfl) :
    PItD X W tg (.Call (.Name "range" p) [a, b] [] pos) (dRng2 fs) := imp_i (pi_range2 hg hm pa hs hs2) fun σ H R ⟨h, ρ, E, q⟩ => by
  unfold dRng2 at q
  refine ⟨h, ρ, E, ?_⟩
  cases e1 : fs ρ with
  | stuck => rw [e1] at q; exact q
  | err x => rw [e1] at q; exact q
  | ok ds =>
    rw [e1] at q
    simp only [Res.bind] at q
    intro vs H1 x1 r
    unfold rngP2 at q
    split at q
    · split at q
      · rename_i hb
        cases r with
        | cons r1 r2 =>
          cases r1
          cases r2 with
          | cons r3 r4 =>
            cases r3
            cases r4
            exact ⟨_, _, rfl, hb, q _ H1 x1 itr_d⟩
      · exact q.elim
    · exact q.elim
/-- zip of two lists, of two tuples -/
def zipP : List PyData → Option (List PyData)
  | [.list a, .list b] => some ((a.zip b).map fun p => .tuple [p.1, p.2])
  | [.tuple a, .tuple b] => some ((a.zip b).map fun p => .tuple [p.1, p.2])
  | _ => none
def dZip (fs : DQs) : DQs := fun ρ => (fs ρ).bind fun ds => ofO (zipP ds)
theorem zip_get {a b : List PyData} {i : Nat} {d : PyData} (q : ((a.zip b).map fun p => PyData.tuple [p.1, p.2])[i]? = some d) : ∃ x y, a[i]? = some x ∧ b[i]? = some y ∧ d = .tuple [x, y] := by
  rw [List.getElem?_map] at q
  obtain ⟨⟨x, y⟩, hc, rfl⟩ := Option.map_eq_some_iff.mp q
  obtain ⟨h1, h2⟩ := List.getElem?_zip_eq_some.mp hc
  exact ⟨x, y, h1, h2, rfl⟩
theorem zip_len (a b : List PyData) : a.length ≤ ((a.zip b).map fun p => PyData.tuple [p.1, p.2]).length ∨ b.length ≤ ((a.zip b).map fun p => PyData.tuple [p.1, p.2]).length := by
  rw [List.length_map, List.length_zip]
  omega
theorem pair_dr {K : Frag} {h' : List Addr} {H' : Hp} {T : Addr} {x y : V} {d e : PyData} (dm : Dom h' H') (nT : H' T = none) (r1 : Dr K (hid h' H') x d) (r2 : Dr K (hid h' H') y e) : Dr K (hid h' (upd H' T (.tup [x, y]))) (.ref T) (.tuple [d, e]) :=
  new_tup dm nT (.cons r1 (.cons r2 .nil))
theorem i_zip {p tpos : Pos} {elts : List Expr} {kk : Nat} (pa : PQs X W [a, b] fs) (hm : X.mg "zip" = none) (hg : Gl X "zip" := by rfl) (hs : starEach [a, b] X.env = (false, eval a X.env) :: starEach [b] X.env := by rfl) (hpl : (backTo pos (starEach [b] X.env)).any (·.1) = false := by rfl) :
    PItD X W (.Tuple elts kk tpos) (.Call (.Name "zip" p) [a, b] [] pos) (dZip fs) := imp_i (RZ.pi_zipA hg hm pa hs hpl) fun σ H R ⟨h, ρ, E, q⟩ => by
  unfold dZip at q
  refine ⟨h, ρ, E, ?_⟩
  cases e1 : fs ρ with
  | stuck => rw [e1] at q; exact q
  | err x => rw [e1] at q; exact q
  | ok ds =>
    rw [e1] at q
    simp only [Res.bind] at q
    intro vs H1 x1 r
    unfold zipP at q
    split at q
    · cases r with
      | cons r1 r2 =>
        cases r2 with
        | cons r3 r4 =>
          cases r4
          obtain ⟨p1, vs1, rfl, s1, k1⟩ := r1.listD
          obtain ⟨p2, vs2, rfl, s2, k2⟩ := r3.listD
          refine ⟨p1, p2, vs1, vs2, rfl, .inl ⟨(hid_le h H1).seqL s1, (hid_le h H1).seqL s2, q _ H1 x1 fun h' H' dm e => ?_⟩⟩
          have t1 : SqL X.K H' p1 vs1 := (hid_le h' H').seqL (e.seqL s1)
          have t2 : SqL X.K H' p2 vs2 := (hid_le h' H').seqL (e.seqL s2)
          refine ⟨fun i d qd => ?_, vs1, vs2, t1, t2, ?_⟩
          · obtain ⟨x, y, hx, hy, rfl⟩ := zip_get qd
            obtain ⟨u, hu, ru⟩ := k1.get hx
            obtain ⟨w, hw, rw'⟩ := k2.get hy
            refine ⟨⟨vs1, vs2, u, w, t1, t2, hu, hw⟩, fun z H'' ⟨T, u', w', e2, nT, e3, g1, g2⟩ => ?_⟩
            subst e2 e3
            have z1 := g1 vs1 t1
            have z2 := g2 vs2 t2
            rw [hu] at z1
            rw [hw] at z2
            cases z1
            cases z2
            exact ⟨Ex.new nT, pair_dr dm nT (ru.mono e) (rw'.mono e)⟩
          · rw [k1.length, k2.length]
            exact zip_len _ _
    · cases r with
      | cons r1 r2 =>
        cases r2 with
        | cons r3 r4 =>
          cases r4
          obtain ⟨p1, vs1, rfl, s1, k1⟩ := r1.tupleD
          obtain ⟨p2, vs2, rfl, s2, k2⟩ := r3.tupleD
          refine ⟨p1, p2, vs1, vs2, rfl, .inr ⟨(hid_le h H1).seqT s1, (hid_le h H1).seqT s2, q _ H1 x1 fun h' H' dm e => ?_⟩⟩
          have t1 : SqT X.K H' p1 vs1 := (hid_le h' H').seqT (e.seqT s1)
          have t2 : SqT X.K H' p2 vs2 := (hid_le h' H').seqT (e.seqT s2)
          refine ⟨fun i d qd => ?_, vs1, vs2, t1, t2, ?_⟩
          · obtain ⟨x, y, hx, hy, rfl⟩ := zip_get qd
            obtain ⟨u, hu, ru⟩ := k1.get hx
            obtain ⟨w, hw, rw'⟩ := k2.get hy
            refine ⟨⟨vs1, vs2, u, w, t1, t2, hu, hw⟩, fun z H'' ⟨T, u', w', e2, nT, e3, g1, g2⟩ => ?_⟩
            subst e2 e3
            have z1 := g1 vs1 t1
            have z2 := g2 vs2 t2
            rw [hu] at z1
            rw [hw] at z2
            cases z1
            cases z2
            exact ⟨Ex.new nT, pair_dr dm nT (ru.mono e) (rw'.mono e)⟩
          · rw [k1.length, k2.length]
            exact zip_len _ _
    · exact q.elim
end
end D
end

section
set_option Elab.async false
set_option linter.all false
set_option maxRecDepth 100000
set_option maxHeartbeats 4000000
/-! Targets, comprehensions by data, isinstance. -/
namespace D
open PySem L2

/-! ### slots set -/
def setR (ρ : Rho) (l : List (Nat × PyData)) : Rho := l.foldl (fun r p => r.set p.1 (.dat p.2)) ρ
def setS (σ : L2.St) (l : List (Nat × V)) : L2.St := l.foldl (fun r p => r.set p.1 (some p.2)) σ
theorem setR_len (l : List (Nat × PyData)) : ∀ ρ : Rho, (setR ρ l).length = ρ.length := by
  induction l with
  | nil => exact fun _ => rfl
  | cons p l ih => exact fun ρ => (ih _).trans List.length_set
theorem hid_sub {h h' : List Addr} {H : Hp} (s : ∀ a ∈ h, a ∈ h') : Ex (hid h' H) (hid h H) := fun a o e => by
  obtain ⟨h1, h2, h3⟩ := hid_some e
  exact hid_mk (fun m => h1 (s a m)) h2 h3
theorem Enr.set1 {K : Frag} {h : List Addr} {H : Hp} {σ : L2.St} {ρ : Rho} (E : Enr K h H σ ρ) (i : Nat) {v : V} {d : PyData} (r : Dr K (hid h H) v d) : Enr K h H (σ.set i (some v)) (ρ.set i (.dat d)) where
  dom := E.dom
  len := by rw [List.length_set, List.length_set]; exact E.len
  slot := fun j e q => by
    by_cases hj : i = j
    · subst hj
      rw [List.getElem?_set] at q ⊢
      rw [if_pos rfl] at q ⊢
      rw [E.len]
      split at q
      · rename_i hl
        cases q
        rw [if_pos hl]
        exact ⟨v, rfl, r⟩
      · cases q
    · rw [List.getElem?_set_ne hj] at q ⊢
      exact E.slot j e q
  own := fun j l q => by
    by_cases hj : i = j
    · subst hj
      rw [List.getElem?_set] at q
      rw [if_pos rfl] at q
      split at q <;> cases q
    · rw [List.getElem?_set_ne hj] at q ⊢
      exact E.own j l q
  apart := fun j k l l' p q1 q2 s1 s2 => by
    have ne : ∀ {j l}, (ρ.set i (Itm.dat d))[j]? = some (.own l) → i ≠ j := fun {j l} q z => by
      subst z
      rw [List.getElem?_set] at q
      rw [if_pos rfl] at q
      split at q <;> cases q
    have n1 := ne q1
    have n2 := ne q2
    rw [List.getElem?_set_ne n1] at q1 s1
    rw [List.getElem?_set_ne n2] at q2 s2
    exact E.apart j k l l' p q1 q2 s1 s2
theorem Enr.setMany {K : Frag} {h : List Addr} {H : Hp} : ∀ {us : List (Nat × V)} {l : List (Nat × PyData)} {σ : L2.St} {ρ : Rho}, Enr K h H σ ρ → us.map (·.1) = l.map (·.1) → DrA K (hid h H) (us.map (·.2)) (l.map (·.2)) → Enr K h H (setS σ us) (setR ρ l)
  | [], [], _, _, E, _, _ => E
  | (i, v) :: us, (j, d) :: l, σ, ρ, E, e, r => by
    rw [List.map_cons, List.map_cons] at e
    have e1 : i = j := (List.cons.inj e).1
    subst e1
    cases r with
    | cons r1 r2 =>
      show Enr K h H (setS (σ.set i (some v)) us) (setR (ρ.set i (.dat d)) l)
      exact Enr.setMany (Enr.set1 E i r1) (List.cons.inj e).2 r2
def wipeR (ρ : Rho) : List Nat → Rho
  | [] => ρ
  | v :: vs => (wipeR ρ vs).set v .un
theorem Enr.unset1 {K : Frag} {h : List Addr} {H : Hp} {σ : L2.St} {ρ : Rho} (E : Enr K h H σ ρ) (i : Nat) (v : Option V) : Enr K h H (σ.set i v) (ρ.set i .un) where
  dom := E.dom
  len := by rw [List.length_set, List.length_set]; exact E.len
  slot := fun j e q => by
    by_cases hj : i = j
    · subst hj
      rw [List.getElem?_set] at q
      rw [if_pos rfl] at q
      split at q <;> cases q
    · rw [List.getElem?_set_ne hj] at q ⊢
      exact E.slot j e q
  own := fun j l q => by
    by_cases hj : i = j
    · subst hj
      rw [List.getElem?_set] at q
      rw [if_pos rfl] at q
      split at q <;> cases q
    · rw [List.getElem?_set_ne hj] at q ⊢
      exact E.own j l q
  apart := fun j k l l' p q1 q2 s1 s2 => by
    have ne : ∀ {j l}, (ρ.set i Itm.un)[j]? = some (.own l) → i ≠ j := fun {j l} q z => by
      subst z
      rw [List.getElem?_set] at q
      rw [if_pos rfl] at q
      split at q <;> cases q
    have n1 := ne q1
    have n2 := ne q2
    rw [List.getElem?_set_ne n1] at q1 s1
    rw [List.getElem?_set_ne n2] at q2 s2
    exact E.apart j k l l' p q1 q2 s1 s2
theorem Enr.wiped {K : Frag} {h : List Addr} {H : Hp} {σ : L2.St} {ρ : Rho} (E : Enr K h H σ ρ) : ∀ vs : List Nat, Enr K h H (wipe σ vs) (wipeR ρ vs)
  | [] => E
  | v :: vs => (Enr.wiped E vs).unset1 v none
/-- one list more is hidden -/
theorem Ex.hide {h : List Addr} {H H' : Hp} {T : List (Addr × Str)} {L : Addr} (e : Ex H H') (n : Nw T H L) : Ex (_root_.D.hid h H) (_root_.D.hid (L :: h) H') := fun a o q => by
  obtain ⟨h1, h2, h3⟩ := hid_some q
  exact hid_mk (fun z => (List.mem_cons.mp z).elim (n.hid q) h1) (e a o h2) h3
theorem Enr.hide {K : Frag} {h : List Addr} {H H' : Hp} {σ : L2.St} {ρ : Rho} {T : List (Addr × Str)} {L : Addr} (E : Enr K h H σ ρ) (e : Ex H H') (n : Nw T H L) (n' : ∃ xs, H' L = some (.lst xs)) : Enr K (L :: h) H' σ ρ where
  dom := fun a m => (List.mem_cons.mp m).elim (fun z => by rw [z]; exact n') (fun z => (E.dom.mono e) a z)
  len := E.len
  slot := fun i d q => by
    obtain ⟨v, h1, h2⟩ := E.slot i d q
    exact ⟨v, h1, h2.mono (e.hide n)⟩
  own := fun i l q => by
    obtain ⟨p, vs, h1, h2, h3, h4⟩ := E.own i l q
    exact ⟨p, vs, h1, List.mem_cons_of_mem _ h2, e _ _ h3, h4.mono (e.hide n)⟩
  apart := E.apart
theorem wipe_cons {σ : L2.St} {v : Nat} {vs : List Nat} : wipe σ (v :: vs) = (wipe σ vs).set v none := rfl
theorem wipe_set_out {i : Nat} {v : Option V} {σ : L2.St} : ∀ {vs : List Nat}, i ∉ vs → wipe (σ.set i v) vs = (wipe σ vs).set i v
  | [], _ => rfl
  | x :: vs, hn => by
    have h1 : i ≠ x := fun z => hn (by rw [z]; exact List.mem_cons_self)
    rw [wipe_cons, wipe_cons, wipe_set_out fun m => hn (List.mem_cons_of_mem _ m), List.set_comm _ _ h1]
theorem wipe_set_in {i : Nat} {v : Option V} {σ : L2.St} : ∀ {vs : List Nat}, i ∈ vs → wipe (σ.set i v) vs = wipe σ vs
  | [], hi => by cases hi
  | x :: vs, hi => by
    rw [wipe_cons, wipe_cons]
    by_cases e : i ∈ vs
    · rw [wipe_set_in e]
    · have e2 : i = x := (List.mem_cons.mp hi).resolve_right e
      subst e2
      rw [wipe_set_out e, List.set_set]
theorem setS_wipe {vs : List Nat} : ∀ (us : List (Nat × V)), (∀ i ∈ us.map (·.1), i ∈ vs) → ∀ σ' : L2.St, wipe (setS σ' us) vs = wipe σ' vs
  | [], _, _ => rfl
  | (i, v) :: us, h, σ' => by
    have z : wipe (setS σ' ((i, v) :: us)) vs = wipe (setS (σ'.set i (some v)) us) vs := rfl
    rw [z, setS_wipe us (fun j m => h j (List.mem_cons_of_mem _ m)), wipe_set_in (h i List.mem_cons_self)]
theorem wipe_wipe {σ : L2.St} (vs : List Nat) : wipe (wipe σ vs) vs = wipe σ vs := by
  have key : ∀ us : List Nat, (∀ i ∈ us, i ∈ vs) → wipe (wipe σ vs) us = wipe σ vs := by
    intro us
    induction us with
    | nil => exact fun _ => rfl
    | cons x us ih =>
      intro h
      rw [wipe_cons, ih fun i m => h i (List.mem_cons_of_mem _ m)]
      refine List.ext_getElem? fun j => ?_
      by_cases e : x = j
      · subst e
        rw [List.getElem?_set, if_pos rfl]
        have hx : x ∈ vs := h x List.mem_cons_self
        cases q : (wipe σ vs)[x]? with
        | none => rw [if_neg (by have := List.getElem?_eq_none_iff.mp q; omega)]
        | some o =>
          rw [if_pos (List.getElem?_eq_some_iff.mp q).1]
          cases o with
          | none => rfl
          | some y => exact absurd hx (wipe_some q).2
      · rw [List.getElem?_set_ne e]
  exact key vs fun _ m => m

/-! ### targets -/
abbrev Tgt := PyData → Option (List (Nat × PyData))
abbrev Tgts := List PyData → Option (List (Nat × PyData))
def gD (K : Frag) (f : Tgt) : TG := fun v σ H Q => ∃ h d l, Dr K (hid h H) v d ∧ f d = some l ∧ ∀ us : List (Nat × V), us.map (·.1) = l.map (·.1) → DrA K (hid h H) (us.map (·.2)) (l.map (·.2)) → Q (setS σ us) H
def gDs (K : Frag) (f : Tgts) : TGs := fun vs σ H Q => ∃ h ds l, DrA K (hid h H) vs ds ∧ f ds = some l ∧ ∀ us : List (Nat × V), us.map (·.1) = l.map (·.1) → DrA K (hid h H) (us.map (·.2)) (l.map (·.2)) → Q (setS σ us) H
abbrev PGD (X : Cx) (tg : Expr) (f : Tgt) : Prop := PG X tg (gD X.K f)
abbrev PGDs (X : Cx) (tgs : List Expr) (f : Tgts) : Prop := PGs X tgs (gDs X.K f)
theorem imp_g {X : Cx} {tg : Expr} {t t' : TG} (p : PG X tg t) (h : ∀ v σ H Q, t' v σ H Q → t v σ H Q) : PG X tg t' := ⟨fun pins s σ H v u Q I r q => p.run pins s σ H v u Q I r (h v σ H Q q)⟩
theorem imp_gs {X : Cx} {tgs : List Expr} {t t' : TGs} (p : PGs X tgs t) (h : ∀ v σ H Q, t' v σ H Q → t v σ H Q) : PGs X tgs t' := ⟨fun pins s σ H v u Q I r q => p.run pins s σ H v u Q I r (h v σ H Q q)⟩
theorem PG.or {X : Cx} {tg : Expr} {t t' : TG} (p : PG X tg t) (p' : PG X tg t') : PG X tg (fun v σ H Q => t v σ H Q ∨ t' v σ H Q) := ⟨fun pins s σ H v u Q I r q => by
  rcases q with q | q
  · exact p.run pins s σ H v u Q I r q
  · exact p'.run pins s σ H v u Q I r q⟩
section
variable {X : Cx} {pos : Pos}
def gtN (i : Nat) : Tgt := fun d => some [(i, d)]
def gtNil : Tgts := fun ds => match ds with
  | [] => some []
  | _ => none
def gtCons (f : Tgt) (g : Tgts) : Tgts := fun ds => match ds with
  | d :: ds => (f d).bind fun a => (g ds).bind fun b => some (a ++ b)
  | [] => none
def gtSeq (n : Nat) (g : Tgts) : Tgt := fun d => match d with
  | .tuple ds => if ds.length = n then g ds else none
  | .list ds => if ds.length = n then g ds else none
  | _ => none
theorem g_n {i : Nat} {x : Str} (hN : X.N.Nodup) (hi : X.N[i]? = some x) (hx : Loc X.env.scope x) (hf : X.fn x = true ∨ X.env.scope.names.lookup x = some .local := by first | exact .inl rfl | exact .inr rfl | assumption) : PGD X (.Name x pos) (gtN i) := imp_g (pg_name hN hi hx hf) fun v σ H Q ⟨h, d, l, r, e, k⟩ => by
  cases e
  exact k [(i, v)] rfl (.cons r .nil)
theorem gs_nil : PGDs X [] gtNil := imp_gs pgs_nil fun vs σ H Q ⟨h, ds, l, r, e, k⟩ => by
  cases r with
  | nil =>
    cases e
    exact ⟨rfl, k [] rfl .nil⟩
  | cons _ _ => cases e
theorem setS_app (σ : L2.St) (us ws : List (Nat × V)) : setS σ (us ++ ws) = setS (setS σ us) ws := List.foldl_append ..
theorem gs_cons {e : Expr} {es : List Expr} {f : Tgt} {g : Tgts} (h1 : PGD X e f) (h2 : PGDs X es g) (hs : (assignEach (e :: es) X.env).map (·.2) = assign e X.env :: (assignEach es X.env).map (·.2) := by rfl) : PGDs X (e :: es) (gtCons f g) :=
  imp_gs (pgs_cons h1 h2 hs) fun vs σ H Q ⟨h, ds, l, r, e, k⟩ => by
    cases r with
    | nil => cases e
    | cons r1 r2 =>
      unfold gtCons at e
      obtain ⟨a, ea, e⟩ := Option.bind_eq_some_iff.mp e
      obtain ⟨b, eb, e⟩ := Option.bind_eq_some_iff.mp e
      cases e
      refine ⟨_, _, rfl, h, _, a, r1, ea, fun us e1 k1 => ⟨h, _, b, r2, eb, fun ws e2 k2 => ?_⟩⟩
      rw [← setS_app]
      exact k _ (by rw [List.map_append, List.map_append, e1, e2]) (by rw [List.map_append, List.map_append]; exact k1.append k2)
theorem g_tup {es : List Expr} {k n : Nat} {g : Tgts} (hc : X.calm = true) (p : PGDs X es g) (hn : (assignEach es X.env).length = n := by rfl) (hst : (assignEach es X.env).findIdx? (·.1) = none := by rfl) : PGD X (.Tuple es k pos) (gtSeq n g) :=
  imp_g (PG.or (pg_tup hc p hn hst) (pg_lst hc p hn hst)) fun v σ H Q ⟨h, d, l, r, e, kk⟩ => by
    unfold gtSeq at e
    split at e
    · split at e
      · rename_i hl
        obtain ⟨p1, vs1, rfl, s1, k1⟩ := r.tupleD
        exact .inl ⟨p1, vs1, rfl, (hid_le h H).seqT s1, k1.length.trans hl, h, _, l, k1, e, kk⟩
      · cases e
    · split at e
      · rename_i hl
        obtain ⟨p1, vs1, rfl, s1, k1⟩ := r.listD
        exact .inr ⟨p1, vs1, rfl, (hid_le h H).seqL s1, k1.length.trans hl, h, _, l, k1, e, kk⟩
      · cases e
    · cases e
end
end D
end

section
set_option Elab.async false
set_option linter.all false
set_option maxRecDepth 100000
set_option maxHeartbeats 4000000
/-! isinstance, comprehensions by data (quiet ones). -/
namespace D
open PySem L2
section
variable {K : Frag}
def tyName : PyData → String
  | .none => "NoneType"
  | .bool _ => "bool"
  | .int _ => "int"
  | .str _ => "str"
  | .list _ => "list"
  | .tuple _ => "tuple"
  | .dict _ => "dict"
theorem tyx_l {H : Hp} {a : Addr} {xs : List V} (s : SqL K H a xs) : TyX K H (.ref a) (.type "list") := by
  rcases s with (s | ⟨o, s⟩) | ⟨o, its, n, h1, h2, _⟩
  · exact .base (.lst s)
  · exact .base (.frz s)
  · exact .kList h1 h2
theorem tyx_t {H : Hp} {a : Addr} {xs : List V} (s : SqT K H a xs) : TyX K H (.ref a) (.type "tuple") := by
  rcases s with (s | ⟨o, s⟩) | ⟨o, its, n, h1, h2, _⟩
  · exact .base (.tup s)
  · exact .fTuple s
  · exact .kTuple h1 h2
theorem Dr.ty {H : Hp} : ∀ {d : PyData} {v : V}, Dr K H v d → TyX K H v (.type (tyName d))
  | .none, _, h => by cases h; exact .base .non
  | .bool b, _, h => by cases h; exact .base (.bl b)
  | .int i, _, h => by cases h; exact .base (.int i)
  | .str x, _, h => by cases h; exact .base (.str x)
  | .list ds, _, h => by
    cases h with
    | lst h1 h2 => exact tyx_l h1
  | .tuple ds, _, h => by
    cases h with
    | tup h1 h2 => exact tyx_t h1
  | .dict ds, _, h => by
    cases h with
    | dic0 h1 => exact .base (.dK h1)
end
section
variable {X : Cx} {W : WX} {a b elt iter tg : Expr} {es : List Expr} {f g : DQ} {fs : DQs} {pos : Pos}
/-- isinstance(x, T) -/
def dIsi (T : String) (f : DQ) : DQ := fun ρ => (f ρ).bind fun d => match kitB (tyName d) T with
  | some r => .ok (.bool r)
  | none => .stuck
theorem q_isi {x : Str} {T : String} {p p2 : Pos} (pa : PV X W a f) (hi : X.mg "isinstance" = none) (hm : X.mg x = none) (hv : bootBuiltins x = some (.type T)) (hn : x ≠ "__name__") (hd : (x == ("__debug__" : Str)) = false) (hg : Gl X x := by rfl) (hgi : Gl X "isinstance" := by rfl)
    (hs : starEach [a, .Name x p2] X.env = (false, eval a X.env) :: starEach [.Name x p2] X.env := by rfl) (hs2 : starEach [.Name x p2] X.env = (false, eval (.Name x p2) X.env) :: starEach [] X.env := by rfl) (hpl : (backTo pos (starEach [.Name x p2] X.env)).any (·.1) = false := by rfl) :
    PQ X W (.Call (.Name "isinstance" p) [a, .Name x p2] [] pos) (dIsi T f) :=
  imp_e (pe_callB call_isi hgi hi (by decide +kernel) (pa_cons pa (pa_cons (pe_bltn (v := .ty T) hg hm hv (show Value.type T = Value.type T from rfl) hn hd) pa_nil hs2) hs) (by decide) (by decide) hs hpl) fun σ H Q ⟨h, ρ, E, q⟩ => by
    unfold dIsi at q
    refine ⟨h, ρ, E, ?_⟩
    cases e1 : f ρ with
    | stuck => rw [e1] at q; exact q
    | err x => rw [e1] at q; exact q
    | ok d =>
      rw [e1] at q
      simp only [Res.bind] at q
      intro v H1 x1 r
      cases e2 : kitB (tyName d) T with
      | none => rw [e2] at q; exact q.elim
      | some k =>
        rw [e2] at q
        exact ⟨v, .ty T, _, _, k, rfl, .ty T, r.dr.ty, kit_ty e2, q _ H1 x1 (.bl k)⟩

/-! ### comprehensions -/
def lcL (tgt : Tgt) (t : DT) (e : DQ) (ρ : Rho) : List PyData → Res (List PyData)
  | [] => .ok []
  | d :: ds => match tgt d with
    | none => .stuck
    | some l => (t (setR ρ l)).bind fun b => if b = true then (e (setR ρ l)).bind fun y => (lcL tgt t e ρ ds).bind fun ys => .ok (y :: ys) else lcL tgt t e ρ ds
def dLc (its : DQs) (tgt : Tgt) (t : DT) (e : DQ) (vs : List Nat) : DQ := fun ρ => (its ρ).bind fun ds => if ds.length ≤ 100000 then (lcL tgt t e (wipeR ρ vs) ds).bind fun ys => .ok (.list ys) else .stuck
def dYes : DT := fun _ => .ok true
abbrev PBs (X : Cx) (W : WX) (ifs : List Expr) (t : DT) : Prop := PTs X ifs (tT X W t)
theorem imp_ts {X : Cx} {ifs : List Expr} {t t' : TT} (p : PTs X ifs t) (h : ∀ σ H Q, t' σ H Q → t σ H Q) : PTs X ifs t' := ⟨fun pins s σ H Q I q => p.run pins s σ H Q I (h σ H Q q)⟩
theorem bs_nil : PBs X W [] dYes := imp_ts pts_nil fun σ H Q ⟨h, ρ, E, q⟩ => q H (Ex.refl H)
theorem bs_one {t : DT} (p : PB X W a t) : PBs X W [a] t := pts_one p
/-- the slots that a target writes -/
def Writes (f : Tgt) (vs : List Nat) : Prop := ∀ d l, f d = some l → ∀ i ∈ l.map (·.1), i ∈ vs
def Writess (f : Tgts) (vs : List Nat) : Prop := ∀ d l, f d = some l → ∀ i ∈ l.map (·.1), i ∈ vs
theorem wr_n {i : Nat} {vs : List Nat} (h : i ∈ vs) : Writes (gtN i) vs := fun d l e j m => by
  cases e
  rw [List.map_cons, List.map_nil, List.mem_singleton] at m
  rw [m]
  exact h
theorem wr_nil {vs : List Nat} : Writess gtNil vs := fun d l e j m => by
  unfold gtNil at e
  split at e
  · cases e; cases m
  · cases e
theorem wr_cons {f : Tgt} {g : Tgts} {vs : List Nat} (h1 : Writes f vs) (h2 : Writess g vs) : Writess (gtCons f g) vs := fun d l e j m => by
  unfold gtCons at e
  split at e
  · obtain ⟨a, ea, e⟩ := Option.bind_eq_some_iff.mp e
    obtain ⟨b, eb, e⟩ := Option.bind_eq_some_iff.mp e
    cases e
    rw [List.map_append] at m
    exact (List.mem_append.mp m).elim (h1 _ _ ea j) (h2 _ _ eb j)
  · cases e
theorem wr_seq {n : Nat} {g : Tgts} {vs : List Nat} (h : Writess g vs) : Writes (gtSeq n g) vs := fun d l e j m => by
  unfold gtSeq at e
  split at e
  · split at e
    · exact h _ _ e j m
    · cases e
  · split at e
    · exact h _ _ e j m
    · cases e
  · cases e
def Wo (W : WX) (σ : L2.St) : WX := fun c d _ H => W c d σ H
theorem drop_get {α : Type} {l : List α} {i : Nat} {x : α} (h : l[i]? = some x) : l.drop i = x :: l.drop (i + 1) := by
  obtain ⟨h1, h2⟩ := List.getElem?_eq_some_iff.mp h
  rw [List.drop_eq_getElem_cons h1, h2]
def preR (ys : List PyData) (r : Res (List PyData)) : Res PyData := r.bind fun zs => .ok (.list (ys ++ zs))
theorem preR_nil (r : Res (List PyData)) : preR [] r = r.bind fun ys => .ok (.list ys) := by cases r <;> rfl
theorem reads_lc {its : DQs} {tgt : Tgt} {t : DT} {e : DQ} {vs : List Nat} (wr : Writes tgt vs) : ∀ σ H Q, tD X W (dLc its tgt t e vs) σ H Q → tLcX (tIV X W its) (gD X.K tgt) (fun σ => tT X (Wo W σ) t) (fun σ => tD X (Wo W σ) e) vs σ H Q := fun σ H Q ⟨h, ρ, E, q⟩ => by
  unfold dLc at q
  refine ⟨h, ρ, E, ?_⟩
  cases e1 : its ρ with
  | stuck => rw [e1] at q; exact q
  | err x => rw [e1] at q; exact q
  | ok ds =>
    rw [e1] at q
    simp only [Res.bind] at q
    split at q
    case isFalse => exact q.elim
    rename_i hz
    intro J H1 x1 w L nL
    have n0 : H L = none := by
      cases z : H L with
      | none => rfl
      | some o => rw [x1 _ _ z] at nL; cases nL
    have dm1 : Dom h H1 := E.dom.mono x1
    have ne : ∀ b o, H1 b = some o → b ≠ L := fun b o z => ne_of_none z nL
    have q0 : Po X.K X.mg (wAt W σ) h H (preR [] (lcL tgt t e (wipeR ρ vs) ds)) Q := by
      rw [preR_nil]
      exact q
    clear q
    refine ⟨fun i m Hc => m = ds.length - i ∧ i ≤ ds.length ∧ Ex H1 Hc ∧ ∃ acc ys, Hc L = some (.lst acc) ∧ acc.length ≤ i ∧ DrA X.K (hid (L :: h) Hc) acc ys ∧ Po X.K X.mg (wAt W σ) h H (preR ys (lcL tgt t e (wipeR ρ vs) (ds.drop i))) Q, ⟨_, rfl, Nat.zero_le _, fun b o z => by rw [upd_ne (ne b o z)]; exact z, [], [], upd_same, Nat.le_refl _, .nil, q0⟩, ?_⟩
    rintro i m Hc ⟨rfl, hi, xc, acc, ys, hL, hl, ra, q⟩
    have xH : Ex (hid h H1) (hid (L :: h) Hc) := Ex.hide (T := []) xc (.of nL)
    have dmc : Dom (L :: h) Hc := fun a ha => (List.mem_cons.mp ha).elim (fun z => by rw [z]; exact ⟨_, hL⟩) ((dm1.mono xc) a)
    obtain ⟨items, stop⟩ := w (L :: h) Hc dmc xc xH
    by_cases hend : i = ds.length
    · subst hend
      rw [List.drop_length] at q
      simp only [preR, lcL, Res.bind, List.append_nil] at q
      have nLh : L ∉ h := dm1.out nL
      exact .inl ⟨stop, q _ Hc (x1.trans xc) (.lst (SqL.of (hid_mk nLh hL fun _ z => nomatch z)) (ra.mono (hid_sub fun a m => List.mem_cons_of_mem _ m)))⟩
    · have hlt : i < ds.length := Nat.lt_of_le_of_ne hi hend
      obtain ⟨go, yld⟩ := items i ds[i] (List.getElem?_eq_getElem hlt)
      refine .inr ⟨go, fun H' => Ex H1 H' ∧ ∃ acc ys, H' L = some (.lst acc) ∧ acc.length ≤ i + 1 ∧ DrA X.K (hid (L :: h) H') acc ys ∧ Po X.K X.mg (wAt W σ) h H (preR ys (lcL tgt t e (wipeR ρ vs) (ds.drop (i + 1)))) Q,
        fun H' ⟨z1, acc', ys', z2, z3, z4, z5⟩ => ⟨_, (by omega), rfl, hlt, z1, acc', ys', z2, z3, z4, z5⟩, fun x H'' y => ?_⟩
      obtain ⟨x2, rx⟩ := yld x H'' y
      rw [drop_get (List.getElem?_eq_getElem hlt)] at q
      cases e2 : tgt ds[i] with
      | none => simp only [preR, lcL, e2, Res.bind] at q; exact q.elim
      | some l =>
        simp only [preR, lcL, e2] at q
        refine ⟨_, _, l, rx, e2, fun us k1 k2 => ?_⟩
        have hw : wipe (setS (wipe σ vs) us) vs = wipe σ vs := (setS_wipe us (fun j m => wr _ _ e2 j (by rw [← k1]; exact m)) _).trans (wipe_wipe vs)
        have hL2 : H'' L = some (.lst acc) := x2 _ _ hL
        have xa : Ex H H'' := (x1.trans xc).trans x2
        have E2 : Enr X.K (L :: h) H'' (setS (wipe σ vs) us) (setR (wipeR ρ vs) l) := Enr.setMany (Enr.hide (T := []) (E.wiped vs) xa (.of n0) ⟨_, hL2⟩) k1 k2
        refine ⟨hw, L :: h, _, E2, ?_⟩
        cases e3 : t (setR (wipeR ρ vs) l) with
        | stuck => simp only [e3, Res.bind] at q; exact q.elim
        | err z => simp only [e3, Res.bind] at q; exact fun C H' m z => q C H' m (xa.trans z)
        | ok b =>
          simp only [e3, Res.bind] at q
          intro H3 x3
          have hL3 : H3 L = some (.lst acc) := x3 _ _ hL2
          have ra3 : DrA X.K (hid (L :: h) H3) acc ys := ra.mono ((x2.trans x3).hid)
          cases b with
          | false => exact ⟨(xc.trans x2).trans x3, acc, ys, hL3, Nat.le_succ_of_le hl, ra3, q⟩
          | true =>
            simp only [if_true] at q ⊢
            refine ⟨L :: h, _, E2.mono x3, ?_⟩
            cases e4 : e (setR (wipeR ρ vs) l) with
            | stuck => simp only [e4] at q; exact q.elim
            | err z => simp only [e4] at q; exact fun C H' m z => q C H' m ((xa.trans x3).trans z)
            | ok y =>
              simp only [e4] at q
              intro v H4 x4 r4
              have hL4 : H4 L = some (.lst acc) := x4 _ _ hL3
              refine ⟨acc, hL4, Nat.lt_of_le_of_lt hl (Nat.lt_of_lt_of_le hlt (Nat.le_trans hz (by decide))), fun b o z => ?_, acc ++ [v], ys ++ [y], upd_same, ?_, ?_, ?_⟩
              · rw [upd_ne (ne b o z)]
                exact x4 _ _ (x3 _ _ (x2 _ _ (xc _ _ z)))
              · rw [List.length_append, List.length_singleton]
                exact Nat.succ_le_succ hl
              · have xx : Ex (hid (L :: h) H4) (hid (L :: h) (upd H4 L (.lst (acc ++ [v])))) := fun b o z => by
                  obtain ⟨g1, g2, g3⟩ := hid_some z
                  exact hid_mk g1 (by rw [upd_ne (fun z => g1 (by rw [z]; exact List.mem_cons_self))]; exact g2) g3
                exact ((ra3.mono x4.hid).snoc r4).mono xx
              · have e5 : preR (ys ++ [y]) (lcL tgt t e (wipeR ρ vs) (ds.drop (i + 1))) = ((lcL tgt t e (wipeR ρ vs) (ds.drop (i + 1))).bind fun ys' => .ok (y :: ys')).bind fun zs => .ok (.list (ys ++ zs)) := by
                  unfold preR
                  cases lcL tgt t e (wipeR ρ vs) (ds.drop (i + 1)) with
                  | stuck => rfl
                  | err z => rfl
                  | ok zs => simp only [Res.bind, List.append_assoc, List.singleton_append]
                rw [e5]
                exact q
theorem q_lc {its : DQs} {tgt : Tgt} {t : DT} {e : DQ} {ifs : List Expr} {scope : Scope} {own : List (Str × Nat)} (hc : X.calm = true) (hst : X.stack = X.env :: X.outer) (hfr : X.env.frame = some X.env.locals) (tk : Takes X W) (hN : X.N.Nodup)
    (hi : PItV X W tg iter its) (ok : blkC X.N X.env.scope scope own = true) (wr : Writes tgt (own.map (·.2)))
    (hg : ∀ (s : Shared) (H : Hp) (C : Addr) (cl : List (Str × Addr)) (fp : List Addr) (xe : Value → Shared → Prop), PGD (X.blkX s H scope (compEnvC scope cl C X.env) fp xe) tg tgt)
    (ht : ∀ (Y : Cx) (V : WX), (∃ s H C cl fp xe, Y = X.blkX s H scope (compEnvC scope cl C X.env) fp xe) → Pas Y V → PBs Y V ifs t)
    (he : ∀ (Y : Cx) (V : WX), (∃ s H C cl fp xe, Y = X.blkX s H scope (compEnvC scope cl C X.env) fp xe) → Pas Y V → PQ Y V elt e)
    (hs : ∀ x, foldedSetIterable iter X.env x = pure x := by intro _; rfl) : PQ X W (.ListComp elt [⟨tg, iter, ifs, 0⟩] scope pos) (dLc its tgt t e (own.map (·.2))) :=
  imp_e (pe_lcX hc hst hfr tk hN hi (blkOk_by ok) ⟨hg, fun s H C cl fp xe σ pa => ht _ _ ⟨s, H, C, cl, fp, xe, rfl⟩ pa, fun s H C cl fp xe σ pa => he _ _ ⟨s, H, C, cl, fp, xe, rfl⟩ pa⟩ hs) (reads_lc wr)
end
end D
end

section
set_option Elab.async false
set_option linter.all false
set_option maxRecDepth 100000
set_option maxHeartbeats 4000000
/-! Expressions that change lists of the frame's own (or lent to it), or write the tables of code objects. They raise nothing. -/
namespace D
open PySem L2 LamX

/-- what is not in O stays; nothing goes -/
def Mv (T : List (Addr × Str)) (O : List Addr) (H H' : Hp) : Prop := (∀ a o, a ∉ O → (T ≠ [] → ∀ ps, o ≠ .tbl ps) → H a = some o → H' a = some o) ∧ ∀ a xs, H a = some (.lst xs) → ∃ ys, H' a = some (.lst ys)
section
variable {T : List (Addr × Str)} {O h : List Addr} {H H' H1 H2 : Hp}
theorem Mv.of (e : Ex H H') : Mv T O H H' := ⟨fun a o _ _ h => e a o h, fun a xs q => ⟨xs, e a _ q⟩⟩
theorem Mv.trans (x : Mv T O H H1) (y : Mv T O H1 H2) : Mv T O H H2 := ⟨fun a o n z h => y.1 a o n z (x.1 a o n z h), fun a xs q => by
  obtain ⟨ys, q1⟩ := x.2 a xs q
  exact y.2 a ys q1⟩
theorem Mv.ex (x : Mv T O H H') (s : ∀ a ∈ O, a ∈ h) : Ex (hid h H) (hid h H') := fun a o e => by
  obtain ⟨h1, h2, h3⟩ := hid_some e
  exact hid_mk h1 (x.1 a o (fun m => h1 (s a m)) (fun _ => h3) h2) h3
theorem Mv.sub {O' : List Addr} (x : Mv T O H H') (s : ∀ a ∈ O, a ∈ O') : Mv T O' H H' := ⟨fun a o n z h => x.1 a o (fun m => n (s a m)) z h, x.2⟩
theorem Dom.mv (d : Dom h H) (x : Mv T O H H') : Dom h H' := fun a m => by
  obtain ⟨xs, q⟩ := d a m
  exact x.2 a xs q
end

structure StS (K : Frag) (T : List (Addr × Str)) (B O h : List Addr) (H : Hp) (σ : L2.St) (ρ : Rho) : Prop where
  e : Enr K h H σ ρ
  sub : ∀ a ∈ O, a ∈ h
  base : ∀ a ∈ B, a ∈ h
  lent : ∀ (i : Nat) (l : List PyData) (p : Addr), ρ[i]? = some (.own l) → σ[i]? = some (some (.ref p)) → (p ∈ B ↔ i = 0)
  own : ∀ (i : Nat) (l : List PyData) (p : Addr), ρ[i]? = some (.own l) → σ[i]? = some (some (.ref p)) → p ∈ O
  tab : Tabs T H
theorem StS.mono {K : Frag} {T : List (Addr × Str)} {B O h : List Addr} {H H' : Hp} {σ : L2.St} {ρ : Rho} (S : StS K T B O h H σ ρ) (e : Ex H H') : StS K T B O h H' σ ρ := ⟨S.e.mono e, S.sub, S.base, S.lent, S.own, S.tab.ext e⟩
abbrev DS := Rho → Option (PyData × Rho)
abbrev DSs := Rho → Option (List PyData × Rho)
abbrev DST := Rho → Option (Bool × Rho)
def PoS (K : Frag) (T : List (Addr × Str)) (B O h : List Addr) (H : Hp) (σ : L2.St) (r : Option (PyData × Rho)) (Q : VK) : Prop := match r with
  | none => False
  | some (d, ρ) => ∀ v H', Mv T O H H' → StS K T B O h H' σ ρ → Dr K (hid h H') v d → Q v H'
def PoSs (K : Frag) (T : List (Addr × Str)) (B O h : List Addr) (H : Hp) (σ : L2.St) (r : Option (List PyData × Rho)) (Q : List V → Hp → Prop) : Prop := match r with
  | none => False
  | some (ds, ρ) => ∀ vs H', Mv T O H H' → StS K T B O h H' σ ρ → DrA K (hid h H') vs ds → Q vs H'
def PoST (K : Frag) (T : List (Addr × Str)) (B O h : List Addr) (H : Hp) (σ : L2.St) (r : Option (Bool × Rho)) (Q : Bool → Hp → Prop) : Prop := match r with
  | none => False
  | some (b, ρ) => ∀ H', Mv T O H H' → StS K T B O h H' σ ρ → Q b H'
section
variable {K : Frag} {T : List (Addr × Str)} {B O h : List Addr} {H H1 : Hp} {σ : L2.St}
theorem PoS.mono {r : Option (PyData × Rho)} {Q : VK} (p : PoS K T B O h H σ r Q) (e : Mv T O H H1) : PoS K T B O h H1 σ r Q := by
  cases r with
  | none => exact p
  | some x => exact fun v H' z q => p v H' (e.trans z) q
theorem PoSs.mono {r : Option (List PyData × Rho)} {Q : List V → Hp → Prop} (p : PoSs K T B O h H σ r Q) (e : Mv T O H H1) : PoSs K T B O h H1 σ r Q := by
  cases r with
  | none => exact p
  | some x => exact fun v H' z q => p v H' (e.trans z) q
theorem PoST.mono {r : Option (Bool × Rho)} {Q : Bool → Hp → Prop} (p : PoST K T B O h H σ r Q) (e : Mv T O H H1) : PoST K T B O h H1 σ r Q := by
  cases r with
  | none => exact p
  | some x => exact fun H' z q => p H' (e.trans z) q
end
def tS (X : Cx) (T : List (Addr × Str)) (f : DS) : TE := fun σ H Q => ∃ B O h ρ, StS X.K T B O h H σ ρ ∧ PoS X.K T B O h H σ (f ρ) Q
def tSs (X : Cx) (T : List (Addr × Str)) (f : DSs) : TA := fun σ H Q => ∃ B O h ρ, StS X.K T B O h H σ ρ ∧ PoSs X.K T B O h H σ (f ρ) Q
def tST (X : Cx) (T : List (Addr × Str)) (f : DST) : TT := fun σ H Q => ∃ B O h ρ, StS X.K T B O h H σ ρ ∧ PoST X.K T B O h H σ (f ρ) Q
abbrev ES (X : Cx) (T : List (Addr × Str)) (e : Expr) (f : DS) : Prop := PE X e (tS X T f)
abbrev ESs (X : Cx) (T : List (Addr × Str)) (es : List Expr) (f : DSs) : Prop := PA X es (tSs X T f)
abbrev EST (X : Cx) (T : List (Addr × Str)) (e : Expr) (f : DST) : Prop := PT X e (tST X T f)

section
variable {X : Cx} {W : WX} {T : List (Addr × Str)} {a b c : Expr} {es : List Expr} {f g k : DS} {fs : DSs} {ft gt : DST} {pos : Pos}
/-! ### quiet ones -/
def lS (f : DQ) : DS := fun ρ => match f ρ with
  | .ok d => some (d, ρ)
  | _ => none
def lST (f : DT) : DST := fun ρ => match f ρ with
  | .ok d => some (d, ρ)
  | _ => none
theorem z_q {f : DQ} (p : PQ X W a f) : ES X T a (lS f) := imp_e p fun σ H Q ⟨B, O, h, ρ, S, q⟩ => by
  unfold lS at q
  refine ⟨h, ρ, S.e, ?_⟩
  cases e : f ρ with
  | stuck => rw [e] at q; exact q.elim
  | err x => rw [e] at q; exact q.elim
  | ok d =>
    rw [e] at q
    exact fun v H' x r => q v H' (.of x) (S.mono x) r
theorem y_q {f : DT} (p : PB X W a f) : EST X T a (lST f) := imp_t p fun σ H Q ⟨B, O, h, ρ, S, q⟩ => by
  unfold lST at q
  refine ⟨h, ρ, S.e, ?_⟩
  cases e : f ρ with
  | stuck => rw [e] at q; exact q.elim
  | err x => rw [e] at q; exact q.elim
  | ok d =>
    rw [e] at q
    exact fun H' x => q H' (.of x) (S.mono x)
/-! ### parts in a row -/
def sNil : DSs := fun ρ => some ([], ρ)
def sCons (f : DS) (fs : DSs) : DSs := fun ρ => (f ρ).bind fun p => (fs p.2).bind fun q => some (p.1 :: q.1, q.2)
theorem zs_nil : ESs X T [] sNil := imp_a pa_nil fun σ H Q ⟨B, O, h, ρ, S, q⟩ => q [] H (.of (Ex.refl H)) S .nil
theorem zs_cons (p : ES X T a f) (ps : ESs X T es fs) (hs : starEach (a :: es) X.env = (false, eval a X.env) :: starEach es X.env := by rfl) : ESs X T (a :: es) (sCons f fs) := imp_a (pa_cons p ps hs) fun σ H Q ⟨B, O, h, ρ, S, q⟩ => by
  unfold sCons at q
  refine ⟨B, O, h, ρ, S, ?_⟩
  cases e1 : f ρ with
  | none => rw [e1] at q; exact q.elim
  | some p =>
    obtain ⟨d, ρ1⟩ := p
    rw [e1] at q
    intro v H1 x1 S1 r1
    refine ⟨B, O, h, ρ1, S1, ?_⟩
    simp only [Option.bind_some] at q
    cases e2 : fs ρ1 with
    | none => rw [e2] at q; exact q.elim
    | some p2 =>
      obtain ⟨ds, ρ2⟩ := p2
      rw [e2] at q
      intro vs H2 x2 S2 r2
      exact q (v :: vs) H2 (x1.trans x2) S2 (.cons (r1.mono (x2.ex S.sub)) r2)
/-- an operation behind a row of parts -/
theorem post_of {B O h : List Addr} {H H1 : Hp} {σ : L2.St} {ρ1 : Rho} {z : PyData} {Q : VK} (S1 : StS X.K T B O h H1 σ ρ1) (x1 : Mv T O H H1) (q : ∀ v H', Mv T O H H' → StS X.K T B O h H' σ ρ1 → Dr X.K (hid h H') v z → Q v H') : ∀ v H', Ex H1 H' → Dr X.K (hid h H') v z → Q v H' :=
  fun v H' e r => q v H' (x1.trans (.of e)) (S1.mono e) r
def sOp (op : PyData → PyData → Option PyData) (f g : DS) : DS := fun ρ => (f ρ).bind fun p => (g p.2).bind fun q => (op p.1 q.1).map fun z => (z, q.2)
theorem reads_sop {r : R2} {op : PyData → PyData → Option PyData} (hs : OpS X.K r op) : ∀ σ H Q, tS X T (sOp op f g) σ H Q → tOp r (tS X T f) (tS X T g) σ H Q := fun σ H Q ⟨B, O, h, ρ, S, q⟩ => by
  unfold sOp at q
  refine ⟨B, O, h, ρ, S, ?_⟩
  cases e1 : f ρ with
  | none => rw [e1] at q; exact q.elim
  | some p =>
    obtain ⟨d, ρ1⟩ := p
    rw [e1] at q
    intro v H1 x1 S1 r1
    refine ⟨B, O, h, ρ1, S1, ?_⟩
    simp only [Option.bind_some] at q
    cases e2 : g ρ1 with
    | none => rw [e2] at q; exact q.elim
    | some p2 =>
      obtain ⟨e, ρ2⟩ := p2
      rw [e2] at q
      intro u H2 x2 S2 r2
      simp only [Option.bind_some] at q
      cases e3 : op d e with
      | none => rw [e3] at q; exact q.elim
      | some z =>
        rw [e3] at q
        exact hs h H2 v u d e z Q S2.e.dom (.inl (r1.mono (x2.ex S.sub))) (.inl r2) e3 (post_of S2 (x1.trans x2) q)
theorem z_op {op : Operator} {r : R2} {o : PyData → PyData → Option PyData} (hs : OpS X.K r o) (ho : OpR X (binaryOp op) r) (ha : ES X T a f) (hb : ES X T b g) : ES X T (.BinOp a op b pos) (sOp o f g) :=
  imp_e (pe_op ho ha hb) (reads_sop hs)
theorem z_cmp {op : CmpOp} {r : R2} {o : PyData → PyData → Option PyData} (hs : OpS X.K r o) (ho : OpR X (compareOp op) r) (ha : ES X T a f) (hb : ES X T b g) (hm : behindInMarks op b = false := by first | exact nomark _ | rfl) :
    ES X T (.Compare a [op] [b] pos) (sOp o f g) := imp_e (pe_cmpR ho ha hb hm) (reads_sop hs)
theorem z_ix {r : R2} {o : PyData → PyData → Option PyData} (hs : OpS X.K r o) (hr : IxR X r) (ha : ES X T a f) (hb : ES X T b g) (hp : PlainIx b := by exact fun _ _ => rfl) : ES X T (.Subscript a b pos) (sOp o f g) :=
  imp_e (pe_ix hr ha hb hp) (reads_sop hs)
/-! ### tests -/
def sB (f : DS) : DST := fun ρ => (f ρ).bind fun p => match p.1 with
  | .bool b => some (b, p.2)
  | _ => none
theorem pos_test {B O h : List Addr} {H : Hp} {σ : L2.St} {r : Option (PyData × Rho)} {Q : Bool → Hp → Prop} (q : PoST X.K T B O h H σ (r.bind fun p => match p.1 with
  | .bool b => some (b, p.2)
  | _ => none) Q) : PoS X.K T B O h H σ r (fun x H' => ∃ c, x = .bl c ∧ Q c H') := by
  cases r with
  | none => exact q
  | some p =>
    obtain ⟨d, ρ⟩ := p
    intro v H' e S hr
    cases hr <;> first | exact q.elim | exact ⟨_, rfl, q H' e S⟩
theorem y_val (p : ES X T a f) (he : ∀ whole, isTrue a X.env whole = (do let v ← whole; standAt a.pos; holding [v] (truthy v)) := by intro _; rfl) : EST X T a (sB f) :=
  imp_t (pt_val p he) fun σ H Q ⟨B, O, h, ρ, S, q⟩ => ⟨B, O, h, ρ, S, pos_test q⟩
theorem y_cmp {op : CmpOp} {r : R2} {o : PyData → PyData → Option PyData} (hs : OpS X.K r o) (ho : OpR X (compareOp op) r) (ha : ES X T a f) (hb : ES X T b g) (hm : behindInMarks op b = false := by first | exact nomark _ | rfl) :
    EST X T (.Compare a [op] [b] pos) (sB (sOp o f g)) := imp_t (pt_cmpR ho ha hb hm) fun σ H Q ⟨B, O, h, ρ, S, q⟩ => reads_sop hs σ H _ ⟨B, O, h, ρ, S, pos_test q⟩
def sNotT (f : DST) : DST := fun ρ => (f ρ).map fun p => (!p.1, p.2)
theorem y_not (p : EST X T a ft) : EST X T (.UnaryOp .Not a pos) (sNotT ft) := imp_t (pt_not p) fun σ H Q ⟨B, O, h, ρ, S, q⟩ => by
  unfold sNotT at q
  refine ⟨B, O, h, ρ, S, ?_⟩
  cases e1 : ft ρ with
  | none => rw [e1] at q; exact q
  | some p =>
    obtain ⟨d, ρ1⟩ := p
    rw [e1] at q
    exact q
/-! ### displays, calls -/
def sTup (fs : DSs) : DS := fun ρ => (fs ρ).bind fun p => if p.1.length ≤ 1000 then some (.tuple p.1, p.2) else none
def sLst (fs : DSs) : DS := fun ρ => (fs ρ).bind fun p => if p.1.length ≤ 1000 then some (.list p.1, p.2) else none
theorem z_tup {kk} (ps : ESs X T es fs) : ES X T (.Tuple es kk pos) (sTup fs) := imp_e (pe_tup ps) fun σ H Q ⟨B, O, h, ρ, S, q⟩ => by
  unfold sTup at q
  refine ⟨B, O, h, ρ, S, ?_⟩
  cases e1 : fs ρ with
  | none => rw [e1] at q; exact q.elim
  | some p =>
    obtain ⟨ds, ρ1⟩ := p
    rw [e1] at q
    simp only [Option.bind_some] at q
    split at q
    · rename_i hz
      intro vs H1 x1 S1 r1
      exact ⟨by rw [r1.length]; exact le1000 hz, fun p np => post_of S1 x1 q _ _ (Ex.new np) (new_tup S1.e.dom np r1)⟩
    · exact q.elim
theorem z_lst (ps : ESs X T es fs) : ES X T (.List es pos) (sLst fs) := imp_e (pe_lst ps) fun σ H Q ⟨B, O, h, ρ, S, q⟩ => by
  unfold sLst at q
  refine ⟨B, O, h, ρ, S, ?_⟩
  cases e1 : fs ρ with
  | none => rw [e1] at q; exact q.elim
  | some p =>
    obtain ⟨ds, ρ1⟩ := p
    rw [e1] at q
    simp only [Option.bind_some] at q
    split at q
    · rename_i hz
      intro vs H1 x1 S1 r1
      exact ⟨by rw [r1.length]; exact le1000 hz, fun p np => post_of S1 x1 q _ _ (Ex.new np) (new_lst S1.e.dom np r1)⟩
    · exact q.elim
theorem DvA.of {K : Frag} {h : List Addr} {H : Hp} : ∀ {vs : List V} {ds : List PyData}, DrA K (hid h H) vs ds → DvA K h H vs ds
  | _, _, .nil => .nil
  | _, _, .cons r t => .cons (.inl r) (DvA.of t)
def sBi (op : List PyData → Option PyData) (fs : DSs) : DS := fun ρ => (fs ρ).bind fun p => (op p.1).map fun z => (z, p.2)
theorem reads_sbi {r : List V → Hp → VK → Prop} {op : List PyData → Option PyData} (hs : BS X.K r op) : ∀ σ H Q, tS X T (sBi op fs) σ H Q → tCB r (tSs X T fs) σ H Q := fun σ H Q ⟨B, O, h, ρ, S, q⟩ => by
  unfold sBi at q
  refine ⟨B, O, h, ρ, S, ?_⟩
  cases e1 : fs ρ with
  | none => rw [e1] at q; exact q.elim
  | some p =>
    obtain ⟨ds, ρ1⟩ := p
    rw [e1] at q
    simp only [Option.bind_some] at q
    intro vs H1 x1 S1 r1
    cases e2 : op ds with
    | none => rw [e2] at q; exact q.elim
    | some z =>
      rw [e2] at q
      exact hs h H1 vs ds z Q S1.e.dom (DvA.of r1) e2 (post_of S1 x1 q)
theorem z_bi {x : Str} {id : String} {r : List V → Hp → VK → Prop} {op : List PyData → Option PyData} {p : Pos} (hs : BS X.K r op) (hc : CallR X (.builtin id) r) (hm : X.mg x = none) (ha : ESs X T (a :: es) fs) (hv : bootBuiltins x = some (.builtin id) := by decide +kernel)
    (hg : Gl X x := by rfl) (hn : x ≠ "__name__" := by decide) (hdb : (x == ("__debug__" : Str)) = false := by decide) (he : starEach (a :: es) X.env = (false, eval a X.env) :: starEach es X.env := by rfl) (hpl : (backTo pos (starEach es X.env)).any (·.1) = false := by rfl) :
    ES X T (.Call (.Name x p) (a :: es) [] pos) (sBi op fs) := imp_e (pe_callB hc hg hm hv ha hn hdb he hpl) (reads_sbi hs)
theorem z_ty {x : Str} {id : String} {r : List V → Hp → VK → Prop} {op : List PyData → Option PyData} {p : Pos} (hs : BS X.K r op) (hc : CallR X (.type id) r) (hm : X.mg x = none) (ha : ESs X T (a :: es) fs) (hv : bootBuiltins x = some (.type id) := by decide +kernel)
    (hg : Gl X x := by rfl) (hn : x ≠ "__name__" := by decide) (hdb : (x == ("__debug__" : Str)) = false := by decide) (he : starEach (a :: es) X.env = (false, eval a X.env) :: starEach es X.env := by rfl) (hpl : (backTo pos (starEach es X.env)).any (·.1) = false := by rfl) :
    ES X T (.Call (.Name x p) (a :: es) [] pos) (sBi op fs) := imp_e (pe_callTy hc hg hm hv ha hn hdb he hpl) (reads_sbi hs)
/-- a quiet def, its arguments not quiet -/
def sCall (m : List PyData → Res PyData) (fs : DSs) : DS := fun ρ => (fs ρ).bind fun p => match m p.1 with
  | .ok d => some (d, p.2)
  | _ => none
theorem z_call {x : Str} {kk n : Nat} {ps : List Str} {m : List PyData → Res PyData} {p : Pos} (C : Cal X.prog X.w X.K X.mg X.base x kk ps (spF X.K X.mg n m)) (hn : ∀ ds, m ds ≠ .stuck → ds.length = n) (tk : Pas X W) (hr : Room kk X.A) (ha : ESs X T (a :: es) fs)
    (hg : Gl X x := by rfl) (hdb : (x == ("__debug__" : Str)) = false := by decide) (he : starEach (a :: es) X.env = (false, eval a X.env) :: starEach es X.env := by rfl) (hpl : (backTo pos (starEach es X.env)).any (·.1) = false := by rfl) :
    ES X T (.Call (.Name x p) (a :: es) [] pos) (sCall m fs) := by
  obtain ⟨f, fd, F, hm, hk, hb⟩ := C.ex
  refine imp_e (pe_callS F hr hg hm hk hb tk ha hdb he hpl) fun σ H Q ⟨B, O, h, ρ, S, q⟩ => ?_
  unfold sCall at q
  refine ⟨B, O, h, ρ, S, ?_⟩
  cases e1 : fs ρ with
  | none => rw [e1] at q; exact q.elim
  | some p =>
    obtain ⟨ds, ρ1⟩ := p
    rw [e1] at q
    simp only [Option.bind_some] at q
    intro vs H1 x1 S1 r1
    cases e2 : m ds with
    | stuck => rw [e2] at q; exact q.elim
    | err x => rw [e2] at q; exact q.elim
    | ok d =>
      rw [e2] at q
      refine ⟨?_, h, ds, S1.e.dom, r1, ?_⟩
      · rw [r1.length]
        exact hn ds fun z => by rw [z] at e2; cases e2
      · rw [e2]
        exact post_of S1 x1 q
/-- a slice; its bounds are quiet -/
def sSl (f : DS) (lo hi : DO) : DS := fun ρ => (f ρ).bind fun p => match lo p.2, hi p.2 with
  | .ok l, .ok u => (oSl p.1 l u).map fun z => (z, p.2)
  | _, _ => none
theorem z_sl {oa ob : Option Expr} {lo hi : DO} {p2 : Pos} (p : ES X T a f) (pl : POp X W oa lo) (pu : POp X W ob hi) : ES X T (.Subscript a (.Slice oa ob none p2) pos) (sSl f lo hi) := imp_e (pe_slice sl_all p pl pu) fun σ H Q ⟨B, O, h, ρ, S, q⟩ => by
  unfold sSl at q
  refine ⟨B, O, h, ρ, S, ?_⟩
  cases e1 : f ρ with
  | none => rw [e1] at q; exact q.elim
  | some p =>
    obtain ⟨d, ρ1⟩ := p
    rw [e1] at q
    simp only [Option.bind_some] at q
    intro v H1 x1 S1 r1
    refine ⟨h, ρ1, S1.e, ?_⟩
    cases e2 : lo ρ1 with
    | stuck => rw [e2] at q; exact q.elim
    | err x => rw [e2] at q; exact q.elim
    | ok l =>
      rw [e2] at q
      intro H2 x2
      refine ⟨h, ρ1, S1.e.mono x2, ?_⟩
      cases e3 : hi ρ1 with
      | stuck => rw [e3] at q; exact q.elim
      | err x => rw [e3] at q; exact q.elim
      | ok u =>
        rw [e3] at q
        intro H3 x3
        simp only at q
        cases e4 : oSl d l u with
        | none => rw [e4] at q; exact q.elim
        | some z =>
          rw [e4] at q
          have S3 := (S1.mono x2).mono x3
          exact s_sl S3.e.dom (.inl (r1.mono (x2.trans x3).hid)) e4 (post_of S3 ((x1.trans (.of x2)).trans (.of x3)) q)
end
end D
end

section
set_option Elab.async false
set_option linter.all false
set_option maxRecDepth 100000
set_option maxHeartbeats 4000000
/-! Methods of own lists, defs that are lent a list, new lists. -/
namespace D
open PySem L2 LamX
section
variable {K : Frag} {T : List (Addr × Str)} {B O h : List Addr} {H H' : Hp} {σ : L2.St} {ρ : Rho}
theorem Mv.upd {p : Addr} {xs ys : List V} (e : H p = some (.lst xs)) : Mv T [p] H (L2.upd H p (.lst ys)) := ⟨fun a v n _ q => by
    rw [upd_ne (fun z => n (by rw [z]; exact List.mem_singleton.mpr rfl))]
    exact q, fun a ws z => by
    by_cases q : a = p
    · rw [q]; exact ⟨ys, upd_same⟩
    · exact ⟨ws, by rw [upd_ne q]; exact z⟩⟩
theorem Tabs.upd {p : Addr} {xs ys : List V} (e : H p = some (.lst xs)) (t : Tabs T H) : Tabs T (L2.upd H p (.lst ys)) := fun q hq => by
  obtain ⟨ps, h1, h2, h3⟩ := t q hq
  refine ⟨ps, ?_, h2, fun pos cv hc => ?_⟩
  · rw [upd_ne (fun z => by rw [z, e] at h1; cases h1)]
    exact h1
  · obtain ⟨c, e1, e2⟩ := h3 pos cv hc
    refine ⟨c, e1, ?_⟩
    rw [upd_ne (fun z => by rw [z, e] at e2; cases e2)]
    exact e2
theorem StS.put (S : StS K T B O h H σ ρ) {i : Nat} {l l' : List PyData} {p : Addr} {vs' : List V} (hi : ρ[i]? = some (.own l)) (hs : σ[i]? = some (some (.ref p))) (x : Mv T [p] H H') (tb : Tabs T H') (hp : H' p = some (.lst vs')) (r : DrA K (hid h H') vs' l') : StS K T B O h H' σ (ρ.set i (.own l')) := by
  have pO := S.own i l p hi hs
  have ph := S.sub p pO
  have xO : Mv T O H H' := x.sub fun a m => by rw [List.mem_singleton.mp m]; exact pO
  have xh := xO.ex S.sub
  have hlen : i < ρ.length := (List.getElem?_eq_some_iff.mp hi).1
  -- an own slot afterwards was one before
  have was : ∀ {j : Nat} {m : List PyData}, (ρ.set i (Itm.own l'))[j]? = some (.own m) → (j = i ∧ m = l') ∨ (j ≠ i ∧ ρ[j]? = some (.own m)) := fun {j m} q => by
    by_cases e : i = j
    · subst e
      rw [List.getElem?_set, if_pos rfl, if_pos hlen] at q
      cases q
      exact .inl ⟨rfl, rfl⟩
    · rw [List.getElem?_set_ne e] at q
      exact .inr ⟨fun z => e z.symm, q⟩
  have was' : ∀ {j : Nat} {m : List PyData}, (ρ.set i (Itm.own l'))[j]? = some (.own m) → ∃ m' : List PyData, ρ[j]? = some (.own m') := fun {j m} q => by
    rcases was q with ⟨e, _⟩ | ⟨_, q⟩
    · rw [e]; exact ⟨l, hi⟩
    · exact ⟨m, q⟩
  refine ⟨⟨S.e.dom.mv x, by rw [List.length_set]; exact S.e.len, fun j d q => ?_, fun j m q => ?_, fun j k m m' q' q1 q2 s1 s2 => ?_⟩, S.sub, S.base, fun j m q2 q1 s => ?_, fun j m q2 q1 s => ?_, tb⟩
  · by_cases e : i = j
    · subst e
      rw [List.getElem?_set, if_pos rfl, if_pos hlen] at q
      cases q
    · rw [List.getElem?_set_ne e] at q
      obtain ⟨v, h1, h2⟩ := S.e.slot j d q
      exact ⟨v, h1, h2.mono xh⟩
  · rcases was q with ⟨e, e2⟩ | ⟨ne, q⟩
    · subst e e2
      exact ⟨p, vs', hs, ph, hp, r⟩
    · obtain ⟨p2, vs2, h1, h2, h3, h4⟩ := S.e.own j m q
      have np : p2 ≠ p := fun z => ne (S.e.apart j i m l p2 q hi h1 (by rw [z]; exact hs))
      exact ⟨p2, vs2, h1, h2, x.1 _ _ (fun m => np (List.mem_singleton.mp m)) (fun _ _ z => nomatch z) h3, h4.mono xh⟩
  · obtain ⟨w1, g1⟩ := was' q1
    obtain ⟨w2, g2⟩ := was' q2
    exact S.e.apart j k w1 w2 q' g1 g2 s1 s2
  · obtain ⟨w1, g1⟩ := was' q1
    exact S.lent j w1 q2 g1 s
  · obtain ⟨w1, g1⟩ := was' q1
    exact S.own j w1 q2 g1 s
end
/-! ### a method of an own list -/
def MS (K : Frag) (r : V → List V → Hp → VK → Prop) (op : List PyData → List PyData → Option (PyData × List PyData)) : Prop :=
  ∀ (h : List Addr) (H : Hp) (p : Addr) (vs as : List V) (l ds : List PyData) (z : PyData) (l' : List PyData) (Q : VK), H p = some (.lst vs) → DrA K (hid h H) vs l → DrA K (hid h H) as ds → op l ds = some (z, l') →
    (∀ v vs', Dr K (hid h H) v z → DrA K (hid h H) vs' l' → Q v (upd H p (.lst vs'))) → r (.ref p) as H Q
def sOwn (i : Nat) (op : List PyData → List PyData → Option (PyData × List PyData)) (fs : DSs) : DS := fun ρ => match ρ[i]? with
  | some (.own _) => (fs ρ).bind fun q => match q.2[i]? with
    | some (.own l) => (op l q.1).map fun z => (z.1, q.2.set i (.own z.2))
    | _ => none
  | _ => none
section
variable {X : Cx} {W : WX} {T : List (Addr × Str)} {a b c : Expr} {es : List Expr} {f g k : DS} {fs : DSs} {ft gt : DST} {pos : Pos}
theorem ex_upd {h : List Addr} {H : Hp} {p : Addr} {o : HO} (m : p ∈ h) : Ex (hid h H) (hid h (upd H p o)) := fun b u q => by
  obtain ⟨g1, g2, g3⟩ := hid_some q
  exact hid_mk g1 (by rw [upd_ne (fun z => g1 (by rw [z]; exact m))]; exact g2) g3
theorem reads_own {i : Nat} {r : V → List V → Hp → VK → Prop} {op : List PyData → List PyData → Option (PyData × List PyData)} (hs : MS X.K r op) : ∀ σ H Q, tS X T (sOwn i op fs) σ H Q → tBM X.K "list" r (tVar i) (tSs X T fs) σ H Q := fun σ H Q ⟨B, O, h, ρ, S, q⟩ => by
  unfold sOwn at q
  split at q
  · rename_i l0 hi
    obtain ⟨p, vs, h1, h2, h3, h4⟩ := S.e.own i l0 hi
    refine ⟨_, h1, .inl ⟨rfl, _, SqL.of h3⟩, B, O, h, ρ, S, ?_⟩
    cases e1 : fs ρ with
    | none => rw [e1] at q; exact q.elim
    | some w =>
      obtain ⟨ds, ρ1⟩ := w
      rw [e1] at q
      simp only [Option.bind_some] at q
      intro as H1 x1 S1 r1
      split at q
      · rename_i l hl
        cases e2 : op l ds with
        | none => rw [e2] at q; exact q.elim
        | some zz =>
          obtain ⟨z, l'⟩ := zz
          rw [e2] at q
          obtain ⟨p', vs', g1, g2, g3, g4⟩ := S1.e.own i l hl
          rw [h1] at g1
          cases g1
          refine hs h H1 p vs' as l ds z l' Q g3 g4 r1 e2 fun v ws rv rw' => ?_
          have xu := ex_upd (o := .lst ws) (H := H1) g2
          exact q v _ (x1.trans ((Mv.upd g3).sub fun a m => by rw [List.mem_singleton.mp m]; exact S1.own i l p hl h1)) (S1.put hl h1 (Mv.upd g3) (Tabs.upd g3 S1.tab) upd_same (rw'.mono xu)) (rv.mono xu)
      · exact q.elim
  · exact q.elim
theorem z_own {i : Nat} {x name : Str} {id : String} {r : V → List V → Hp → VK → Prop} {op : List PyData → List PyData → Option (PyData × List PyData)} {apos cpos npos : Pos} (hs : MS X.K r op) (pa : PlainAttrs "list") (slot : Slot "list" name id) (hty : typeOf (.builtin id) = pure (.type "method_descriptor")) (hm : MtM X id r)
    (ha : ESs X T (a :: es) fs) (hN : X.N[i]? = some x := by rfl) (hv : Vis X.env.scope x := by first | exact Or.inl rfl | exact Or.inr (Or.inl rfl) | exact Or.inr (Or.inr rfl)) (hd : (x == ("__debug__" : Str)) = false := by decide)
    (hcd : (x == ("__classdict__" : Str)) = false := by decide)
    (hbase : attributeBase (.Name x npos) name X.env (eval (.Name x npos) X.env) = eval (.Name x npos) X.env := by rfl)
    (hfew : ((backTo cpos (starEach (a :: es) X.env)).all (fun x => !x.1) && (backToKw cpos (keywordEach [] X.env)).all (fun x => x.1.isSome)
      && decide ((a :: es).length + ([] : List Keyword).length + (if ([] : List Keyword).isEmpty then 0 else 1) < 30)) = true := by rfl)
    (hline : (apos.endLine == cpos.line) = true := by rfl) (hst : starEach (a :: es) X.env = (false, eval a X.env) :: starEach es X.env := by rfl) (hplain : (backTo cpos (starEach es X.env)).any (·.1) = false := by rfl) :
    ES X T (.Call (.Attribute (.Name x npos) name apos) (a :: es) [] cpos) (sOwn i op fs) := imp_e (pe_bm pa slot hty hm (pe_var hN hv hd hcd) ha hbase hfew hline hst hplain) (reads_own hs)
def mAppend : List PyData → List PyData → Option (PyData × List PyData) := fun l ds => match ds with
  | [d] => if l.length < 1000000 then some (.none, l ++ [d]) else none
  | _ => none
def mPopAt : List PyData → List PyData → Option (PyData × List PyData) := fun l ds => match ds with
  | [.int i] => if -(2 ^ 63) ≤ i ∧ i < 2 ^ 63 then (seqIndex? i l.length).bind fun k => (l[k]?).map fun d => (d, l.eraseIdx k) else none
  | _ => none
theorem ms_append {K : Frag} : MS K rAppend mAppend := fun h H p vs as l ds z l' Q hp r1 r2 e k => by
  unfold mAppend at e
  split at e
  · split at e
    · rename_i hl
      cases e
      cases r2 with
      | cons r3 r4 =>
        cases r4
        exact ⟨p, vs, _, rfl, rfl, hp, Nat.lt_of_lt_of_le (by rw [r1.length]; exact hl) (by decide), k _ _ .non (r1.snoc r3)⟩
    · cases e
  · cases e
theorem ms_popAt {K : Frag} : MS K rPopAt mPopAt := fun h H p vs as l ds z l' Q hp r1 r2 e k => by
  unfold mPopAt at e
  split at e
  · split at e
    · rename_i i hl
      obtain ⟨j, e1, e⟩ := Option.bind_eq_some_iff.mp e
      obtain ⟨d, e2, e⟩ := Option.map_eq_some_iff.mp e
      cases e
      cases r2 with
      | cons r3 r4 =>
        cases r4
        cases r3
        obtain ⟨v, hv, rv⟩ := r1.get e2
        exact ⟨p, vs, _, j, v, rfl, rfl, hp, hl.1, hl.2, by rw [r1.length]; exact e1, hv, k _ _ rv (r1.eraseIdx j)⟩
    · cases e
  · cases e
/-! ### a def that is lent a list, its first argument -/
def spL (K : Frag) (T : List (Addr × Str)) (n : Nat) (m : List PyData → List PyData → Option (PyData × List PyData)) : Sp := fun vs H Q _ => vs.length = n ∧ ∃ h p lv l vs' ds, vs = .ref p :: vs' ∧ Dom h H ∧ p ∈ h ∧ H p = some (.lst lv) ∧ DrA K (hid h H) lv l ∧ DrA K (hid h H) vs' ds ∧ Tabs T H ∧
  match m l ds with
  | none => False
  | some (d, l') => ∀ v H' lv', Mv T [p] H H' → Tabs T H' → H' p = some (.lst lv') → DrA K (hid h H') lv' l' → Dr K (hid h H') v d → Q v H'
def sCallL (i : Nat) (m : List PyData → List PyData → Option (PyData × List PyData)) (fs : DSs) : DS := sOwn i m fs
theorem reads_callL {n i : Nat} {m : List PyData → List PyData → Option (PyData × List PyData)} {E : St → XK} (hn : ∀ l ds, m l ds ≠ none → ds.length + 1 = n) : ∀ σ H Q, tS X T (sCallL i m fs) σ H Q → tCallS (spL X.K T n m) E (tCons (tVar i) (tSs X T fs)) σ H Q := fun σ H Q ⟨B, O, h, ρ, S, q⟩ => by
  unfold sCallL sOwn at q
  split at q
  · rename_i l0 hi
    obtain ⟨p, vs, h1, h2, h3, h4⟩ := S.e.own i l0 hi
    refine ⟨_, h1, B, O, h, ρ, S, ?_⟩
    cases e1 : fs ρ with
    | none => rw [e1] at q; exact q.elim
    | some w =>
      obtain ⟨ds, ρ1⟩ := w
      rw [e1] at q
      simp only [Option.bind_some] at q
      intro as H1 x1 S1 r1
      split at q
      · rename_i l hl
        cases e2 : m l ds with
        | none => rw [e2] at q; exact q.elim
        | some zz =>
          obtain ⟨z, l'⟩ := zz
          rw [e2] at q
          obtain ⟨p', vs', g1, g2, g3, g4⟩ := S1.e.own i l hl
          rw [h1] at g1
          cases g1
          refine ⟨?_, h, p, vs', l, as, ds, rfl, S1.e.dom, g2, g3, g4, r1, S1.tab, ?_⟩
          · rw [List.length_cons, r1.length]
            exact hn l ds (by rw [e2]; exact fun z => nomatch z)
          · rw [e2]
            exact fun v H' lv' x' t' hp' rl rv => q v H' (x1.trans (x'.sub fun a m => by rw [List.mem_singleton.mp m]; exact S1.own i l p hl h1)) (S1.put hl h1 x' t' hp' rl) rv
      · exact q.elim
  · exact q.elim
theorem z_callL {x y : Str} {kk n i : Nat} {ps : List Str} {m : List PyData → List PyData → Option (PyData × List PyData)} {p npos : Pos} (C : Cal X.prog X.w X.K X.mg X.base x kk ps (spL X.K T n m)) (hn : ∀ l ds, m l ds ≠ none → ds.length + 1 = n) (tk : Pas X W) (hr : Room kk X.A) (ha : ESs X T es fs)
    (hN : X.N[i]? = some y := by rfl) (hv : Vis X.env.scope y := by first | exact Or.inl rfl | exact Or.inr (Or.inl rfl) | exact Or.inr (Or.inr rfl)) (hd : (y == ("__debug__" : Str)) = false := by decide) (hcd : (y == ("__classdict__" : Str)) = false := by decide)
    (hg : Gl X x := by rfl) (hdb : (x == ("__debug__" : Str)) = false := by decide) (he : starEach (.Name y npos :: es) X.env = (false, eval (.Name y npos) X.env) :: starEach es X.env := by rfl) (hpl : (backTo pos (starEach es X.env)).any (·.1) = false := by rfl) :
    ES X T (.Call (.Name x p) (.Name y npos :: es) [] pos) (sCallL i m fs) := by
  obtain ⟨f, fd, F, hm, hk, hb⟩ := C.ex
  exact imp_e (pe_callS F hr hg hm hk hb tk (pa_cons (pe_var hN hv hd hcd) ha he) hdb he hpl) (reads_callL hn)
/-! ### new lists -/
def PoN (K : Frag) (T : List (Addr × Str)) (B O h : List Addr) (H : Hp) (σ : L2.St) (r : Option (List PyData × Rho)) (Q : VK) : Prop := match r with
  | none => False
  | some (ds, ρ) => ∀ p vs H', Nw T H p → Mv T O H H' → StS K T B O (p :: h) H' σ ρ → H' p = some (.lst vs) → DrA K (hid (p :: h) H') vs ds → Q (.ref p) H'
def tN (X : Cx) (T : List (Addr × Str)) (f : DSs) : TE := fun σ H Q => ∃ B O h ρ, StS X.K T B O h H σ ρ ∧ PoN X.K T B O h H σ (f ρ) Q
abbrev EN (X : Cx) (T : List (Addr × Str)) (e : Expr) (f : DSs) : Prop := PE X e (tN X T f)
def nLst (fs : DSs) : DSs := fun ρ => (fs ρ).bind fun p => if p.1.length ≤ 1000 then some p else none
theorem Nw.back {K : Frag} {T : List (Addr × Str)} {B O h : List Addr} {H H' : Hp} {σ : L2.St} {ρ : Rho} {p : Addr} (S : StS K T B O h H σ ρ) (x : Mv T O H H') (n : Nw T H' p) : Nw T H p := fun o q => by
  by_cases m : p ∈ O
  · obtain ⟨xs, q2⟩ := S.e.dom p (S.sub p m)
    obtain ⟨ys, q3⟩ := x.2 p xs q2
    obtain ⟨_, ps, e⟩ := n _ q3
    cases e
  · by_cases t : T = []
    · obtain ⟨t', _⟩ := n _ (x.1 p _ m (fun z => absurd t z) q)
      exact absurd t t'
    · cases o with
      | tbl ps => exact ⟨t, ps, rfl⟩
      | _ => exact n _ (x.1 p _ m (fun _ _ z => nomatch z) q)
theorem StS.hide {K : Frag} {T : List (Addr × Str)} {B O h : List Addr} {H H' : Hp} {σ : L2.St} {ρ : Rho} {L : Addr} {T' : List (Addr × Str)} (S : StS K T B O h H σ ρ) (e : Ex H H') (n : Nw T' H L) (n' : ∃ xs, H' L = some (.lst xs)) : StS K T B O (L :: h) H' σ ρ := ⟨S.e.hide e n n', fun a m => List.mem_cons_of_mem _ (S.sub a m), fun a m => List.mem_cons_of_mem _ (S.base a m), S.lent, S.own, S.tab.ext e⟩
theorem new_in {T : List (Addr × Str)} {O h : List Addr} {H H1 : Hp} {σ : L2.St} {ρ ρ1 : Rho} {B : List Addr} {K : Frag} {p : Addr} {vs : List V} {ds : List PyData} {Q : VK} (S : StS K T B O h H σ ρ) (S1 : StS K T B O h H1 σ ρ1) (x1 : Mv T O H H1) (r1 : DrA K (hid h H1) vs ds) (np : H1 p = none)
    (q : ∀ p vs H', Nw T H p → Mv T O H H' → StS K T B O (p :: h) H' σ ρ1 → H' p = some (.lst vs) → DrA K (hid (p :: h) H') vs ds → Q (.ref p) H') : Q (.ref p) (upd H1 p (.lst vs)) :=
  q p vs _ (Nw.back S x1 (.of np)) (x1.trans (.of (Ex.new np))) (S1.hide (T' := T) (Ex.new np) (.of np) ⟨_, upd_same⟩) upd_same (r1.mono (Ex.hide (T := T) (Ex.new np) (.of np)))
theorem n_lst (ps : ESs X T es fs) : EN X T (.List es pos) (nLst fs) := imp_e (pe_lst ps) fun σ H Q ⟨B, O, h, ρ, S, q⟩ => by
  unfold nLst at q
  refine ⟨B, O, h, ρ, S, ?_⟩
  cases e1 : fs ρ with
  | none => rw [e1] at q; exact q.elim
  | some p =>
    obtain ⟨ds, ρ1⟩ := p
    rw [e1] at q
    simp only [Option.bind_some] at q
    split at q
    · rename_i hz
      intro vs H1 x1 S1 r1
      exact ⟨by rw [r1.length]; exact le1000 hz, fun p np => new_in S S1 x1 r1 np q⟩
    · exact q.elim
/-- list(x) -/
def nList (fs : DSs) : DSs := fun ρ => (fs ρ).bind fun p => match p.1 with
  | [.list l] => some (l, p.2)
  | [.tuple l] => some (l, p.2)
  | _ => none
theorem n_list {p : Pos} (hm : X.mg "list" = none) (ha : ESs X T (a :: es) fs) (hg : Gl X "list" := by rfl) (he : starEach (a :: es) X.env = (false, eval a X.env) :: starEach es X.env := by rfl) (hpl : (backTo pos (starEach es X.env)).any (·.1) = false := by rfl) :
    EN X T (.Call (.Name "list" p) (a :: es) [] pos) (nList fs) := imp_e (pe_callTy call_list_of hg hm (by decide +kernel) ha (by decide) (by decide) he hpl) fun σ H Q ⟨B, O, h, ρ, S, q⟩ => by
  unfold nList at q
  refine ⟨B, O, h, ρ, S, ?_⟩
  cases e1 : fs ρ with
  | none => rw [e1] at q; exact q.elim
  | some p =>
    obtain ⟨ds, ρ1⟩ := p
    rw [e1] at q
    simp only [Option.bind_some] at q
    intro vs H1 x1 S1 r1
    split at q
    · cases r1 with
      | cons r2 r3 =>
        cases r3
        obtain ⟨p1, vs1, rfl, s1, k1⟩ := r2.listD
        exact ⟨p1, vs1, rfl, .inl ((hid_le h H1).seqL s1), fun p np => new_in S S1 x1 k1 np q⟩
    · cases r1 with
      | cons r2 r3 =>
        cases r3
        obtain ⟨p1, vs1, rfl, s1, k1⟩ := r2.tupleD
        exact ⟨p1, vs1, rfl, .inr ((hid_le h H1).seqT s1), fun p np => new_in S S1 x1 k1 np q⟩
    · exact q.elim
/-- a def that returns a new list -/
def spN (K : Frag) (n : Nat) (m : List PyData → Option (List PyData)) : Sp := fun vs H Q _ => vs.length = n ∧ ∃ h ds, Dom h H ∧ DrA K (hid h H) vs ds ∧ match m ds with
  | none => False
  | some l => ∀ p lv H', H p = none → Ex H H' → H' p = some (.lst lv) → DrA K (hid (p :: h) H') lv l → Q (.ref p) H'
def nCall (m : List PyData → Option (List PyData)) (fs : DSs) : DSs := fun ρ => (fs ρ).bind fun p => (m p.1).map fun l => (l, p.2)
theorem n_call {x : Str} {kk n : Nat} {ps : List Str} {m : List PyData → Option (List PyData)} {p : Pos} (C : Cal X.prog X.w X.K X.mg X.base x kk ps (spN X.K n m)) (hn : ∀ ds, m ds ≠ none → ds.length = n) (tk : Pas X W) (hr : Room kk X.A) (ha : ESs X T (a :: es) fs)
    (hg : Gl X x := by rfl) (hdb : (x == ("__debug__" : Str)) = false := by decide) (he : starEach (a :: es) X.env = (false, eval a X.env) :: starEach es X.env := by rfl) (hpl : (backTo pos (starEach es X.env)).any (·.1) = false := by rfl) :
    EN X T (.Call (.Name x p) (a :: es) [] pos) (nCall m fs) := by
  obtain ⟨f, fd, F, hm, hk, hb⟩ := C.ex
  refine imp_e (pe_callS F hr hg hm hk hb tk ha hdb he hpl) fun σ H Q ⟨B, O, h, ρ, S, q⟩ => ?_
  unfold nCall at q
  refine ⟨B, O, h, ρ, S, ?_⟩
  cases e1 : fs ρ with
  | none => rw [e1] at q; exact q.elim
  | some p =>
    obtain ⟨ds, ρ1⟩ := p
    rw [e1] at q
    simp only [Option.bind_some] at q
    intro vs H1 x1 S1 r1
    cases e2 : m ds with
    | none => rw [e2] at q; exact q.elim
    | some d =>
      rw [e2] at q
      refine ⟨?_, h, ds, S1.e.dom, r1, ?_⟩
      · rw [r1.length]
        exact hn ds (by rw [e2]; exact fun z => nomatch z)
      · rw [e2]
        exact fun p lv H' np x' hp rl => q p lv H' (Nw.back S x1 (.of np)) (x1.trans (.of x')) (S1.hide x' (T' := T) (.of np) ⟨_, hp⟩) hp rl
end
end D
end

section
set_option Elab.async false
set_option linter.all false
set_option maxRecDepth 100000
set_option maxHeartbeats 4000000
/-! Walks, comprehensions that change lists; lambdas handed to a def that tries them. -/
namespace D
open PySem L2 LamX
def PoIS (K : Frag) (T : List (Addr × Str)) (B O h : List Addr) (H : Hp) (σ : L2.St) (r : Option (List PyData × Rho)) (R : It → Hp → Prop) : Prop := match r with
  | none => False
  | some (ds, ρ) => ∀ J H', Mv T O H H' → StS K T B O h H' σ ρ → ItD K h J ds H' → R J H'
def tIS (X : Cx) (T : List (Addr × Str)) (f : DSs) : TI := fun σ H R => ∃ B O h ρ, StS X.K T B O h H σ ρ ∧ PoIS X.K T B O h H σ (f ρ) R
abbrev EI (X : Cx) (T : List (Addr × Str)) (tg e : Expr) (f : DSs) : Prop := PI X tg e (tIS X T f)
def lSs (f : DQs) : DSs := fun ρ => match f ρ with
  | .ok d => some (d, ρ)
  | _ => none
section
variable {X : Cx} {W : WX} {T : List (Addr × Str)} {a b c tg : Expr} {es : List Expr} {f g k : DS} {fs : DSs} {ft gt : DST} {pos : Pos}
theorem zi_q {f : DQs} (p : PItD X W tg a f) : EI X T tg a (lSs f) := imp_i p fun σ H R ⟨B, O, h, ρ, S, q⟩ => by
  unfold lSs at q
  refine ⟨h, ρ, S.e, ?_⟩
  cases e : f ρ with
  | stuck => rw [e] at q; exact q.elim
  | err x => rw [e] at q; exact q.elim
  | ok d =>
    rw [e] at q
    exact fun J H' x w => q J H' (.of x) (S.mono x) w
def sRng (fs : DSs) : DSs := fun ρ => (fs ρ).bind fun p => (rngP p.1).map fun l => (l, p.2)
def sRng2 (fs : DSs) : DSs := fun ρ => (fs ρ).bind fun p => (rngP2 p.1).map fun l => (l, p.2)
theorem zi_rng {p : Pos} (pa : ESs X T [a] fs) (hm : X.mg "range" = none) (hg : Gl X "range" := by rfl) (hs : starEach [a] X.env = [(false, eval a X.env)] := by rfl) : EI X T tg (.Call (.Name "range" p) [a] [] pos) (sRng fs) := imp_i (pi_range1 hg hm pa hs) fun σ H R ⟨B, O, h, ρ, S, q⟩ => by
  unfold sRng at q
  refine ⟨B, O, h, ρ, S, ?_⟩
  cases e1 : fs ρ with
  | none => rw [e1] at q; exact q.elim
  | some p =>
    obtain ⟨ds, ρ1⟩ := p
    rw [e1] at q
    simp only [Option.bind_some] at q
    intro vs H1 x1 S1 r
    unfold rngP at q
    split at q
    · split at q
      · rename_i n hb
        cases r with
        | cons r1 r2 =>
          cases r1
          cases r2
          refine ⟨n, rfl, hb.1, hb.2, q _ H1 x1 S1 ?_⟩
          have z := itr_d (K := X.K) (h := h) (lo := 0) (n := n.toNat) (H1 := H1)
          simpa only [Int.zero_add] using z
      · exact q.elim
    · exact q.elim
theorem zi_rng2 {p : Pos} (pa : ESs X T [a, b] fs) (hm : X.mg "range" = none) (hg : Gl X "range" := by rfl) (hs : starEach [a, b] X.env = [(false, eval a X.env), (false, eval b X.env)] := by rfl) (hs2 : starEach [b] X.env = [(false, eval b X.env)] := by rfl) :
    EI X T tg (.Call (.Name "range" p) [a, b] [] pos) (sRng2 fs) := imp_i (pi_range2 hg hm pa hs hs2) fun σ H R ⟨B, O, h, ρ, S, q⟩ => by
  unfold sRng2 at q
  refine ⟨B, O, h, ρ, S, ?_⟩
  cases e1 : fs ρ with
  | none => rw [e1] at q; exact q.elim
  | some p =>
    obtain ⟨ds, ρ1⟩ := p
    rw [e1] at q
    simp only [Option.bind_some] at q
    intro vs H1 x1 S1 r
    unfold rngP2 at q
    split at q
    · split at q
      · rename_i hb
        cases r with
        | cons r1 r2 =>
          cases r1
          cases r2 with
          | cons r3 r4 =>
            cases r3
            cases r4
            exact ⟨_, _, rfl, hb, q _ H1 x1 S1 itr_d⟩
      · exact q.elim
    · exact q.elim
def sItems (f : DS) : DSs := fun ρ => (f ρ).bind fun p => (itemsP p.1).map fun l => (l, p.2)
theorem zi_any (p : ES X T a f) : EI X T tg a (sItems f) := imp_i (PI.or (pi_list p) (PI.or (pi_tup p) (pi_str p))) fun σ H R ⟨B, O, h, ρ, S, q⟩ => by
  unfold sItems at q
  cases e1 : f ρ with
  | none => rw [e1] at q; exact q.elim
  | some p =>
    obtain ⟨d, ρ1⟩ := p
    rw [e1] at q
    simp only [Option.bind_some] at q
    cases d with
    | list l => exact .inl ⟨B, O, h, ρ, S, by
        rw [e1]
        intro v H1 x1 S1 r
        obtain ⟨p, vs, rfl, s, r'⟩ := r.listD
        exact ⟨p, rfl, ⟨vs, (hid_le h H1).seqL s⟩, q _ H1 x1 S1 (itl_d s r')⟩⟩
    | tuple l => exact .inr (.inl ⟨B, O, h, ρ, S, by
        rw [e1]
        intro v H1 x1 S1 r
        obtain ⟨p, vs, rfl, s, r'⟩ := r.tupleD
        exact ⟨p, rfl, ⟨vs, (hid_le h H1).seqT s⟩, q _ H1 x1 S1 (itt_d s r')⟩⟩)
    | str z => exact .inr (.inr ⟨B, O, h, ρ, S, by
        rw [e1]
        intro v H1 x1 S1 r
        cases r
        exact ⟨z, rfl, q _ H1 x1 S1 its_d⟩⟩)
    | _ => exact q.elim
/-! ### comprehensions -/
def slc (tgt : Tgt) (t : DST) (e : DS) (vs : List Nat) : Rho → List PyData → Option (List PyData × Rho)
  | ρ, [] => some ([], ρ)
  | ρ, d :: ds => (tgt d).bind fun l => (t (setR (wipeR ρ vs) l)).bind fun p => if p.1 = true then (e p.2).bind fun y => (slc tgt t e vs y.2 ds).bind fun z => some (y.1 :: z.1, z.2) else slc tgt t e vs p.2 ds
/-- behind the block its own slots are as they were -/
def resR (vs : List Nat) : Nat → Rho → Rho → Rho
  | i, x :: xs, y :: ys => (if i ∈ vs then (match x with
    | .dat d => .dat d
    | _ => .un) else y) :: resR vs (i + 1) xs ys
  | _, _, _ => []
theorem resR_len {vs : List Nat} : ∀ {i : Nat} {xs ys : Rho}, xs.length = ys.length → (resR vs i xs ys).length = xs.length
  | _, [], _, _ => rfl
  | _, _ :: _, [], h => by cases h
  | i, x :: xs, y :: ys, h => by
    unfold resR
    rw [List.length_cons, List.length_cons, resR_len (by simpa using h)]
theorem resR_get {vs : List Nat} : ∀ {i j : Nat} {xs ys : Rho} {t : Itm}, (resR vs i xs ys)[j]? = some t → (i + j ∈ vs ∧ ((∃ d, t = .dat d ∧ xs[j]? = some (.dat d)) ∨ t = .un)) ∨ (i + j ∉ vs ∧ ys[j]? = some t)
  | _, _, [], _, _, h => by cases h
  | _, _, _ :: _, [], _, h => by cases h
  | i, 0, x :: xs, y :: ys, t, h => by
    unfold resR at h
    rw [List.getElem?_cons_zero] at h
    cases h
    by_cases m : i ∈ vs
    · rw [if_pos m]
      refine .inl ⟨m, ?_⟩
      cases x with
      | dat d => exact .inl ⟨d, rfl, rfl⟩
      | un => exact .inr rfl
      | own l => exact .inr rfl
    · rw [if_neg m]
      exact .inr ⟨m, rfl⟩
  | i, j + 1, x :: xs, y :: ys, t, h => by
    unfold resR at h
    rw [List.getElem?_cons_succ] at h
    have z := resR_get h
    rw [show i + (j + 1) = i + 1 + j by omega, List.getElem?_cons_succ, List.getElem?_cons_succ]
    exact z
def sLc (its : DSs) (tgt : Tgt) (t : DST) (e : DS) (vs : List Nat) : DS := fun ρ => (its ρ).bind fun p => if p.1.length ≤ 100000 then (slc tgt t e vs p.2 p.1).map fun q => (.list q.1, resR vs 0 p.2 q.2) else none
def sYes : DST := fun ρ => some (true, ρ)
abbrev ESTs (X : Cx) (T : List (Addr × Str)) (ifs : List Expr) (t : DST) : Prop := PTs X ifs (tST X T t)
theorem ys_nil : ESTs X T [] sYes := imp_ts pts_nil fun σ H Q ⟨B, O, h, ρ, S, q⟩ => q H (.of (Ex.refl H)) S
theorem ys_one {t : DST} (p : EST X T a t) : ESTs X T [a] t := pts_one p
end
section
variable {K : Frag} {T : List (Addr × Str)} {B O h : List Addr} {H H' : Hp} {σ : L2.St} {ρ : Rho}
theorem wipeR_own {i : Nat} {x : Itm} (hx : x ≠ .un) : ∀ {vs : List Nat}, (wipeR ρ vs)[i]? = some x → ρ[i]? = some x ∧ i ∉ vs
  | [], h => ⟨h, fun m => by cases m⟩
  | v :: vs, h => by
    unfold wipeR at h
    by_cases e : v = i
    · subst e
      rw [List.getElem?_set, if_pos rfl] at h
      split at h
      · cases h; exact absurd rfl hx
      · cases h
    · rw [List.getElem?_set_ne e] at h
      obtain ⟨h1, h2⟩ := wipeR_own hx h
      exact ⟨h1, fun m => (List.mem_cons.mp m).elim (fun z => e z.symm) h2⟩
theorem own_ne {l : List PyData} : Itm.own l ≠ .un := fun z => nomatch z
theorem StS.wiped (S : StS K T B O h H σ ρ) (vs : List Nat) : StS K T B O h H (wipe σ vs) (wipeR ρ vs) := ⟨S.e.wiped vs, S.sub, S.base,
  fun i l p q1 q2 => S.lent i l p (wipeR_own own_ne q1).1 (wipe_some q2).1, fun i l p q1 q2 => S.own i l p (wipeR_own own_ne q1).1 (wipe_some q2).1, S.tab⟩
theorem setR_own {i : Nat} {l : List PyData} : ∀ {us : List (Nat × PyData)} {ρ : Rho}, (setR ρ us)[i]? = some (.own l) → ρ[i]? = some (.own l) ∧ i ∉ us.map (·.1)
  | [], _, h => ⟨h, fun m => by cases m⟩
  | (j, d) :: us, ρ, h => by
    have z : (setR (ρ.set j (.dat d)) us)[i]? = some (.own l) := h
    obtain ⟨h1, h2⟩ := setR_own z
    by_cases e : j = i
    · subst e
      rw [List.getElem?_set, if_pos rfl] at h1
      split at h1 <;> cases h1
    · rw [List.getElem?_set_ne e] at h1
      exact ⟨h1, fun m => (List.mem_cons.mp m).elim (fun z => e z.symm) h2⟩
theorem setS_out {i : Nat} : ∀ {us : List (Nat × V)} {σ : L2.St}, i ∉ us.map (·.1) → (setS σ us)[i]? = σ[i]?
  | [], _, _ => rfl
  | (j, v) :: us, σ, h => by
    have z : (setS σ ((j, v) :: us))[i]? = (setS (σ.set j (some v)) us)[i]? := rfl
    rw [z, setS_out fun m => h (List.mem_cons_of_mem _ m), List.getElem?_set_ne fun e => h (by rw [← e]; exact List.mem_cons_self)]
theorem StS.setMany (S : StS K T B O h H σ ρ) {us : List (Nat × V)} {l : List (Nat × PyData)} (e : us.map (·.1) = l.map (·.1)) (r : DrA K (hid h H) (us.map (·.2)) (l.map (·.2))) : StS K T B O h H (setS σ us) (setR ρ l) := by
  have key : ∀ {i : Nat} {m : List PyData} {p : Addr}, (setR ρ l)[i]? = some (.own m) → (setS σ us)[i]? = some (some (.ref p)) → ρ[i]? = some (.own m) ∧ σ[i]? = some (some (.ref p)) := fun {i m p} q1 q2 => by
    obtain ⟨h1, h2⟩ := setR_own q1
    rw [setS_out (by rw [e]; exact h2)] at q2
    exact ⟨h1, q2⟩
  exact ⟨S.e.setMany e r, S.sub, S.base, fun i m p q1 q2 => S.lent i m p (key q1 q2).1 (key q1 q2).2, fun i m p q1 q2 => S.own i m p (key q1 q2).1 (key q1 q2).2, S.tab⟩
/-- the hidden list at L is written -/
theorem StS.other {L : Addr} {xs ys : List V} (S : StS K T B O (L :: h) H σ ρ) (nL : L ∉ O) (e : H L = some (.lst xs)) : StS K T B O (L :: h) (upd H L (.lst ys)) σ ρ := by
  have x : Ex (hid (L :: h) H) (hid (L :: h) (upd H L (.lst ys))) := ex_upd List.mem_cons_self
  refine ⟨⟨S.e.dom.mv (Mv.upd (T := T) e), S.e.len, fun i d q => ?_, fun i l q => ?_, S.e.apart⟩, S.sub, S.base, S.lent, S.own, Tabs.upd e S.tab⟩
  · obtain ⟨v, h1, h2⟩ := S.e.slot i d q
    exact ⟨v, h1, h2.mono x⟩
  · obtain ⟨p, vs, h1, h2, h3, h4⟩ := S.e.own i l q
    have ne : p ≠ L := fun z => nL (by rw [← z]; exact S.own i l p q h1)
    exact ⟨p, vs, h1, h2, by rw [upd_ne ne]; exact h3, h4.mono x⟩
/-- behind the block -/
theorem StS.back {L : Addr} {vs : List Nat} {ρ' : Rho} (S0 : StS K T B O h H σ ρ) (S1 : StS K T B O (L :: h) H' (wipe σ vs) (wipeR ρ' vs)) (hl : ρ'.length = ρ.length) (nL : L ∉ h) (x : Mv T O H H') : StS K T B O h H' σ (resR vs 0 ρ ρ') := by
  have up : Ex (hid (L :: h) H') (hid h H') := hid_sub fun a m => List.mem_cons_of_mem _ m
  have wr : ∀ {i : Nat} {t : Itm}, i ∉ vs → ρ'[i]? = some t → (wipeR ρ' vs)[i]? = some t := fun {i t} n q => by
    have key : ∀ us : List Nat, i ∉ us → (wipeR ρ' us)[i]? = some t := by
      intro us
      induction us with
      | nil => exact fun _ => q
      | cons u us ih =>
        intro n
        unfold wipeR
        rw [List.getElem?_set_ne fun z => n (by rw [z]; exact List.mem_cons_self)]
        exact ih fun m => n (List.mem_cons_of_mem _ m)
    exact key vs n
  have own : ∀ {i : Nat} {l : List PyData}, (resR vs 0 ρ ρ')[i]? = some (.own l) → i ∉ vs ∧ (wipeR ρ' vs)[i]? = some (.own l) := fun {i l} q => by
    rcases resR_get q with ⟨_, ⟨d, e, _⟩ | e⟩ | ⟨n, q⟩
    · cases e
    · cases e
    · rw [Nat.zero_add] at n
      exact ⟨n, wr n q⟩
  refine ⟨⟨S0.e.dom.mv x, by rw [resR_len hl.symm]; exact S0.e.len, fun i d q => ?_, fun i l q => ?_, fun i j l l' p q1 q2 s1 s2 => ?_⟩, S0.sub, S0.base, fun i l p q s => ?_, fun i l p q s => ?_, S1.tab⟩
  · rcases resR_get q with ⟨_, ⟨d', e, q⟩ | e⟩ | ⟨n, q⟩
    · cases e
      obtain ⟨v, h1, h2⟩ := S0.e.slot i d q
      exact ⟨v, h1, h2.mono (x.ex S0.sub)⟩
    · cases e
    · rw [Nat.zero_add] at n
      obtain ⟨v, h1, h2⟩ := S1.e.slot i d (wr n q)
      exact ⟨v, (wipe_some h1).1, h2.mono up⟩
  · obtain ⟨n, q⟩ := own q
    obtain ⟨p, vs', h1, h2, h3, h4⟩ := S1.e.own i l q
    exact ⟨p, vs', (wipe_some h1).1, S0.sub p (S1.own i l p q h1), h3, h4.mono up⟩
  · obtain ⟨n1, q1⟩ := own q1
    obtain ⟨n2, q2⟩ := own q2
    exact S1.e.apart i j l l' p q1 q2 (by rw [wipe_out n1]; exact s1) (by rw [wipe_out n2]; exact s2)
  · obtain ⟨n1, q1⟩ := own q
    exact S1.lent i l p q1 (by rw [wipe_out n1]; exact s)
  · obtain ⟨n1, q1⟩ := own q
    exact S1.own i l p q1 (by rw [wipe_out n1]; exact s)
end
section
variable {X : Cx} {W : WX} {T : List (Addr × Str)} {a b c tg elt iter : Expr} {es : List Expr} {f g k : DS} {fs : DSs} {ft gt : DST} {pos : Pos}
def preS (ys : List PyData) (fin : Rho → Rho) (r : Option (List PyData × Rho)) : Option (PyData × Rho) := r.map fun q => (.list (ys ++ q.1), fin q.2)
theorem wipeR_len (vs : List Nat) : ∀ ρ : Rho, (wipeR ρ vs).length = ρ.length := fun ρ => by
  induction vs with
  | nil => rfl
  | cons v vs ih => unfold wipeR; rw [List.length_set, ih]
theorem reads_slc {its : DSs} {tgt : Tgt} {t : DST} {e : DS} {vs : List Nat} (wr : Writes tgt vs) : ∀ σ H Q, tS X T (sLc its tgt t e vs) σ H Q → tLc (tIS X T its) (gD X.K tgt) (tST X T t) (tS X T e) vs σ H Q := fun σ H Q ⟨B, O, h, ρ, S, q⟩ => by
  unfold sLc at q
  refine ⟨B, O, h, ρ, S, ?_⟩
  cases e1 : its ρ with
  | none => rw [e1] at q; exact q
  | some p =>
    obtain ⟨ds, ρ1⟩ := p
    rw [e1] at q
    simp only [Option.bind_some] at q
    split at q
    case isFalse => exact q.elim
    rename_i hz
    intro J H1 x1 S1 w L nL
    have nLh : L ∉ h := S1.e.dom.out nL
    have nLO : L ∉ O := fun m => nLh (S1.sub L m)
    have q0 : PoS X.K T B O h H σ (preS [] (resR vs 0 ρ1) (slc tgt t e vs ρ1 ds)) Q := q
    clear q
    have keepL : ∀ {Ha Hb : Hp}, Mv T O Ha Hb → ∀ {xs : List V}, Ha L = some (.lst xs) → Hb L = some (.lst xs) := fun x _ q => x.1 _ _ nLO (fun _ _ z => nomatch z) q
    refine ⟨fun i m Hc => m = ds.length - i ∧ i ≤ ds.length ∧ Mv T O H1 Hc ∧ ∃ acc ys ρc, Hc L = some (.lst acc) ∧ acc.length ≤ i ∧ DrA X.K (hid (L :: h) Hc) acc ys ∧ StS X.K T B O (L :: h) Hc (wipe σ vs) (wipeR ρc vs) ∧ ρc.length = ρ1.length ∧
      PoS X.K T B O h H σ (preS ys (resR vs 0 ρ1) (slc tgt t e vs ρc (ds.drop i))) Q,
      ⟨_, rfl, Nat.zero_le _, .of (Ex.new nL), [], [], ρ1, upd_same, Nat.le_refl _, .nil, (S1.hide (T' := T) (Ex.new nL) (.of nL) ⟨_, upd_same⟩).wiped vs, rfl, q0⟩, ?_⟩
    rintro i m Hc ⟨rfl, hi, xc, acc, ys, ρc, hL, hl, ra, Sc, hlen, q⟩
    have xH : Ex (hid h H1) (hid (L :: h) Hc) := fun b o z => by
      obtain ⟨g1, g2, g3⟩ := hid_some z
      have ne : b ≠ L := ne_of_none g2 nL
      exact hid_mk (fun m => (List.mem_cons.mp m).elim ne g1) (xc.1 b o (fun m => g1 (S1.sub b m)) (fun _ => g3) g2) g3
    obtain ⟨items, stop⟩ := w (L :: h) Hc Sc.e.dom xH
    by_cases hend : i = ds.length
    · subst hend
      rw [List.drop_length] at q
      have q' : PoS X.K T B O h H σ (some (PyData.list (ys ++ []), resR vs 0 ρ1 ρc)) Q := q
      rw [List.append_nil] at q'
      exact .inl ⟨stop, q' _ Hc (x1.trans xc) (S1.back Sc hlen nLh xc) (.lst (SqL.of (hid_mk nLh hL fun _ z => nomatch z)) (ra.mono (hid_sub fun a m => List.mem_cons_of_mem _ m)))⟩
    · have hlt : i < ds.length := Nat.lt_of_le_of_ne hi hend
      obtain ⟨go, yld⟩ := items i ds[i] (List.getElem?_eq_getElem hlt)
      refine .inr ⟨go, fun H' => Mv T O H1 H' ∧ ∃ acc ys ρc, H' L = some (.lst acc) ∧ acc.length ≤ i + 1 ∧ DrA X.K (hid (L :: h) H') acc ys ∧ StS X.K T B O (L :: h) H' (wipe σ vs) (wipeR ρc vs) ∧ ρc.length = ρ1.length ∧
          PoS X.K T B O h H σ (preS ys (resR vs 0 ρ1) (slc tgt t e vs ρc (ds.drop (i + 1)))) Q,
        fun H' ⟨z1, z2⟩ => ⟨_, (by omega), rfl, hlt, z1, z2⟩, fun x H'' y => ?_⟩
      obtain ⟨x2, rx⟩ := yld x H'' y
      rw [drop_get (List.getElem?_eq_getElem hlt)] at q
      cases e2 : tgt ds[i] with
      | none => simp only [preS, slc, e2, Option.bind_none, Option.map_none] at q; exact q.elim
      | some l =>
        simp only [preS, slc, e2, Option.bind_some] at q
        refine ⟨_, _, l, rx, e2, fun us k1 k2 => ?_⟩
        have hw : wipe (setS (wipe σ vs) us) vs = wipe σ vs := (setS_wipe us (fun j m => wr _ _ e2 j (by rw [← k1]; exact m)) _).trans (wipe_wipe vs)
        have hL2 : H'' L = some (.lst acc) := x2 _ _ hL
        have S2 : StS X.K T B O (L :: h) H'' (setS (wipe σ vs) us) (setR (wipeR ρc vs) l) := (Sc.mono x2).setMany k1 k2
        refine ⟨hw, B, O, L :: h, _, S2, ?_⟩
        have subh : ∀ a ∈ O, a ∈ L :: h := fun a m => List.mem_cons_of_mem _ (S1.sub a m)
        cases e3 : t (setR (wipeR ρc vs) l) with
        | none => rw [e3] at q; exact q.elim
        | some p3 =>
          obtain ⟨bb, ρ3⟩ := p3
          rw [e3] at q
          simp only [Option.bind_some] at q
          intro H3 x3 S3
          have hL3 : H3 L = some (.lst acc) := keepL x3 hL2
          have ra3 : DrA X.K (hid (L :: h) H3) acc ys := (ra.mono x2.hid).mono (x3.ex subh)
          have xx3 : Mv T O H1 H3 := (xc.trans (.of x2)).trans x3
          have len3 : ρ3.length = ρ1.length := by
            rw [← S3.e.len, S2.e.len, setR_len, wipeR_len, hlen]
          have W3 : StS X.K T B O (L :: h) H3 (wipe σ vs) (wipeR ρ3 vs) := by
            have z := S3.wiped vs
            rw [hw] at z
            exact z
          cases bb with
          | false => exact ⟨xx3, acc, ys, ρ3, hL3, Nat.le_succ_of_le hl, ra3, W3, len3, q⟩
          | true =>
            simp only [if_true] at q ⊢
            refine ⟨B, O, L :: h, _, S3, ?_⟩
            cases e4 : e ρ3 with
            | none => rw [e4] at q; exact q.elim
            | some p4 =>
              obtain ⟨y, ρ4⟩ := p4
              rw [e4] at q
              simp only [Option.bind_some] at q
              intro v H4 x4 S4 r4
              have hL4 : H4 L = some (.lst acc) := keepL x4 hL3
              have len4 : ρ4.length = ρ1.length := by
                rw [← S4.e.len, S3.e.len, len3]
              have W4 : StS X.K T B O (L :: h) H4 (wipe σ vs) (wipeR ρ4 vs) := by
                have z := S4.wiped vs
                rw [hw] at z
                exact z
              have xx : Ex (hid (L :: h) H4) (hid (L :: h) (upd H4 L (.lst (acc ++ [v])))) := ex_upd List.mem_cons_self
              refine ⟨acc, hL4, Nat.lt_of_le_of_lt hl (Nat.lt_of_lt_of_le hlt (Nat.le_trans hz (by decide))), ⟨fun b o n z q => ?_, fun b ws z => ?_⟩, acc ++ [v], ys ++ [y], ρ4, upd_same, ?_, ?_, W4.other nLO hL4, len4, ?_⟩
              · rw [upd_ne (ne_of_none q nL)]
                exact (xx3.trans x4).1 b o n z q
              · by_cases qb : b = L
                · rw [qb]; exact ⟨_, upd_same⟩
                · rw [upd_ne qb]
                  exact (xx3.trans x4).2 b ws z
              · rw [List.length_append, List.length_singleton]
                exact Nat.succ_le_succ hl
              · exact ((ra3.mono (x4.ex subh)).snoc r4).mono xx
              · have e5 : preS (ys ++ [y]) (resR vs 0 ρ1) (slc tgt t e vs ρ4 (ds.drop (i + 1))) = Option.map (fun q => (PyData.list (ys ++ q.1), resR vs 0 ρ1 q.2)) ((slc tgt t e vs ρ4 (ds.drop (i + 1))).bind fun z => some (y :: z.1, z.2)) := by
                  unfold preS
                  cases slc tgt t e vs ρ4 (ds.drop (i + 1)) with
                  | none => rfl
                  | some zs => simp only [Option.bind_some, Option.map_some, List.append_assoc, List.singleton_append]
                rw [e5]
                exact q
theorem z_lc {its : DSs} {tgt : Tgt} {t : DST} {e : DS} {ifs : List Expr} {scope : Scope} {own : List (Str × Nat)} (hc : X.calm = true) (hN : X.N.Nodup)
    (hi : EI X T tg iter its) (ok : blkC X.N X.env.scope scope own = true) (wr : Writes tgt (own.map (·.2)))
    (hg : ∀ (s : Shared) (H : Hp) (C : Addr) (cl : List (Str × Addr)) (fp : List Addr), PGD (X.blk s H scope (compEnvC scope cl C X.env) fp) tg tgt)
    (ht : ∀ (Y : Cx), (∃ s H C cl fp, Y = X.blk s H scope (compEnvC scope cl C X.env) fp) → ESTs Y T ifs t)
    (he : ∀ (Y : Cx), (∃ s H C cl fp, Y = X.blk s H scope (compEnvC scope cl C X.env) fp) → ES Y T elt e)
    (hs : ∀ x, foldedSetIterable iter X.env x = pure x := by intro _; rfl) : ES X T (.ListComp elt [⟨tg, iter, ifs, 0⟩] scope pos) (sLc its tgt t e (own.map (·.2))) :=
  imp_e (pe_lc hc hN hi (blkOk_by ok) hg (fun s H C cl fp => ht _ ⟨s, H, C, cl, fp, rfl⟩) (fun s H C cl fp => he _ ⟨s, H, C, cl, fp, rfl⟩) hs) (reads_slc wr)
end
end D
end

section
set_option Elab.async false
set_option linter.all false
set_option maxRecDepth 100000
set_option maxHeartbeats 4000000
/-! A lambda handed to a def that tries it: [call()], or None where it raises. -/
namespace D
open PySem L2 LamX
/-- try: return [a()] / except x: return None -/
def TTry (K : PySem.W.Frag) (CS : Addr) : (XK → Hp → VK → Prop) → Hp → VK → Prop := fun tl H Q =>
  tl (fun cls _ H' => ∃ b, PySem.W.exmOne K cls (.ref CS) = some b ∧ (b = true → Q .non H') ∧ (b = false → False)) H fun v H1 => ([v] : List V).length ≤ sizeLine ∧ ∀ L, H1 L = none → Q (.ref L) (upd H1 L (.lst [v]))
section
variable {X : Cx} {W : WX} {T : List (Addr × Str)} {pos : Pos}
theorem try_gives {Ng : List Str} {x a e q : Str} {sg : Scope} {g CS : Addr} {cdg : Value} {j : Nat} {p1 p2 p3 p4 p5 p6 p7 p8 p9 : Pos} (hge : sg.names.lookup e = some .globalImplicit) (hme : X.mg e = some (.ref CS)) (hde : (e == ("__debug__" : Str)) = false) (h0 : ∀ f : Addr, (L2.start Ng [V.ref f])[0]? = some (some (V.ref f))) :
    GivesTo X Ng x sg g cdg [.Try [.Return (some (.List [.Call (.Name a p1) [] [] p2] p9)) p3] [.ExceptHandler (some (.Name e p4)) none [.Return (some (.Constant .none j p5)) p6] p7] [] [] p8] a q (TTry X.K CS) := by
  intro f c' s H Q tl act hc h
  have hgl : Gl (cxOf C8.CX0 X.prog X.w X.K X.mg X.base Ng x sg g cdg X.A X.stack s H C8.E0).nox e := hge
  refine ⟨_, pss_one (ps_try_only (X := (cxOf C8.CX0 X.prog X.w X.K X.mg X.base Ng x sg g cdg X.A X.stack s H C8.E0).nox) (c := .ref CS)
      (tb := fun W D σ H => ∃ Ech : XK, (∀ cls d σ' H', Ech cls d H' → W cls d σ' H') ∧ σ[0]? = some (some (.ref f)) ∧ H c' = some (CodeO c' q) ∧ tl Ech H fun v H1 => ([v] : List V).length ≤ sizeLine ∧ ∀ L, H1 L = none → D.rt (.ref L) (upd H1 L (.lst [v])))
      rfl rfl ⟨hgl, hde, .inl hme⟩ LamX.takes0 (fun W pn xe tk _ => ?_) (fun a oe cls d pn _ _ => pss_one (ps_ret pe_non))), ?_⟩
  · refine ⟨fun pins s' σ H' D I h' => ?_⟩
    obtain ⟨Ech, hW, h1, h2, h3⟩ := h'
    have hp := act W pn xe Ech p1 p2 tk hW
    have hq := pss_one (ps_ret (pos := p3) (pe_lst (pos := p9) (pa_cons hp pa_nil)))
    exact hq.run pins s' σ H' D I ⟨h1, h2, h3⟩
  · exact ⟨fun cls _ H' => ∃ b, PySem.W.exmOne X.K cls (.ref CS) = some b ∧ (b = true → Q .non H') ∧ (b = false → False), fun cls d σ' H' ⟨b, e1, e2, e3⟩ => ⟨b, e1, fun hb a _ => e2 hb, fun hb => e3 hb⟩, h0 f, hc, h⟩
/-- isP e: the class e is caught -/
def sTry (isP : Str → Bool) (f : DQ) : DS := fun ρ => match f ρ with
  | .ok d => some (.list [d], ρ)
  | .err e => if isP e = true then some (.none, ρ) else none
  | .stuck => none
theorem StS.extN {K : Frag} {B O h : List Addr} {H H1 : Hp} {σ : L2.St} {ρ : Rho} (S : StS K T B O h H σ ρ) (e : ExtN H H1) (t : Tabs T H1) : StS K T B O h H1 σ ρ := by
  have x : Ex (hid h H) (hid h H1) := fun a o q => by
    obtain ⟨h1, h2, h3⟩ := hid_some q
    exact hid_mk h1 (e a o h2 h3) h3
  refine ⟨⟨fun a m => ?_, S.e.len, fun i d q => ?_, fun i l q => ?_, S.e.apart⟩, S.sub, S.base, S.lent, S.own, t⟩
  · obtain ⟨xs, q⟩ := S.e.dom a m
    exact ⟨xs, e a _ q fun _ z => nomatch z⟩
  · obtain ⟨v, h1, h2⟩ := S.e.slot i d q
    exact ⟨v, h1, h2.mono x⟩
  · obtain ⟨p, vs, h1, h2, h3, h4⟩ := S.e.own i l q
    exact ⟨p, vs, h1, h2, (e p _ h3 fun _ z => nomatch z), h4.mono x⟩
theorem Mv.extN {O : List Addr} {H H1 : Hp} (t : T ≠ []) (e : ExtN H H1) : Mv T O H H1 := ⟨fun a o _ z q => e a o q (z t), fun a xs q => ⟨xs, e a _ q fun _ z => nomatch z⟩⟩
theorem reads_try (nT : T ≠ []) {isP : Str → Bool} {CS : Addr} {f : DQ} (hex : ∀ e C, isP e = true → X.mg e = some (.ref C) → PySem.W.exmOne X.K (.ref C) (.ref CS) = some true) : ∀ σ H Q, tS X T (sTry isP f) σ H Q → tLam T (TTry X.K CS) (fun E => tD X (fun c d _ H => E c d H) f) σ H Q := fun σ H Q ⟨B, O, h, ρ, S, q⟩ => by
  refine ⟨S.tab, fun H1 e1 t1 => ?_⟩
  have S1 := S.extN e1 t1
  have x1 : Mv T O H H1 := Mv.extN nT e1
  unfold sTry at q
  refine ⟨h, ρ, S1.e, ?_⟩
  cases e2 : f ρ with
  | stuck => rw [e2] at q; exact q.elim
  | err x =>
    rw [e2] at q
    simp only at q
    split at q
    · rename_i hp
      exact fun C H' m z => ⟨true, hex x C hp m, fun _ => q .non H' (x1.trans (.of z)) (S1.mono z) .non, fun b => by cases b⟩
    · exact q.elim
  | ok d =>
    rw [e2] at q
    exact fun v H2 x2 r => ⟨by show 1 ≤ sizeLine; decide, fun L nL => q _ _ ((x1.trans (.of x2)).trans (.of (Ex.new nL))) ((S1.mono x2).mono (Ex.new nL)) (new_lst (S1.mono x2).e.dom nL (.cons r .nil))⟩
theorem z_try {x a e : Str} {st : Stmt} {g CS c P : Addr} {fd : FuncData} {Ng : List Str} {k j : Nat} {isP : Str → Bool} {f : DQ} {params : Arguments} {body : Expr} {scope : Scope} {p lpos p1 p2 p3 p4 p5 p6 p7 p8 p9 : Pos}
    (F : Fun X.K x x st g fd) (hg : Gl X x) (hm : X.mg x = some (.ref g)) (hk : PySem.W.keepIn X.K (.ref g) = true) (hb : L2.Binds X.K fd [a] []) (Sg : FnScope Ng [a] (defScope st)) (hNg : Ng[0]? = some a) (hva : Vis (defScope st) a)
    (hst : defBody st = [.Try [.Return (some (.List [.Call (.Name a p1) [] [] p2] p9)) p3] [.ExceptHandler (some (.Name e p4)) none [.Return (some (.Constant .none j p5)) p6] p7] [] [] p8])
    (hge : (defScope st).names.lookup e = some .globalImplicit) (hme : X.mg e = some (.ref CS)) (hde : (e == ("__debug__" : Str)) = false) (h0 : ∀ f : Addr, (L2.start Ng [V.ref f])[0]? = some (some (V.ref f)))
    (hex : ∀ e C, isP e = true → X.mg e = some (.ref C) → PySem.W.exmOne X.K (.ref C) (.ref CS) = some true)
    (TB : TabB X.base X.mg c P) (hcode : X.env.code = .ref c) (hmT : (P, X.env.qual ++ "<lambda>") ∈ T) (hu : ∀ p ∈ T, p.1 = P → p.2 = X.env.qual ++ "<lambda>") (hr : Room (k + 2) X.A) (L : LamS X.env.scope scope) (hdef : defaultsOf params X.env = ([], []))
    (hbind : ∀ (q : Str) (cl : List (Str × Addr)) (pm cv ctv : Value), bindArgs (PySem.W.kla_fn "<lambda>" q params body scope cl pm cv ctv) ⟨[], []⟩ = pure [])
    (hbody : ∀ (Y : Cx) (V : WX), (∃ A outer s H E f c', Y = lamCx X A outer s H E scope f c' ∧ Room k Y.A) → Pas Y V → PQ Y V body f)
    (hdb : (x == ("__debug__" : Str)) = false := by decide) (hd : (a == ("__debug__" : Str)) = false := by decide) (hcd : (a == ("__classdict__" : Str)) = false := by decide) :
    ES X T (.Call (.Name x p) [.Lambda params body scope lpos] [] pos) (sTry isP f) := by
  obtain ⟨oc, od, kV, doc, pm, an, cdv, ct, osl, rfl, lk, hcd'⟩ := F.ex
  have G : GivesTo X Ng x (defScope st) g cdv (defBody st) a (X.env.qual ++ "<lambda>") (TTry X.K CS) := by
    rw [hst]
    exact try_gives hge hme hde h0
  refine imp_e (pe_lamcall (T := T) (TT := TTry X.K CS) (t := fun E => tD X (fun c d _ H => E c d H) f) hg hm hk lk hcd' hb Sg hNg hva G TB hcode hmT hu hr L hdef hbind (fun A outer s H E f c' hr' => ?_) hdb hd hcd) (reads_try (fun z => by rw [z] at hmT; cases hmT) hex)
  exact hbody (lamCx X A outer s H E scope f c') (fun c d _ H => E c d H) ⟨A, outer, s, H, E, f, c', rfl, hr'⟩ (pas_of (takes_of rfl rfl rfl rfl))
end
end D
end

section
set_option Elab.async false
set_option linter.all false
set_option maxRecDepth 100000
set_option maxHeartbeats 4000000
/-! Statements. -/
namespace D
open PySem L2 LamX

/-! ### expressions of both kinds -/
inductive RX (α : Type) where
  | stuck
  | err (e : Str)
  | ok (a : α) (ρ : Rho)
abbrev DX := Rho → RX PyData
abbrev DXs := Rho → RX (List PyData)
abbrev DXT := Rho → RX Bool
def PoX (K : Frag) (mg : Str → Option Value) (W : Wk) (T : List (Addr × Str)) (B O h : List Addr) (H : Hp) (σ : L2.St) (r : RX PyData) (Q : VK) : Prop := match r with
  | .stuck => False
  | .err e => ∀ C H', mg e = some (.ref C) → Mv T O H H' → W (.ref C) none H'
  | .ok d ρ => ∀ v H', Mv T O H H' → StS K T B O h H' σ ρ → Dr K (hid h H') v d → Q v H'
def PoXs (K : Frag) (mg : Str → Option Value) (W : Wk) (T : List (Addr × Str)) (B O h : List Addr) (H : Hp) (σ : L2.St) (r : RX (List PyData)) (Q : List V → Hp → Prop) : Prop := match r with
  | .stuck => False
  | .err e => ∀ C H', mg e = some (.ref C) → Mv T O H H' → W (.ref C) none H'
  | .ok d ρ => ∀ v H', Mv T O H H' → StS K T B O h H' σ ρ → DrA K (hid h H') v d → Q v H'
def PoXT (mg : Str → Option Value) (W : Wk) (K : Frag) (T : List (Addr × Str)) (B O h : List Addr) (H : Hp) (σ : L2.St) (r : RX Bool) (Q : Bool → Hp → Prop) : Prop := match r with
  | .stuck => False
  | .err e => ∀ C H', mg e = some (.ref C) → Mv T O H H' → W (.ref C) none H'
  | .ok b ρ => ∀ H', Mv T O H H' → StS K T B O h H' σ ρ → Q b H'
def PoXI (K : Frag) (mg : Str → Option Value) (W : Wk) (T : List (Addr × Str)) (B O h : List Addr) (H : Hp) (σ : L2.St) (r : RX (List PyData)) (R : It → Hp → Prop) : Prop := match r with
  | .stuck => False
  | .err e => ∀ C H', mg e = some (.ref C) → Mv T O H H' → W (.ref C) none H'
  | .ok ds ρ => ∀ J H', Mv T O H H' → StS K T B O h H' σ ρ → ItD K h J ds H' → R J H'
def tX (X : Cx) (W : WX) (T : List (Addr × Str)) (f : DX) : TE := fun σ H Q => ∃ B O h ρ, StS X.K T B O h H σ ρ ∧ PoX X.K X.mg (wAt W σ) T B O h H σ (f ρ) Q
def tXs (X : Cx) (W : WX) (T : List (Addr × Str)) (f : DXs) : TA := fun σ H Q => ∃ B O h ρ, StS X.K T B O h H σ ρ ∧ PoXs X.K X.mg (wAt W σ) T B O h H σ (f ρ) Q
def tXT (X : Cx) (W : WX) (T : List (Addr × Str)) (f : DXT) : TT := fun σ H Q => ∃ B O h ρ, StS X.K T B O h H σ ρ ∧ PoXT X.mg (wAt W σ) X.K T B O h H σ (f ρ) Q
def tXI (X : Cx) (W : WX) (T : List (Addr × Str)) (f : DXs) : TI := fun σ H Q => ∃ B O h ρ, StS X.K T B O h H σ ρ ∧ PoXI X.K X.mg (wAt W σ) T B O h H σ (f ρ) Q
def liR {α : Type} (f : Rho → Res α) : Rho → RX α := fun ρ => match f ρ with
  | .stuck => .stuck
  | .err e => .err e
  | .ok d => .ok d ρ
def liO {α : Type} (f : Rho → Option (α × Rho)) : Rho → RX α := fun ρ => match f ρ with
  | none => .stuck
  | some (d, ρ) => .ok d ρ
section
variable {X : Cx} {W : WX} {T : List (Addr × Str)} {a b c tg : Expr} {es : List Expr} {pos : Pos}
theorem x_q {f : DQ} (p : PQ X W a f) : PE X a (tX X W T (liR f)) := imp_e p fun σ H Q ⟨B, O, h, ρ, S, q⟩ => by
  unfold liR at q
  refine ⟨h, ρ, S.e, ?_⟩
  cases e : f ρ with
  | stuck => rw [e] at q; exact q.elim
  | err x => rw [e] at q; exact fun C H' m z => q C H' m (.of z)
  | ok d => rw [e] at q; exact fun v H' x r => q v H' (.of x) (S.mono x) r
theorem x_s {f : DS} (p : ES X T a f) : PE X a (tX X W T (liO f)) := imp_e p fun σ H Q ⟨B, O, h, ρ, S, q⟩ => by
  unfold liO at q
  refine ⟨B, O, h, ρ, S, ?_⟩
  cases e : f ρ with
  | none => rw [e] at q; exact q.elim
  | some x => obtain ⟨d, ρ1⟩ := x; rw [e] at q; exact q
theorem xs_q {f : DQs} (p : PQs X W es f) : PA X es (tXs X W T (liR f)) := imp_a p fun σ H Q ⟨B, O, h, ρ, S, q⟩ => by
  unfold liR at q
  refine ⟨h, ρ, S.e, ?_⟩
  cases e : f ρ with
  | stuck => rw [e] at q; exact q.elim
  | err x => rw [e] at q; exact fun C H' m z => q C H' m (.of z)
  | ok d => rw [e] at q; exact fun v H' x r => q v H' (.of x) (S.mono x) r
theorem xs_s {f : DSs} (p : ESs X T es f) : PA X es (tXs X W T (liO f)) := imp_a p fun σ H Q ⟨B, O, h, ρ, S, q⟩ => by
  unfold liO at q
  refine ⟨B, O, h, ρ, S, ?_⟩
  cases e : f ρ with
  | none => rw [e] at q; exact q.elim
  | some x => obtain ⟨d, ρ1⟩ := x; rw [e] at q; exact q
theorem xt_q {f : DT} (p : PB X W a f) : PT X a (tXT X W T (liR f)) := imp_t p fun σ H Q ⟨B, O, h, ρ, S, q⟩ => by
  unfold liR at q
  refine ⟨h, ρ, S.e, ?_⟩
  cases e : f ρ with
  | stuck => rw [e] at q; exact q.elim
  | err x => rw [e] at q; exact fun C H' m z => q C H' m (.of z)
  | ok d => rw [e] at q; exact fun H' x => q H' (.of x) (S.mono x)
theorem xt_s {f : DST} (p : EST X T a f) : PT X a (tXT X W T (liO f)) := imp_t p fun σ H Q ⟨B, O, h, ρ, S, q⟩ => by
  unfold liO at q
  refine ⟨B, O, h, ρ, S, ?_⟩
  cases e : f ρ with
  | none => rw [e] at q; exact q.elim
  | some x => obtain ⟨d, ρ1⟩ := x; rw [e] at q; exact q
theorem xi_q {f : DQs} (p : PItD X W tg a f) : PI X tg a (tXI X W T (liR f)) := imp_i p fun σ H Q ⟨B, O, h, ρ, S, q⟩ => by
  unfold liR at q
  refine ⟨h, ρ, S.e, ?_⟩
  cases e : f ρ with
  | stuck => rw [e] at q; exact q.elim
  | err x => rw [e] at q; exact fun C H' m z => q C H' m (.of z)
  | ok d => rw [e] at q; exact fun J H' x r => q J H' (.of x) (S.mono x) r
theorem xi_s {f : DSs} (p : EI X T tg a f) : PI X tg a (tXI X W T (liO f)) := imp_i p fun σ H Q ⟨B, O, h, ρ, S, q⟩ => by
  unfold liO at q
  refine ⟨B, O, h, ρ, S, ?_⟩
  cases e : f ρ with
  | none => rw [e] at q; exact q.elim
  | some x => obtain ⟨d, ρ1⟩ := x; rw [e] at q; exact q
end
/-! ### outcomes -/
inductive Out where
  | stuck
  | err (e : Str)
  | nx (ρ : Rho)
  | ret (d : PyData) (ρ : Rho)
  | rn (l : List PyData) (ρ : Rho)
  | brk (ρ : Rho)
  | ct (ρ : Rho)
abbrev SM := Rho → Out
def Fr (T : List (Addr × Str)) (O O' : List Addr) (H : Hp) : Prop := ∀ a ∈ O', a ∈ O ∨ Nw T H a
structure Gr (T : List (Addr × Str)) (O h : List Addr) (H : Hp) (O' h' : List Addr) (H' : Hp) : Prop where
  mv : Mv T O H H'
  fo : Fr T O O' H
  fh : Fr T h h' H
theorem Gr.refl {T : List (Addr × Str)} (O h : List Addr) (H : Hp) : Gr T O h H O h H := ⟨.of (Ex.refl H), fun a m => .inl m, fun a m => .inl m⟩
theorem Gr.of {T : List (Addr × Str)} {O h : List Addr} {H H' : Hp} (m : Mv T O H H') : Gr T O h H O h H' := ⟨m, fun a m => .inl m, fun a m => .inl m⟩
theorem Mv.comp {T : List (Addr × Str)} {O O' : List Addr} {H H' H'' : Hp} (x : Mv T O H H') (f : Fr T O O' H) (y : Mv T O' H' H'') : Mv T O H H'' := ⟨fun a o n z q => y.1 a o (fun m => (f a m).elim n fun w => by
    obtain ⟨t, ps, e⟩ := w o q
    exact z t ps e) z (x.1 a o n z q), fun a xs q => by
  obtain ⟨ys, q1⟩ := x.2 a xs q
  exact y.2 a ys q1⟩
theorem Gr.trans {K : Frag} {T : List (Addr × Str)} {B O h O1 h1 O2 h2 : List Addr} {H H1 H2 : Hp} {σ : L2.St} {ρ : Rho} (S : StS K T B O h H σ ρ) (x : Gr T O h H O1 h1 H1) (y : Gr T O1 h1 H1 O2 h2 H2) : Gr T O h H O2 h2 H2 :=
  ⟨x.mv.comp x.fo y.mv, fun a m => (y.fo a m).elim (x.fo a) fun n => .inr (Nw.back S x.mv n), fun a m => (y.fh a m).elim (x.fh a) fun n => .inr (Nw.back S x.mv n)⟩
theorem Gr.ex {T : List (Addr × Str)} {O h O' h' : List Addr} {H H' : Hp} (x : Gr T O h H O' h' H') (s : ∀ a ∈ O, a ∈ h) : Ex (hid h H) (hid h' H') := fun a o q => by
  obtain ⟨g1, g2, g3⟩ := hid_some q
  exact hid_mk (fun m => (x.fh a m).elim g1 fun n => n.hid q rfl) (x.mv.1 a o (fun m => g1 (s a m)) (fun _ => g3) g2) g3
def Kn (K : Frag) (T : List (Addr × Str)) (B O h : List Addr) (H : Hp) (ρ : Rho) (N : L2.St → Hp → Prop) : Prop := ∀ σ' H' O' h', Gr T O h H O' h' H' → StS K T B O' h' H' σ' ρ → N σ' H'
def PoOut (K : Frag) (mg : Str → Option Value) (W : WX) (T : List (Addr × Str)) (B O h : List Addr) (H : Hp) (r : Out) (E : Ends) : Prop := match r with
  | .stuck => False
  | .err e => ∀ C σ' H', mg e = some (.ref C) → Mv T O H H' → W (.ref C) none σ' H'
  | .nx ρ => Kn K T B O h H ρ E.nx
  | .brk ρ => Kn K T B O h H ρ E.bk
  | .ct ρ => Kn K T B O h H ρ E.ct
  | .ret d ρ => ∀ v σ' H' O' h', Gr T O h H O' h' H' → StS K T B O' h' H' σ' ρ → Dr K (hid h' H') v d → E.rt v H'
  | .rn l ρ => ∀ p vs σ' H' O' h', Nw T H p → Gr T O h H O' h' H' → StS K T B O' (p :: h') H' σ' ρ → H' p = some (.lst vs) → DrA K (hid (p :: h') H') vs l → E.rt (.ref p) H'
section
variable {K : Frag} {mg : Str → Option Value} {W : WX} {T : List (Addr × Str)} {B O h O1 h1 : List Addr} {H H1 : Hp} {σ : L2.St} {ρ : Rho}
theorem Kn.mono {ρ' : Rho} {N : L2.St → Hp → Prop} (k : Kn K T B O h H ρ' N) (S : StS K T B O h H σ ρ) (g : Gr T O h H O1 h1 H1) : Kn K T B O1 h1 H1 ρ' N := fun σ' H' O' h' g' S' => k σ' H' O' h' (g.trans S g') S'
theorem PoOut.mono {r : Out} {E : Ends} (p : PoOut K mg W T B O h H r E) (S : StS K T B O h H σ ρ) (g : Gr T O h H O1 h1 H1) : PoOut K mg W T B O1 h1 H1 r E := by
  cases r with
  | stuck => exact p
  | err e => exact fun C σ' H' m z => p C σ' H' m (g.mv.comp g.fo z)
  | nx ρ' => exact Kn.mono p S g
  | brk ρ' => exact Kn.mono p S g
  | ct ρ' => exact Kn.mono p S g
  | ret d ρ' => exact fun v σ' H' O' h' g' S' r => p v σ' H' O' h' (g.trans S g') S' r
  | rn l ρ' => exact fun q vs σ' H' O' h' n g' S' e r => p q vs σ' H' O' h' (Nw.back S g.mv n) (g.trans S g') S' e r
end
def tSS (X : Cx) (W : WX) (T : List (Addr × Str)) (f : SM) : TS := fun E σ H => ∃ B O h ρ, StS X.K T B O h H σ ρ ∧ PoOut X.K X.mg W T B O h H (f ρ) E
abbrev SD (X : Cx) (W : WX) (T : List (Addr × Str)) (st : Stmt) (f : SM) : Prop := PS X st (tSS X W T f)
abbrev SDs (X : Cx) (W : WX) (T : List (Addr × Str)) (sts : List Stmt) (f : SM) : Prop := PSs X sts (tSS X W T f)
def Out.thn (r : Out) (g : SM) : Out := match r with
  | .nx ρ => g ρ
  | r => r
section
variable {X : Cx} {W : WX} {T : List (Addr × Str)} {a b c tg : Expr} {es : List Expr} {pos : Pos} {st : Stmt} {rest A' B' : List Stmt} {f g : SM}
/-- the wish is not of the slots -/
def NoS (W : WX) : Prop := ∀ c d σ σ' H, W c d σ H → W c d σ' H
theorem sd_nil : SDs X W T [] (fun ρ => .nx ρ) := imp_ss pss_nil fun E σ H ⟨B, O, h, ρ, S, q⟩ => q σ H O h (Gr.refl O h H) S
theorem reads_seq : ∀ E σ H, tSS X W T (fun ρ => (f ρ).thn g) E σ H → tSeq (tSS X W T f) (tSS X W T g) E σ H := fun E σ H ⟨B, O, h, ρ, S, q⟩ => by
  refine ⟨B, O, h, ρ, S, ?_⟩
  cases e : f ρ with
  | nx ρ1 =>
    simp only [e, Out.thn] at q
    exact fun σ' H' O' h' gr S' => ⟨B, O', h', ρ1, S', PoOut.mono q S gr⟩
  | stuck => simp only [e, Out.thn] at q; exact q
  | err x => simp only [e, Out.thn] at q; exact q
  | ret d ρ1 => simp only [e, Out.thn] at q; exact q
  | rn d ρ1 => simp only [e, Out.thn] at q; exact q
  | brk ρ1 => simp only [e, Out.thn] at q; exact q
  | ct ρ1 => simp only [e, Out.thn] at q; exact q
theorem sd_cons (p : SD X W T st f) (q : SDs X W T rest g) : SDs X W T (st :: rest) (fun ρ => (f ρ).thn g) := imp_ss (pss_cons p q) reads_seq
theorem sd_one (p : SD X W T st f) : SDs X W T [st] f := pss_one p
/-- a list of the frame's own will change no more -/
def frz (i : Nat) (ρ : Rho) : Rho := match ρ[i]? with
  | some (.own l) => ρ.set i (.dat (.list l))
  | _ => ρ
theorem StS.freeze {K : Frag} {B O h : List Addr} {H : Hp} {σ : L2.St} {ρ : Rho} (S : StS K T B O h H σ ρ) {i : Nat} (hi : i ≠ 0) : ∃ O' h', Gr T O h H O' h' H ∧ StS K T B O' h' H σ (frz i ρ) := by
  unfold frz
  split
  · rename_i l hl
    obtain ⟨p, vs, h1, h2, h3, h4⟩ := S.e.own i l hl
    have hlen : i < ρ.length := (List.getElem?_eq_some_iff.mp hl).1
    have memO : ∀ {a}, a ∈ O.filter (fun a => decide (a ≠ p)) ↔ a ∈ O ∧ a ≠ p := fun {a} => by rw [List.mem_filter, decide_eq_true_iff]
    have memh : ∀ {a}, a ∈ h.filter (fun a => decide (a ≠ p)) ↔ a ∈ h ∧ a ≠ p := fun {a} => by rw [List.mem_filter, decide_eq_true_iff]
    have up : Ex (hid h H) (hid (h.filter fun a => decide (a ≠ p)) H) := hid_sub fun a m => (memh.mp m).1
    have was : ∀ {j : Nat} {m : List PyData}, (ρ.set i (Itm.dat (.list l)))[j]? = some (.own m) → j ≠ i ∧ ρ[j]? = some (.own m) := fun {j m} q => by
      by_cases e : i = j
      · subst e
        rw [List.getElem?_set, if_pos rfl, if_pos hlen] at q
        cases q
      · rw [List.getElem?_set_ne e] at q
        exact ⟨fun z => e z.symm, q⟩
    refine ⟨_, _, ⟨.of (Ex.refl H), fun a m => .inl (memO.mp m).1, fun a m => .inl (memh.mp m).1⟩, ⟨fun a m => S.e.dom a (memh.mp m).1, by rw [List.length_set]; exact S.e.len, fun j d q => ?_, fun j m q => ?_, fun j k m m' q' q1 q2 s1 s2 => ?_⟩, fun a m => memh.mpr ⟨S.sub a (memO.mp m).1, (memO.mp m).2⟩,
      fun a m => memh.mpr ⟨S.base a m, fun z => hi ((S.lent i l p hl h1).mp (by rw [← z]; exact m))⟩, fun j m q q1 s => S.lent j m q (was q1).2 s, fun j m q q1 s => memO.mpr ⟨S.own j m q (was q1).2 s, fun z => (was q1).1 (S.e.apart j i m l p (was q1).2 hl (by rw [← z]; exact s) h1)⟩, S.tab⟩
    · by_cases e : i = j
      · subst e
        rw [List.getElem?_set, if_pos rfl, if_pos hlen] at q
        cases q
        exact ⟨_, h1, .lst (SqL.of (hid_mk (fun m => (memh.mp m).2 rfl) h3 fun _ z => nomatch z)) (h4.mono up)⟩
      · rw [List.getElem?_set_ne e] at q
        obtain ⟨v, k1, k2⟩ := S.e.slot j d q
        exact ⟨v, k1, k2.mono up⟩
    · obtain ⟨ne, q⟩ := was q
      obtain ⟨p2, vs2, k1, k2, k3, k4⟩ := S.e.own j m q
      exact ⟨p2, vs2, k1, memh.mpr ⟨k2, fun z => ne (S.e.apart j i m l p q hl (by rw [← z]; exact k1) h1)⟩, k3, k4.mono up⟩
    · exact S.e.apart j k m m' q' (was q1).2 (was q2).2 s1 s2
  · exact ⟨O, h, Gr.refl O h H, S⟩
theorem sd_frz {i : Nat} (hi : i ≠ 0) (p : SDs X W T rest f) : SDs X W T rest (fun ρ => f (frz i ρ)) := imp_ss p fun E σ H ⟨B, O, h, ρ, S, q⟩ => by
  obtain ⟨O', h', g, S'⟩ := S.freeze hi
  exact ⟨B, O', h', _, S', PoOut.mono q S g⟩
end
end D
end

section
set_option Elab.async false
set_option linter.all false
set_option maxRecDepth 100000
set_option maxHeartbeats 4000000
/-! Rules of statements. -/
namespace D
open PySem L2 LamX
def xbind {α : Type} (r : RX α) (k : α → Rho → Out) : Out := match r with
  | .stuck => .stuck
  | .err e => .err e
  | .ok a ρ => k a ρ
section
variable {X : Cx} {W : WX} {T : List (Addr × Str)} {a b c tg : Expr} {es : List Expr} {pos : Pos} {st : Stmt} {rest A' B' : List Stmt} {f g : SM} {F G : DX} {FT : DXT} {FS : DXs}
/-- run an expression, then go on -/
theorem xgo {k : PyData → Rho → Out} {E : Ends} {σ : L2.St} {H : Hp} {Q : VK} (h' : tSS X W T (fun ρ => xbind (F ρ) k) E σ H)
    (K : ∀ B O h H1 d ρ1 v, StS X.K T B O h H1 σ ρ1 → Dr X.K (hid h H1) v d → PoOut X.K X.mg W T B O h H1 (k d ρ1) E → Q v H1) : tX X W T F σ H Q := by
  obtain ⟨B, O, h, ρ, S, q⟩ := h'
  refine ⟨B, O, h, ρ, S, ?_⟩
  cases e : F ρ with
  | stuck => simp only [e, xbind] at q; exact q
  | err x => simp only [e, xbind] at q; exact fun C H' m z => q C σ H' m z
  | ok d ρ1 =>
    simp only [e, xbind] at q
    exact fun v H1 x1 S1 r1 => K B O h H1 d ρ1 v S1 r1 (PoOut.mono q S (Gr.of x1))
theorem xgoT {k : Bool → Rho → Out} {E : Ends} {σ : L2.St} {H : Hp} {Q : Bool → Hp → Prop} (h' : tSS X W T (fun ρ => xbind (FT ρ) k) E σ H)
    (K : ∀ B O h H1 d ρ1, StS X.K T B O h H1 σ ρ1 → PoOut X.K X.mg W T B O h H1 (k d ρ1) E → Q d H1) : tXT X W T FT σ H Q := by
  obtain ⟨B, O, h, ρ, S, q⟩ := h'
  refine ⟨B, O, h, ρ, S, ?_⟩
  cases e : FT ρ with
  | stuck => simp only [e, xbind] at q; exact q
  | err x => simp only [e, xbind] at q; exact fun C H' m z => q C σ H' m z
  | ok d ρ1 =>
    simp only [e, xbind] at q
    exact fun H1 x1 S1 => K B O h H1 d ρ1 S1 (PoOut.mono q S (Gr.of x1))
theorem StS.set1 {K : Frag} {B O h : List Addr} {H : Hp} {σ : L2.St} {ρ : Rho} (S : StS K T B O h H σ ρ) (i : Nat) {v : V} {d : PyData} (r : Dr K (hid h H) v d) : StS K T B O h H (σ.set i (some v)) (ρ.set i (.dat d)) :=
  S.setMany (us := [(i, v)]) (l := [(i, d)]) rfl (.cons r .nil)
/-! ### stores -/
def mSet (i : Nat) (F : DX) : SM := fun ρ => xbind (F ρ) fun d ρ1 => .nx (ρ1.set i (.dat d))
theorem sd_set {i : Nat} {x : Str} {e : Expr} {pos' : Pos} (p : PE X e (tX X W T F)) (hN : X.N.Nodup) (hi : X.N[i]? = some x) (hx : Loc X.env.scope x) (hs : swapsWith e (some (.Name x pos')) pos.line X.env = pure false := by rfl)
    (hf : X.fn x = true ∨ X.env.scope.names.lookup x = some .local := by first | exact .inl rfl | exact .inr rfl | assumption) : SD X W T (.Assign [.Name x pos'] e pos) (mSet i F) :=
  imp_s (ps_set hN hi hx p hs hf) fun E σ H h => xgo h fun B O h H1 d ρ1 v S1 r1 q => q _ H1 O h (Gr.refl O h H1) (S1.set1 i r1)
def mAsg (t : Tgt) (F : DX) : SM := fun ρ => xbind (F ρ) fun d ρ1 => match t d with
  | some l => .nx (setR ρ1 l)
  | none => .stuck
theorem sd_asg {t : Tgt} {e : Expr} (p : PE X e (tX X W T F)) (pg : PGD X tg t) (hs : swapsWithSole [tg] e pos.line X.env = pure false := by rfl) (hw : swappedStores [tg] e X.env = pure none := by rfl)
    (h1 : (assignEach [tg] X.env).map (·.2) = [assign tg X.env] := by rfl) : SD X W T (.Assign [tg] e pos) (mAsg t F) :=
  imp_s (ps_asg p pg hs hw h1) fun E σ H h => xgo h fun B O h H1 d ρ1 v S1 r1 q => by
    cases e1 : t d with
    | none => rw [e1] at q; exact q.elim
    | some l =>
      rw [e1] at q
      exact ⟨h, d, l, r1, e1, fun us k1 k2 => q _ H1 O h (Gr.refl O h H1) (S1.setMany k1 k2)⟩
def mPar (i j : Nat) (FS : DXs) : SM := fun ρ => xbind (FS ρ) fun ds ρ1 => match ds with
  | [d, e] => .nx ((ρ1.set i (.dat d)).set j (.dat e))
  | _ => .stuck
theorem sd_par {i j : Nat} {x y : Str} {px py pt : Pos} {kt k2 pt2} (ha : PA X [a, b] (tXs X W T FS)) (hc : X.calm = true) (hN : X.N.Nodup) (hi : X.N[i]? = some x) (hj : X.N[j]? = some y) (hij : i ≠ j)
    (hx : X.env.scope.names.lookup x = some .local) (hy : X.env.scope.names.lookup y = some .local)
    (hw : swappedStores [.Tuple [.Name x px, .Name y py] kt pt] (.Tuple [a, b] k2 pt2) X.env = pure (some [x, y]))
    (hs : swapsWithSole [.Tuple [.Name x px, .Name y py] kt pt] (.Tuple [a, b] k2 pt2) pos.line X.env = pure false := by rfl) :
    SD X W T (.Assign [.Tuple [.Name x px, .Name y py] kt pt] (.Tuple [a, b] k2 pt2) pos) (mPar i j FS) :=
  imp_s (ps_par hc hN hi hj hij hx hy ha hw hs) fun E σ H ⟨B, O, h, ρ, S, q⟩ => by
    unfold mPar at q
    refine ⟨B, O, h, ρ, S, ?_⟩
    cases e : FS ρ with
    | stuck => simp only [e, xbind] at q; exact q
    | err x => simp only [e, xbind] at q; exact fun C H' m z => q C σ H' m z
    | ok ds ρ1 =>
      simp only [e, xbind] at q
      intro vs H1 x1 S1 r1
      split at q
      · cases r1 with
        | cons r2 r3 =>
          cases r3 with
          | cons r4 r5 =>
            cases r5
            exact ⟨_, _, rfl, q _ H1 O h (Gr.of x1) ((S1.set1 i r2).set1 j r4)⟩
      · exact q.elim
/-- a new list of the frame's own in slot i -/
theorem StS.newOwn {K : Frag} {B O h : List Addr} {H' : Hp} {σ : L2.St} {ρ : Rho} {p : Addr} {vs : List V} {l : List PyData} (S : StS K T B O (p :: h) H' σ ρ) (nO : p ∉ O) (nB : p ∉ B) (e : H' p = some (.lst vs)) (r : DrA K (hid (p :: h) H') vs l) {i : Nat} (i0 : i ≠ 0) :
    StS K T B (p :: O) (p :: h) H' (σ.set i (some (.ref p))) (ρ.set i (.own l)) := by
  have lenE : σ.length = ρ.length := S.e.len
  -- a slot that is own behind: the new one, or one of before
  have was : ∀ {j : Nat} {m : List PyData} {q : Addr}, (ρ.set i (Itm.own l))[j]? = some (.own m) → (σ.set i (some (V.ref p)))[j]? = some (some (.ref q)) → (j = i ∧ m = l ∧ q = p) ∨ (j ≠ i ∧ ρ[j]? = some (.own m) ∧ σ[j]? = some (some (.ref q))) := fun {j m q} g1 g2 => by
    by_cases e : i = j
    · subst e
      rw [List.getElem?_set, if_pos rfl] at g1 g2
      split at g1
      · cases g1
        split at g2
        · cases g2
          exact .inl ⟨rfl, rfl, rfl⟩
        · cases g2
      · cases g1
    · rw [List.getElem?_set_ne e] at g1 g2
      exact .inr ⟨fun z => e z.symm, g1, g2⟩
  refine ⟨⟨S.e.dom, by rw [List.length_set, List.length_set]; exact lenE, fun j d q => ?_, fun j m q => ?_, fun j k m m' q q1 q2 s1 s2 => ?_⟩, fun a m => (List.mem_cons.mp m).elim (fun z => by rw [z]; exact List.mem_cons_self) (S.sub a), S.base, fun j m q q1 s => ?_, fun j m q q1 s => ?_, S.tab⟩
  · by_cases ee : i = j
    · subst ee
      rw [List.getElem?_set, if_pos rfl] at q
      split at q <;> cases q
    · rw [List.getElem?_set_ne ee] at q ⊢
      exact S.e.slot j d q
  · by_cases ee : i = j
    · subst ee
      rw [List.getElem?_set, if_pos rfl] at q ⊢
      rw [lenE]
      split at q
      · rename_i hl
        cases q
        rw [if_pos hl]
        exact ⟨p, vs, rfl, List.mem_cons_self, e, r⟩
      · cases q
    · rw [List.getElem?_set_ne ee] at q ⊢
      exact S.e.own j m q
  · rcases was q1 s1 with ⟨e1, _, e2⟩ | ⟨n1, g1, g2⟩
    · rcases was q2 s2 with ⟨e3, _, _⟩ | ⟨n3, g3, g4⟩
      · rw [e1, e3]
      · exact absurd (by rw [← e2]; exact S.own k m' q g3 g4) nO
    · rcases was q2 s2 with ⟨e3, _, e4⟩ | ⟨n3, g3, g4⟩
      · exact absurd (by rw [← e4]; exact S.own j m q g1 g2) nO
      · exact S.e.apart j k m m' q g1 g3 g2 g4
  · rcases was q1 s with ⟨e1, _, e2⟩ | ⟨_, g1, g2⟩
    · rw [e1, e2]
      exact ⟨fun z => absurd z nB, fun z => absurd z i0⟩
    · exact S.lent j m q g1 g2
  · rcases was q1 s with ⟨_, _, e2⟩ | ⟨_, g1, g2⟩
    · rw [e2]; exact List.mem_cons_self
    · exact List.mem_cons_of_mem _ (S.own j m q g1 g2)
def mNew (i : Nat) (FS : DSs) : SM := fun ρ => match FS ρ with
  | some (l, ρ1) => .nx (ρ1.set i (.own l))
  | none => .stuck
theorem sd_new {i : Nat} {x : Str} {e : Expr} {pos' : Pos} {FS : DSs} (i0 : i ≠ 0) (p : EN X T e FS) (hN : X.N.Nodup) (hi : X.N[i]? = some x) (hx : Loc X.env.scope x) (hs : swapsWith e (some (.Name x pos')) pos.line X.env = pure false := by rfl)
    (hf : X.fn x = true ∨ X.env.scope.names.lookup x = some .local := by first | exact .inl rfl | exact .inr rfl | assumption) : SD X W T (.Assign [.Name x pos'] e pos) (mNew i FS) :=
  imp_s (ps_set hN hi hx p hs hf) fun E σ H ⟨B, O, h, ρ, S, q⟩ => by
    unfold mNew at q
    refine ⟨B, O, h, ρ, S, ?_⟩
    cases e : FS ρ with
    | none => simp only [e] at q; exact q
    | some w =>
      obtain ⟨l, ρ1⟩ := w
      simp only [e] at q
      intro p vs H' n x1 S1 hp r
      have nh : p ∉ h := S.e.dom.nw n
      exact q _ H' (p :: O) (p :: h) ⟨x1, fun a m => (List.mem_cons.mp m).elim (fun z => .inr (by rw [z]; exact n)) .inl, fun a m => (List.mem_cons.mp m).elim (fun z => .inr (by rw [z]; exact n)) .inl⟩ (S1.newOwn (fun m => nh (S.sub p m)) (fun m => nh (S.base p m)) hp r i0)
/-- two new lists -/
def mNew2 (i j : Nat) (F G : DSs) : SM := fun ρ => match F ρ with
  | some (l, ρ1) => (match G ρ1 with
    | some (m, ρ2) => .nx ((ρ2.set i (.own l)).set j (.own m))
    | none => .stuck)
  | none => .stuck
theorem sd_new2 {i j : Nat} {x y : Str} {px py pt : Pos} {kt k2 pt2} {F G : DSs} (i0 : i ≠ 0) (j0 : j ≠ 0) (pa : EN X T a F) (pb : EN X T b G) (hc : X.calm = true) (hN : X.N.Nodup) (hi : X.N[i]? = some x) (hj : X.N[j]? = some y) (hij : i ≠ j)
    (hx : X.env.scope.names.lookup x = some .local) (hy : X.env.scope.names.lookup y = some .local)
    (hw : swappedStores [.Tuple [.Name x px, .Name y py] kt pt] (.Tuple [a, b] k2 pt2) X.env = pure (some [x, y]))
    (hs : swapsWithSole [.Tuple [.Name x px, .Name y py] kt pt] (.Tuple [a, b] k2 pt2) pos.line X.env = pure false := by rfl)
    (h1 : starEach [a, b] X.env = (false, eval a X.env) :: starEach [b] X.env := by rfl) (h2 : starEach [b] X.env = (false, eval b X.env) :: starEach [] X.env := by rfl) :
    SD X W T (.Assign [.Tuple [.Name x px, .Name y py] kt pt] (.Tuple [a, b] k2 pt2) pos) (mNew2 i j F G) :=
  imp_s (ps_par hc hN hi hj hij hx hy (pa_cons pa (pa_cons pb pa_nil h2) h1) hw hs) fun E σ H ⟨B, O, h, ρ, S, q⟩ => by
    unfold mNew2 at q
    refine ⟨B, O, h, ρ, S, ?_⟩
    cases e : F ρ with
    | none => simp only [e] at q; exact q
    | some w =>
      obtain ⟨l, ρ1⟩ := w
      simp only [e] at q
      intro p vs H1 n x1 S1 hp r
      have nh : p ∉ h := S.e.dom.nw n
      have nO : p ∉ O := fun m => nh (S.sub p m)
      refine ⟨B, O, p :: h, ρ1, S1, ?_⟩
      cases e2 : G ρ1 with
      | none => simp only [e2] at q; exact q
      | some w2 =>
        obtain ⟨m, ρ2⟩ := w2
        simp only [e2] at q
        intro p2 vs2 H2 n2 x2 S2 hp2 r2
        have nh2 : p2 ∉ p :: h := S1.e.dom.nw n2
        have hpp : H2 p = some (.lst vs) := x2.1 p _ nO (fun _ _ z => nomatch z) hp
        have xx : Ex (hid (p :: h) H1) (hid (p2 :: p :: h) H2) := fun a o z => by
          obtain ⟨g1, g2, g3⟩ := hid_some z
          exact hid_mk (fun mm => (List.mem_cons.mp mm).elim (n2.hid z) g1) (x2.1 a o (fun mm => g1 (List.mem_cons_of_mem _ (S.sub a mm))) (fun _ => g3) g2) g3
        -- first the first list, the hidden ones in another order
        have sw : ∀ {Hx : Hp}, hid (p2 :: p :: h) Hx = hid (p :: p2 :: h) Hx := fun {Hx} => by
          funext a
          unfold hid
          have e3 : a ∈ p2 :: p :: h ↔ a ∈ p :: p2 :: h := by
            simp only [List.mem_cons]
            constructor <;> rintro (z | z | z) <;> simp [z]
          by_cases mm : a ∈ p2 :: p :: h
          · rw [if_pos mm, if_pos (e3.mp mm)]
          · rw [if_neg mm, if_neg fun z => mm (e3.mpr z)]
        have mv_in : ∀ {a}, a ∈ p2 :: p :: h → a ∈ p :: p2 :: h := fun {a} m => by
          simp only [List.mem_cons] at m ⊢
          rcases m with z | z | z <;> simp [z]
        have S2' : StS X.K T B O (p :: p2 :: h) H2 σ ρ2 := by
          refine ⟨⟨fun a m => S2.e.dom a ?_, S2.e.len, fun i d z => ?_, fun i l z => ?_, S2.e.apart⟩, fun a m => mv_in (S2.sub a m), fun a m => mv_in (S2.base a m), S2.lent, S2.own, S2.tab⟩
          · simp only [List.mem_cons] at m ⊢
            rcases m with z | z | z <;> simp [z]
          · rw [← sw]; exact S2.e.slot i d z
          · obtain ⟨p', vs', k1, k2, k3, k4⟩ := S2.e.own i l z
            exact ⟨p', vs', k1, mv_in k2, k3, by rw [← sw]; exact k4⟩
        have S3 := S2'.newOwn nO (fun m => nh (S.base p m)) hpp (by rw [← sw]; exact r.mono xx) i0
        have S4 : StS X.K T B (p :: O) (p2 :: p :: h) H2 (σ.set i (some (.ref p))) (ρ2.set i (.own l)) := by
          refine ⟨⟨fun a m => S3.e.dom a (mv_in m), S3.e.len, fun i d z => ?_, fun i l z => ?_, S3.e.apart⟩, fun a m => ?_, fun a m => ?_, S3.lent, S3.own, S3.tab⟩
          · rw [sw]; exact S3.e.slot i d z
          · obtain ⟨p', vs', k1, k2, k3, k4⟩ := S3.e.own i l z
            exact ⟨p', vs', k1, by
              simp only [List.mem_cons] at k2 ⊢
              rcases k2 with z | z | z <;> simp [z], k3, by rw [sw]; exact k4⟩
          · have := S3.sub a m
            simp only [List.mem_cons] at this ⊢
            rcases this with z | z | z <;> simp [z]
          · have := S3.base a m
            simp only [List.mem_cons] at this ⊢
            rcases this with z | z | z <;> simp [z]
        have nO2 : p2 ∉ p :: O := fun m => nh2 ((List.mem_cons.mp m).elim (fun z => by rw [z]; exact List.mem_cons_self) fun z => List.mem_cons_of_mem _ (S.sub p2 z))
        have S5 := S4.newOwn nO2 (fun m => nh2 (List.mem_cons_of_mem _ (S.base p2 m))) hp2 r2 j0
        have n2' : Nw T H p2 := Nw.back S x1 n2
        exact ⟨_, _, rfl, q _ H2 (p2 :: p :: O) (p2 :: p :: h) ⟨x1.trans x2, fun a m => by
          rcases List.mem_cons.mp m with z | z
          · rw [z]; exact .inr n2'
          · rcases List.mem_cons.mp z with z | z
            · rw [z]; exact .inr n
            · exact .inl z, fun a m => by
          rcases List.mem_cons.mp m with z | z
          · rw [z]; exact .inr n2'
          · rcases List.mem_cons.mp z with z | z
            · rw [z]; exact .inr n
            · exact .inl z⟩ S5⟩
/-! ### the rest -/
def mDrop (F : DX) : SM := fun ρ => xbind (F ρ) fun _ ρ1 => .nx ρ1
theorem sd_drop {e : Expr} (p : PE X e (tX X W T F)) (hs : swapsWith e none pos.line X.env = pure false := by rfl) : SD X W T (.Expr e pos) (mDrop F) :=
  imp_s (ps_expr p hs) fun E σ H h => xgo h fun B O h H1 d ρ1 v S1 r1 q => q σ H1 O h (Gr.refl O h H1) S1
def mRet (F : DX) : SM := fun ρ => xbind (F ρ) fun d ρ1 => .ret d ρ1
theorem sd_ret {e : Expr} (p : PE X e (tX X W T F)) : SD X W T (.Return (some e) pos) (mRet F) :=
  imp_s (ps_ret p) fun E σ H h => xgo h fun B O h H1 d ρ1 v S1 r1 q => q v σ H1 O h (Gr.refl O h H1) S1 r1
def mRetN (FS : DSs) : SM := fun ρ => match FS ρ with
  | some (l, ρ1) => .rn l ρ1
  | none => .stuck
theorem sd_retN {e : Expr} {FS : DSs} (p : EN X T e FS) : SD X W T (.Return (some e) pos) (mRetN FS) :=
  imp_s (ps_ret p) fun E σ H ⟨B, O, h, ρ, S, q⟩ => by
    unfold mRetN at q
    refine ⟨B, O, h, ρ, S, ?_⟩
    cases e : FS ρ with
    | none => simp only [e] at q; exact q
    | some w =>
      obtain ⟨l, ρ1⟩ := w
      simp only [e] at q
      exact fun p vs H' n x1 S1 hp r => q p vs σ H' O h n (Gr.of x1) S1 hp r
def mIf (F : DXT) (f g : SM) : SM := fun ρ => xbind (F ρ) fun b ρ1 => if b = true then f ρ1 else g ρ1
theorem sd_if (p : PT X c (tXT X W T FT)) (pa : SDs X W T A' f) (pb : SDs X W T B' g) : SD X W T (.If c A' B' pos) (mIf FT f g) :=
  imp_s (ps_if p pa pb) fun E σ H h => xgoT h fun B O h H1 d ρ1 S1 q => by
    cases d with
    | true => exact ⟨B, O, h, ρ1, S1, q⟩
    | false => exact ⟨B, O, h, ρ1, S1, q⟩
def mRaise (e : Str) : SM := fun _ => .err e
/-- raise x("..") -/
theorem sd_raise {x m : Str} {C : Addr} {j : Nat} {p p2 p3 : Pos} {bmB : List Value} {Bn newId initId : String} (hc : X.calm = true) (tk : Takes X W) (F : ExcBaseFacts Bn newId initId bmB) (q : PySem.W.excIn X.K C bmB newId = true) (gC : X.mg x = some (.ref C)) (kC : PySem.W.keepIn X.K (.ref C) = true) (r : Raises X (.ref C)) (hg : Gl X x := by rfl)
    (hdb : (x == ("__debug__" : Str)) = false := by decide) : SD X W T (.Raise (some (.Call (.Name x p) [.Constant (.str m) j p2] [] p3)) none pos) (mRaise x) :=
  imp_s (ps_raise hc tk (pmk_own F q gC kC r hg hdb)) fun E σ H ⟨B, O, h, ρ, S, z⟩ => z C σ H gC (.of (Ex.refl H))
/-! ### loops -/
def forL (t : Tgt) (body : SM) : Rho → List PyData → Out
  | ρ, [] => .nx ρ
  | ρ, d :: ds => match t d with
    | none => .stuck
    | some l => match body (setR ρ l) with
      | .nx ρ1 => forL t body ρ1 ds
      | .ct ρ1 => forL t body ρ1 ds
      | .brk ρ1 => .nx ρ1
      | r => r
def mFor (its : DXs) (t : Tgt) (body : SM) : SM := fun ρ => xbind (its ρ) fun ds ρ1 => forL t body ρ1 ds
theorem reads_for {its : DXs} {t : Tgt} : ∀ E σ H, tSS X W T (mFor its t f) E σ H → tFor (tXI X W T its) (gD X.K t) (tSS X W T f) E σ H := fun E σ H ⟨B, O, h, ρ, S, q⟩ => by
  unfold mFor at q
  refine ⟨B, O, h, ρ, S, ?_⟩
  cases e : its ρ with
  | stuck => simp only [e, xbind] at q; exact q
  | err x => simp only [e, xbind] at q; exact fun C H' m z => q C σ H' m z
  | ok ds ρ1 =>
    simp only [e, xbind] at q
    intro J H1 x1 S1 w
    have q1 := PoOut.mono q S (Gr.of x1)
    clear q
    refine ⟨fun i m σc Hc => m = ds.length - i ∧ i ≤ ds.length ∧ ∃ Oc hc ρc, Gr T O h H1 Oc hc Hc ∧ StS X.K T B Oc hc Hc σc ρc ∧ PoOut X.K X.mg W T B Oc hc Hc (forL t f ρc (ds.drop i)) E, ⟨_, rfl, Nat.zero_le _, O, h, ρ1, Gr.refl O h H1, S1, q1⟩, ?_⟩
    rintro i m σc Hc ⟨rfl, hi, Oc, hc, ρc, gr, Sc, qc⟩
    obtain ⟨items, stop⟩ := w hc Hc Sc.e.dom (gr.ex S1.sub)
    by_cases hend : i = ds.length
    · subst hend
      rw [List.drop_length] at qc
      exact .inl ⟨stop, qc σc Hc Oc hc (Gr.refl Oc hc Hc) Sc⟩
    · have hlt : i < ds.length := Nat.lt_of_le_of_ne hi hend
      obtain ⟨go, yld⟩ := items i ds[i] (List.getElem?_eq_getElem hlt)
      rw [drop_get (List.getElem?_eq_getElem hlt)] at qc
      refine .inr ⟨go, fun σ' H' => ∃ Oc hc ρc, Gr T O h H1 Oc hc H' ∧ StS X.K T B Oc hc H' σ' ρc ∧ PoOut X.K X.mg W T B Oc hc H' (forL t f ρc (ds.drop (i + 1))) E, fun σ' H' ⟨Oc, hc, ρc, z⟩ => ⟨_, (by omega), rfl, hlt, Oc, hc, ρc, z⟩, fun x H'' y => ?_⟩
      obtain ⟨x2, rx⟩ := yld x H'' y
      cases e2 : t ds[i] with
      | none => simp only [forL, e2] at qc; exact qc.elim
      | some l =>
        simp only [forL, e2] at qc
        refine ⟨hc, _, l, rx, e2, fun us k1 k2 => ?_⟩
        have S2 := (Sc.mono x2).setMany k1 k2
        have gr2 : Gr T Oc hc Hc Oc hc H'' := Gr.of (.of x2)
        have qc2 := PoOut.mono qc Sc gr2
        refine ⟨B, Oc, hc, _, S2, ?_⟩
        cases e3 : f (setR ρc l) with
        | stuck => simp only [e3] at qc2; exact qc2
        | err z => simp only [e3] at qc2; exact qc2
        | ret d z => simp only [e3] at qc2; exact qc2
        | rn d z => simp only [e3] at qc2; exact qc2
        | brk z => simp only [e3] at qc2; exact qc2
        | nx ρ3 =>
          simp only [e3] at qc2
          exact fun σ' H' O' h' g' S' => ⟨O', h', ρ3, gr.trans S1 (gr2.trans Sc g'), S', PoOut.mono qc2 S2 g'⟩
        | ct ρ3 =>
          simp only [e3] at qc2
          exact fun σ' H' O' h' g' S' => ⟨O', h', ρ3, gr.trans S1 (gr2.trans Sc g'), S', PoOut.mono qc2 S2 g'⟩
theorem sd_for {its : DXs} {t : Tgt} {iter : Expr} (hp : PassesOwn (model X.prog X.w) X.A X.env X.xe) (hc : X.calm = true) (hi : PI X tg iter (tXI X W T its)) (hg : PGD X tg t) (hb : SDs X W T A' f)
    (hs : ∀ x, foldedSetIterable iter X.env x = pure x := by intro _; rfl) : SD X W T (.For tg iter A' [] pos) (mFor its t f) := imp_s (ps_for hp hc hi hg hb hs) reads_for
def whileL (c : DXT) (body : SM) : Nat → SM
  | 0, _ => .stuck
  | n + 1, ρ => xbind (c ρ) fun b ρ1 => if b = true then (match body ρ1 with
      | .nx ρ2 => whileL c body n ρ2
      | .ct ρ2 => whileL c body n ρ2
      | .brk ρ2 => .nx ρ2
      | r => r) else .nx ρ1
def mWhile (fuel : Rho → Nat) (c : DXT) (body : SM) : SM := fun ρ => whileL c body (fuel ρ) ρ
theorem reads_while {fuel : Rho → Nat} : ∀ E σ H, tSS X W T (mWhile fuel FT f) E σ H → tWhile (tXT X W T FT) (tSS X W T f) E σ H := fun E σ H ⟨B, O, h, ρ, S, q⟩ => by
  unfold mWhile at q
  refine ⟨fun m σc Hc => ∃ Oc hc ρc, Gr T O h H Oc hc Hc ∧ StS X.K T B Oc hc Hc σc ρc ∧ PoOut X.K X.mg W T B Oc hc Hc (whileL FT f m ρc) E, ⟨fuel ρ, O, h, ρ, Gr.refl O h H, S, q⟩, ?_⟩
  rintro m σc Hc ⟨Oc, hc, ρc, gr, Sc, qc⟩
  cases m with
  | zero => exact qc.elim
  | succ n =>
    unfold whileL at qc
    refine ⟨B, Oc, hc, ρc, Sc, ?_⟩
    cases e : FT ρc with
    | stuck => simp only [e, xbind] at qc; exact qc
    | err x => simp only [e, xbind] at qc; exact fun C H' m z => qc C σc H' m z
    | ok b ρ1 =>
      simp only [e, xbind] at qc
      intro H1 x1 S1
      have gr1 : Gr T Oc hc Hc Oc hc H1 := Gr.of x1
      have q1 := PoOut.mono qc Sc gr1
      cases b with
      | false => exact q1 σc H1 Oc hc (Gr.refl Oc hc H1) S1
      | true =>
        simp only [if_true] at q1 ⊢
        refine ⟨fun σ' H' => ∃ Oc hc ρc, Gr T O h H Oc hc H' ∧ StS X.K T B Oc hc H' σ' ρc ∧ PoOut X.K X.mg W T B Oc hc H' (whileL FT f n ρc) E, fun σ' H' z => ⟨n, Nat.lt_succ_self n, z⟩, B, Oc, hc, ρ1, S1, ?_⟩
        cases e3 : f ρ1 with
        | stuck => simp only [e3] at q1; exact q1
        | err z => simp only [e3] at q1; exact q1
        | ret d z => simp only [e3] at q1; exact q1
        | rn d z => simp only [e3] at q1; exact q1
        | brk z => simp only [e3] at q1; exact q1
        | nx ρ3 =>
          simp only [e3] at q1
          exact fun σ' H' O' h' g' S' => ⟨O', h', ρ3, gr.trans S (gr1.trans Sc g'), S', PoOut.mono q1 S1 g'⟩
        | ct ρ3 =>
          simp only [e3] at q1
          exact fun σ' H' O' h' g' S' => ⟨O', h', ρ3, gr.trans S (gr1.trans Sc g'), S', PoOut.mono q1 S1 g'⟩
theorem sd_while {fuel : Rho → Nat} (hp : PassesOwn (model X.prog X.w) X.A X.env X.xe) (hc : PT X c (tXT X W T FT)) (hb : SDs X W T A' f) : SD X W T (.While c A' [] pos) (mWhile fuel FT f) := imp_s (ps_while hp hc hb) reads_while
end
end D
end

section
set_option Elab.async false
set_option linter.all false
set_option maxRecDepth 100000
set_option maxHeartbeats 4000000
/-! Items of own lists set; defs by their bodies. -/
namespace D
open PySem L2 LamX
section
variable {X : Cx} {W : WX} {T : List (Addr × Str)} {a b c tg : Expr} {es : List Expr} {pos : Pos} {F : DX}
def mSetIx (i : Nat) (k : Int) (F : DX) : SM := fun ρ => xbind (F ρ) fun d ρ1 => match ρ1[i]? with
  | some (.own l) => (match ixN l.length k with
    | some j => .nx (ρ1.set i (.own (l.set j d)))
    | none => .stuck)
  | _ => .stuck
theorem sd_setIx {i : Nat} {y : Str} {k : Int} {e : Expr} {kj} {p1 p2 p3 : Pos} (p : PE X e (tX X W T F)) (hN : X.N[i]? = some y := by rfl) (hv : Vis X.env.scope y := by first | exact Or.inl rfl | exact Or.inr (Or.inl rfl) | exact Or.inr (Or.inr rfl)) (hd : (y == ("__debug__" : Str)) = false := by decide) (hcd : (y == ("__classdict__" : Str)) = false := by decide)
    (ha : ∀ v, assign (.Subscript (.Name y p1) (.Constant (.int k) kj p2) p3) X.env v = (do
      let ov ← holding [v] (eval (.Name y p1) X.env)
      let iv ← holding [v, ov] (eval (.Constant (.int k) kj p2) X.env)
      standAt p3
      holding [v, ov, iv] (setItem ov iv v)
      release [v, ov, iv] []) := by intro _; rfl)
    (hs : swapsWithSole [.Subscript (.Name y p1) (.Constant (.int k) kj p2) p3] e pos.line X.env = pure false := by rfl) (hw : swappedStores [.Subscript (.Name y p1) (.Constant (.int k) kj p2) p3] e X.env = pure none := by rfl)
    (h1 : (assignEach [.Subscript (.Name y p1) (.Constant (.int k) kj p2) p3] X.env).map (·.2) = [assign (.Subscript (.Name y p1) (.Constant (.int k) kj p2) p3) X.env] := by rfl) :
    SD X W T (.Assign [.Subscript (.Name y p1) (.Constant (.int k) kj p2) p3] e pos) (mSetIx i k F) :=
  imp_s (ps_asg p (pg_sub (pe_var hN hv hd hcd) pe_int set_list ha) hs hw h1) fun E σ H h => xgo h fun B O h H1 d ρ1 v S1 r1 q => by
    split at q
    · rename_i l hl
      split at q
      · rename_i j hj
        obtain ⟨p, vs, h1, h2, h3, h4⟩ := S1.e.own i l hl
        refine ⟨_, h1, p, vs, k, j, rfl, rfl, h3, by rw [h4.length]; exact hj, ?_⟩
        have xu := ex_upd (o := .lst (vs.set j v)) (H := H1) h2
        exact q _ _ O h (Gr.of ((Mv.upd h3).sub fun a m => by rw [List.mem_singleton.mp m]; exact S1.own i l p hl h1)) (S1.put hl h1 (Mv.upd h3) (Tabs.upd h3 S1.tab) upd_same ((h4.set r1 j).mono xu))
      · exact q.elim
    · exact q.elim
end
/-! ### defs -/
def startR (N : List Str) (ds : List PyData) : Rho := ds.map Itm.dat ++ List.replicate (N.length - ds.length) .un
theorem startR_own {N : List Str} {ds : List PyData} {i : Nat} {l : List PyData} : (startR N ds)[i]? ≠ some (.own l) := fun h => by
  unfold startR at h
  by_cases e : i < ds.length
  · rw [List.getElem?_append_left (by rw [List.length_map]; exact e), List.getElem?_map, List.getElem?_eq_getElem e] at h
    cases h
  · rw [List.getElem?_append_right (by rw [List.length_map]; omega), List.getElem?_replicate] at h
    split at h <;> cases h
theorem start_enr {K : Frag} {h : List Addr} {H : Hp} {N : List Str} {vs : List V} {ds : List PyData} (dm : Dom h H) (r : DrA K (hid h H) vs ds) : Enr K h H (L2.start N vs) (startR N ds) where
  dom := dm
  len := by
    unfold L2.start startR
    rw [List.length_append, List.length_append, List.length_map, List.length_map, List.length_replicate, List.length_replicate, r.length]
  slot := fun i d q => by
    unfold startR at q
    unfold L2.start
    by_cases e : i < ds.length
    · rw [List.getElem?_append_left (by rw [List.length_map]; exact e), List.getElem?_map] at q
      rw [List.getElem?_append_left (by rw [List.length_map, r.length]; exact e), List.getElem?_map]
      obtain ⟨d', h1, h2⟩ := Option.map_eq_some_iff.mp q
      cases h2
      obtain ⟨v, h3, h4⟩ := r.get h1
      exact ⟨v, by rw [h3]; rfl, h4⟩
    · rw [List.getElem?_append_right (by rw [List.length_map]; omega), List.getElem?_replicate] at q
      split at q <;> cases q
  own := fun i l q => absurd q startR_own
  apart := fun i j l l' p q => absurd q startR_own
theorem start_sts {K : Frag} {B h : List Addr} {H : Hp} {N : List Str} {vs : List V} {ds : List PyData} (dm : Dom h H) (r : DrA K (hid h H) vs ds) : StS K [] h [] h H (L2.start N vs) (startR N ds) :=
  ⟨start_enr dm r, fun a m => (List.not_mem_nil m).elim, fun a m => m, fun i l p q => absurd q startR_own, fun i l p q => absurd q startR_own, fun q hq => (List.not_mem_nil hq).elim⟩
theorem Mv.ex0 {H H' : Hp} (x : Mv [] [] H H') : Ex H H' := fun a o q => x.1 a o (fun m => List.not_mem_nil m) (fun z => absurd rfl z) q
def outR : Out → Res PyData
  | .ret d _ => .ok d
  | .nx _ => .ok .none
  | .err e => .err e
  | _ => .stuck
def mir (N : List Str) (n : Nat) (body : SM) (ds : List PyData) : Res PyData := if ds.length = n then outR (body (startR N ds)) else .stuck
theorem mir_len {N : List Str} {n : Nat} {body : SM} : ∀ ds, mir N n body ds ≠ .stuck → ds.length = n := fun ds h => by
  unfold mir at h
  split at h
  · assumption
  · exact absurd rfl h
section
variable {P : Program} {w : World} {K : PySem.W.Frag} {mg : Str → Option Value} {base : Heap}
abbrev Xb (P : Program) (w : World) (K : PySem.W.Frag) (mg : Str → Option Value) (base : Heap) (N : List Str) (qual : Str) (st : Stmt) (f : Addr) (cdv : Value) (A : Around) (outer : List PySem.Env) (s : Shared) (H : Hp) (E : XK) : Cx :=
  cxOf (L2.CX P w) P w K mg base N qual (defScope st) f cdv A outer s H E
abbrev We (E : XK) : WX := fun c d _ H => E c d H
theorem fn_q {x qual : Str} {st : Stmt} {f : Addr} {fd : FuncData} {N ps : List Str} {k : Nat} {body : SM} (F : Fun K x qual st f fd) (S : FnScope N ps (defScope st))
    (hb : ∀ (cdv : Value) (A : Around) (outer : List PySem.Env) (s : Shared) (H : Hp) (E : XK), Room k (Xb P w K mg base N qual st f cdv A outer s H E).A → Takes (Xb P w K mg base N qual st f cdv A outer s H E) (We E) →
      SDs (Xb P w K mg base N qual st f cdv A outer s H E) (We E) [] (defBody st) body) : FnOk P w K mg base (L2.CX P w) (k + 1) f fd ps (spF K mg ps.length (mir N ps.length body)) := by
  refine F.okX S (fun vs H Q E h => h.1) fun cdv A outer s H vs Q E hr h => ?_
  obtain ⟨hl, h, ds, dm, ra, po⟩ := h
  refine ⟨_, hb cdv A outer s H E hr (takes_of rfl rfl rfl rfl), h, [], h, startR N ds, start_sts (B := h) dm ra, ?_⟩
  unfold mir at po
  rw [if_pos (ra.length.symm.trans hl)] at po
  cases e : body (startR N ds) with
  | stuck => rw [e] at po; exact po
  | err x => rw [e] at po; exact fun C σ' H' m z => po C H' m z.ex0
  | nx ρ => rw [e] at po; exact fun σ' H' O' h' g S' => po .non H' g.mv.ex0 .non
  | ret d ρ => rw [e] at po; exact fun v σ' H' O' h' g S' r => po v H' g.mv.ex0 (r.mono (hid_sub S'.base))
  | rn d ρ => rw [e] at po; exact po.elim
  | brk ρ => rw [e] at po; exact po.elim
  | ct ρ => rw [e] at po; exact po.elim
/-- a def that returns a new list -/
def mirN (N : List Str) (n : Nat) (body : SM) (ds : List PyData) : Option (List PyData) := if ds.length = n then (match body (startR N ds) with
  | .rn l _ => some l
  | _ => none) else none
theorem mirN_len {N : List Str} {n : Nat} {body : SM} : ∀ ds, mirN N n body ds ≠ none → ds.length = n := fun ds h => by
  unfold mirN at h
  split at h
  · assumption
  · exact absurd rfl h
theorem fn_n {x qual : Str} {st : Stmt} {f : Addr} {fd : FuncData} {N ps : List Str} {k : Nat} {body : SM} (F : Fun K x qual st f fd) (S : FnScope N ps (defScope st))
    (hb : ∀ (cdv : Value) (A : Around) (outer : List PySem.Env) (s : Shared) (H : Hp) (E : XK), Room k (Xb P w K mg base N qual st f cdv A outer s H E).A → Takes (Xb P w K mg base N qual st f cdv A outer s H E) (We E) →
      SDs (Xb P w K mg base N qual st f cdv A outer s H E) (We E) [] (defBody st) body) : FnOk P w K mg base (L2.CX P w) (k + 1) f fd ps (spN K ps.length (mirN N ps.length body)) := by
  refine F.okX S (fun vs H Q E h => h.1) fun cdv A outer s H vs Q E hr h => ?_
  obtain ⟨hl, h, ds, dm, ra, po⟩ := h
  refine ⟨_, hb cdv A outer s H E hr (takes_of rfl rfl rfl rfl), h, [], h, startR N ds, start_sts (B := h) dm ra, ?_⟩
  unfold mirN at po
  rw [if_pos (ra.length.symm.trans hl)] at po
  cases e : body (startR N ds) with
  | rn l ρ =>
    rw [e] at po
    exact fun p vs' σ' H' O' h' n g S' hp r => po p vs' H' n.none g.mv.ex0 hp (r.mono (hid_sub fun a m => (List.mem_cons.mp m).elim (fun z => by rw [z]; exact List.mem_cons_self) fun z => by
      have := S'.base a z
      exact this))
  | _ => rw [e] at po; exact po.elim
/-- a def that is lent a list, its first argument -/
def startL (N : List Str) (l ds : List PyData) : Rho := .own l :: (ds.map Itm.dat ++ List.replicate (N.length - (ds.length + 1)) .un)
def own0 (d : PyData) (ρ : Rho) : Option (PyData × List PyData) := match ρ[0]? with
  | some (Itm.own l) => some (d, l)
  | _ => none
def mirL (N : List Str) (n : Nat) (body : SM) (l ds : List PyData) : Option (PyData × List PyData) := if ds.length + 1 = n then (match body (startL N l ds) with
  | .ret d ρ => own0 d ρ
  | .nx ρ => own0 .none ρ
  | _ => none) else none
theorem mirL_len {N : List Str} {n : Nat} {body : SM} : ∀ l ds, mirL N n body l ds ≠ none → ds.length + 1 = n := fun l ds h => by
  unfold mirL at h
  split at h
  · assumption
  · exact absurd rfl h
theorem startL_get {N : List Str} {l ds : List PyData} {i : Nat} : (startL N l ds)[i + 1]? ≠ some (.own m) := fun h => by
  unfold startL at h
  rw [List.getElem?_cons_succ] at h
  by_cases e : i < ds.length
  · rw [List.getElem?_append_left (by rw [List.length_map]; exact e), List.getElem?_map, List.getElem?_eq_getElem e] at h
    cases h
  · rw [List.getElem?_append_right (by rw [List.length_map]; omega), List.getElem?_replicate] at h
    split at h <;> cases h
theorem startL_own {N : List Str} {l ds m : List PyData} {i : Nat} (h : (startL N l ds)[i]? = some (.own m)) : i = 0 ∧ m = l := by
  cases i with
  | zero => cases h; exact ⟨rfl, rfl⟩
  | succ i => exact absurd h startL_get
theorem startL_sts {T : List (Addr × Str)} {h : List Addr} {H : Hp} {N : List Str} {vs lv : List V} {l ds : List PyData} {p : Addr} (dm : Dom h H) (hp : p ∈ h) (e : H p = some (.lst lv)) (rl : DrA K (hid h H) lv l) (r : DrA K (hid h H) vs ds) (tb : Tabs T H) :
    StS K T h [p] h H (L2.start N (.ref p :: vs)) (startL N l ds) := by
  have s0 : (L2.start N (V.ref p :: vs))[0]? = some (some (.ref p)) := rfl
  refine ⟨⟨dm, ?_, fun i d q => ?_, fun i m q => ?_, fun i j m m' q q1 q2 _ _ => by rw [(startL_own q1).1, (startL_own q2).1]⟩, fun a m => by rw [List.mem_singleton.mp m]; exact hp, fun a m => m, fun i m q q1 s => ?_, fun i m q q1 s => ?_, tb⟩
  · unfold L2.start startL
    simp only [List.length_append, List.length_cons, List.length_map, List.length_replicate, r.length]
    omega
  · cases i with
    | zero => cases q
    | succ i =>
      unfold startL at q
      rw [List.getElem?_cons_succ] at q
      unfold L2.start
      rw [List.map_cons, List.cons_append, List.getElem?_cons_succ]
      by_cases e : i < ds.length
      · rw [List.getElem?_append_left (by rw [List.length_map]; exact e), List.getElem?_map] at q
        rw [List.getElem?_append_left (by rw [List.length_map, r.length]; exact e), List.getElem?_map]
        obtain ⟨d', h1, h2⟩ := Option.map_eq_some_iff.mp q
        cases h2
        obtain ⟨v, h3, h4⟩ := r.get h1
        exact ⟨v, by rw [h3]; rfl, h4⟩
      · rw [List.getElem?_append_right (by rw [List.length_map]; omega), List.getElem?_replicate] at q
        split at q <;> cases q
  · obtain ⟨e1, e2⟩ := startL_own q
    subst e1 e2
    exact ⟨p, lv, s0, hp, e, rl⟩
  · obtain ⟨e1, e2⟩ := startL_own q1
    subst e1
    rw [s0] at s
    cases s
    exact ⟨fun _ => rfl, fun _ => hp⟩
  · obtain ⟨e1, e2⟩ := startL_own q1
    subst e1
    rw [s0] at s
    cases s
    exact List.mem_singleton.mpr rfl
theorem fn_l {T : List (Addr × Str)} {x qual : Str} {st : Stmt} {f : Addr} {fd : FuncData} {N ps : List Str} {k : Nat} {body : SM} (F : Fun K x qual st f fd) (S : FnScope N ps (defScope st))
    (hb : ∀ (cdv : Value) (A : Around) (outer : List PySem.Env) (s : Shared) (H : Hp) (E : XK), Room k (Xb P w K mg base N qual st f cdv A outer s H E).A → Takes (Xb P w K mg base N qual st f cdv A outer s H E) (We E) →
      SDs (Xb P w K mg base N qual st f cdv A outer s H E) (We E) T (defBody st) body) : FnOk P w K mg base (L2.CX P w) (k + 1) f fd ps (spL K T ps.length (mirL N ps.length body)) := by
  refine F.okX S (fun vs H Q E h => h.1) fun cdv A outer s H vs Q E hr h => ?_
  obtain ⟨hl, h, p, lv, l, vs', ds, rfl, dm, hp, he, rl, ra, tb, po⟩ := h
  have S0 := startL_sts (N := N) dm hp he rl ra tb
  refine ⟨_, hb cdv A outer s H E hr (takes_of rfl rfl rfl rfl), h, [p], h, startL N l ds, S0, ?_⟩
  unfold mirL at po
  rw [if_pos (by rw [← ra.length]; exact hl)] at po
  have fin : ∀ {d : PyData} {ρ : Rho} {σ' : L2.St} {H' : Hp} {O' h' : List Addr} {v : V}, (match own0 d ρ with
      | none => False
      | some (d, l') => ∀ v H' lv', Mv T [p] H H' → Tabs T H' → H' p = some (.lst lv') → DrA K (hid h H') lv' l' → Dr K (hid h H') v d → Q v H') → Gr T [p] h H O' h' H' → StS K T h O' h' H' σ' ρ → Dr K (hid h' H') v d → Q v H' := fun {d ρ σ' H' O' h' v} po g S' r => by
    unfold own0 at po
    split at po
    · exact po.elim
    · rename_i d2 l' e0
      split at e0
      · rename_i l2 e1
        cases e0
        obtain ⟨p', vs2, k1, k2, k3, k4⟩ := S'.e.own 0 l' e1
        have pB := (S'.lent 0 l' p' e1 k1).mpr rfl
        have pO := S'.own 0 l' p' e1 k1
        have ep : p' = p := (g.fo p' pO).elim List.mem_singleton.mp fun n => absurd pB (dm.nw n)
        subst ep
        exact po v H' vs2 g.mv S'.tab k3 (k4.mono (hid_sub S'.base)) (r.mono (hid_sub S'.base))
      · cases e0
  cases e : body (startL N l ds) with
  | ret d ρ => rw [e] at po; exact fun v σ' H' O' h' g S' r => fin po g S' r
  | nx ρ => rw [e] at po; exact fun σ' H' O' h' g S' => fin po g S' .non
  | _ => rw [e] at po; exact po.elim
end
end D
end

section
set_option Elab.async false
set_option linter.all false
set_option maxRecDepth 100000
set_option maxHeartbeats 4000000
/-! Products, sorted, {}, repr. -/
namespace D
open PySem L2 LamX
/-! ### products -/
def rMulS : R2 := fun x y H Q => ∃ (a : Str) (n : Int), x = .str a ∧ y = .int n ∧ MulOk a n ∧ Q (.str (Txt.mul a n)) H
theorem op_mulS {X : Cx} : OpR X (binaryOp .Mult) rMulS := by
  intro pins s σ H x y v u Q I rx ry h
  obtain ⟨a, n, rfl, rfl, hok, q⟩ := h
  obtain ⟨t, rfl⟩ := rx
  obtain ⟨t', rfl⟩ := ry
  exact SB.mul hok fun t2 k => ⟨.str _, H, I.tok k, ⟨t2, rfl⟩, q⟩
def rMulAll (K : Frag) : R2 := fun x y H Q => rI CMulW (fun i j => .int (i * j)) x y H Q ∨ rMulS x y H Q ∨ rRepT K x y H Q
theorem op_mulAll {X : Cx} : OpR X (binaryOp .Mult) (rMulAll X.K) := op_mulW.or (op_mulS.or op_repT)
def mulOkB (x : Str) (n : Int) : Bool := decide (0 ≤ n) && decide (n ≤ 1000000) && decide (x.length * n.toNat ≤ 1000000)
theorem mulOk_of {x : Str} {n : Int} (h : mulOkB x n = true) : MulOk x n := by
  unfold mulOkB at h
  simp only [Bool.and_eq_true, decide_eq_true_eq] at h
  obtain ⟨⟨h1, h2⟩, h3⟩ := h
  refine ⟨?_, fun a b => ?_, fun a b => ?_⟩
  · rw [decide_eq_false (by omega), decide_eq_false (by omega)]
    all_goals rfl
  · have h4 : ((x.length * n.toNat : Nat) : Int) ≤ 1000000 := Int.ofNat_le.mpr h3
    rw [Int.natCast_mul, Int.toNat_of_nonneg h1] at h4
    exact Int.not_lt.mpr (Int.le_ediv_of_mul_le (by omega) (Int.le_trans h4 (by decide)))
  · exact decide_eq_false (Nat.not_lt.mpr (Nat.le_trans h3 (by decide)))
def oMul : PyData → PyData → Option PyData
  | .int i, .int j => if i.natAbs.log2 + j.natAbs.log2 < 1000000 then some (.int (i * j)) else none
  | .str x, .int n => if mulOkB x n = true then some (.str (Txt.mul x n)) else none
  | .tuple l, .int k => if l ≠ [] ∧ 2 ≤ k ∧ k ≤ 1000 ∧ l.length ≤ 1000 then some (.tuple (List.replicate k.toNat l).flatten) else none
  | _, _ => none
theorem s_mul {K : Frag} : OpS K (rMulAll K) oMul := fun h H x y d e z Q dm rx ry hz k => by
  unfold oMul at hz
  split at hz
  · split at hz
    · rename_i hc
      cases hz
      rw [rx.int, ry.int]
      exact .inl ⟨_, _, rfl, rfl, hc, k _ H (Ex.refl H) (.int _)⟩
    · cases hz
  · split at hz
    · rename_i hc
      cases hz
      rw [rx.str, ry.int]
      exact .inr (.inl ⟨_, _, rfl, rfl, mulOk_of hc, k _ H (Ex.refl H) (.str _)⟩)
    · cases hz
  · split at hz
    · rename_i l kk hc
      cases hz
      obtain ⟨h1, h2, h3, h4⟩ := hc
      obtain ⟨p, vs, rfl, s1, r1⟩ := rx.tuple
      rw [ry.int]
      have hl := r1.length
      refine .inr (.inr ⟨p, kk, vs, rfl, rfl, s1, fun e => h1 ?_, h2, h3, by rw [hl]; exact h4, fun q nq => k _ _ (Ex.new nq) (new_tup dm nq (r1.rep _))⟩)
      rw [e] at hl
      exact List.eq_nil_of_length_eq_zero hl.symm
    · cases hz
  · cases hz
section
variable {X : Cx} {W : WX} {a b elt iter tg : Expr} {es : List Expr} {f g : DQ} {fs : DQs} {pos : Pos}
/-- [..] * n -/
def dRep (fs : DQs) (g : DQ) : DQ := fun ρ => (fs ρ).bind fun ds => match g ρ with
  | .ok (.int k) => if ds.length ≤ 1000 ∧ 0 ≤ k ∧ k ≤ 1000 then .ok (.list (List.replicate k.toNat ds).flatten) else .stuck
  | _ => .stuck
theorem q_rep {p : Pos} (ps : PQs X W es fs) (pb : PQ X W b g) : PQ X W (.BinOp (.List es p) .Mult b pos) (dRep fs g) := imp_e (pe_op op_rep (pe_lst ps) pb) fun σ H Q ⟨h, ρ, E, q⟩ => by
  unfold dRep at q
  refine ⟨h, ρ, E, ?_⟩
  cases e1 : fs ρ with
  | stuck => rw [e1] at q; exact q
  | err x => rw [e1] at q; exact q
  | ok ds =>
    rw [e1] at q
    simp only [Res.bind] at q
    intro vs H1 x1 r
    split at q
    · rename_i k e2
      split at q
      · rename_i hc
        obtain ⟨h1, h2, h3⟩ := hc
        refine ⟨by rw [r.length]; exact le1000 h1, fun p np => ⟨h, ρ, E.mono (x1.trans (Ex.new np)), ?_⟩⟩
        rw [e2]
        intro v H2 x2 rv
        cases rv
        have hp : H2 p = some (.lst vs) := x2 _ _ upd_same
        refine ⟨p, k, vs, rfl, rfl, hp, by omega, by omega, ?_, fun q1 nq1 => ?_⟩
        · rw [r.length]
          have : ds.length * k.toNat ≤ 1000 * 1000 := Nat.mul_le_mul h1 (by omega)
          have z : 1000 * 1000 ≤ sizeLine := by decide
          omega
        · have xx := ((x1.trans (Ex.new np)).trans x2)
          exact q _ _ (xx.trans (Ex.new nq1)) (new_lst (E.dom.mono xx) nq1 ((r.mono ((Ex.new np).trans x2).hid).rep _))
      · exact q.elim
    · exact q.elim
/-- {} -/
theorem q_dic0 : PQ X W (.Dict [] [] pos) (dC (.dict [])) := imp_e pe_dnewK fun σ H Q ⟨h, ρ, E, q⟩ => fun p np => q _ _ (Ex.new np) (.dic0 (new_hid E.dom np fun _ z => nomatch z))
end
end D
end

section
set_option Elab.async false
set_option linter.all false
set_option maxRecDepth 100000
set_option maxHeartbeats 4000000
/-! sorted, repr; defs that know that no container is being shown. -/
namespace D
open PySem L2 LamX
/-! ### sorted -/
def sortOkB (l : List PyData) : Bool := PyData.canLayAll0 l && (l.all fun d => l.all fun e => PySem.W.alike d e) && ((l.all fun d => match d with
  | .tuple (_ :: _) => true
  | _ => false) || l.all fun d => match d with
  | .none => false
  | .tuple _ => false
  | _ => true) && (l.all fun d => decide (d.depth ≤ 50)) && decide (l.length ≤ 100000)
theorem sortOk_of {l : List PyData} (h : sortOkB l = true) : PyData.canLayAll0 l = true ∧ PySem.W.AllAlike l ∧ PySem.W.Sortable l ∧ (∀ d ∈ l, d.depth ≤ 50) ∧ l.length ≤ 100000 := by
  unfold sortOkB at h
  simp only [Bool.and_eq_true, Bool.or_eq_true, List.all_eq_true, decide_eq_true_eq] at h
  obtain ⟨⟨⟨⟨h1, h2⟩, h3⟩, h4⟩, h5⟩ := h
  refine ⟨h1, fun d hd e he => h2 d hd e he, ?_, h4, h5⟩
  rcases h3 with h3 | h3
  · refine .inl fun d hd => ?_
    have z := h3 d hd
    split at z
    · exact ⟨_, _, rfl⟩
    · cases z
  · refine .inr fun d hd => ?_
    have z := h3 d hd
    split at z
    · cases z
    · cases z
    · rename_i n1 n2
      exact ⟨n1, fun xs e => n2 xs e⟩
def bSorted : List PyData → Option PyData := fun ds => match ds with
  | [.list l] => if sortOkB l = true then some (.list (l.mergeSort (PySem.W.dataLe false id))) else none
  | _ => none
def rSortD (K : Frag) : List V → Hp → VK → Prop := fun xs H Q => ∃ (R : V → PyData → Prop) (a : Addr) (vs : List V) (l : List PyData), xs = [.ref a] ∧ SqL K H a vs ∧ DpAll K H vs l ∧ PySem.W.EachIs R vs l ∧ sortOkB l = true ∧
  ∀ ys p, PySem.W.EachIs R ys (l.mergeSort (PySem.W.dataLe false id)) → H p = none → Q (.ref p) (upd H p (.lst ys))
theorem each_vals {R : V → PyData → Prop} : ∀ {vs : List V} {us : List Value} {l : List PyData}, Vals vs us → PySem.W.EachIs R vs l → PySem.W.EachIs (fun u d => ∃ x, RelV x u ∧ R x d) us l
  | _, _, _, .nil, .nil => .nil
  | _, _, _, .cons r rs, .cons e es => .cons ⟨_, r, e⟩ (each_vals rs es)
theorem vals_each {R : V → PyData → Prop} : ∀ {us : List Value} {l : List PyData}, PySem.W.EachIs (fun u d => ∃ x, RelV x u ∧ R x d) us l → ∃ vs, Vals vs us ∧ PySem.W.EachIs R vs l
  | _, _, .nil => ⟨[], .nil, .nil⟩
  | _, _, .cons ⟨x, r, e⟩ t => by
    obtain ⟨vs, h1, h2⟩ := vals_each t
    exact ⟨x :: vs, .cons r h1, .cons e h2⟩
theorem map_id' (l : List PyData) : l.map id = l := List.map_id l
theorem call_sortD {X : Cx} (hu : X.A.units + 64 < cLine) : CallR X (.builtin "sorted") (rSortD X.K) := by
  intro pins s σ H xs us Q I r h
  obtain ⟨R, a, vs, l, rfl, hs, hd, he, ok, q⟩ := h
  obtain ⟨h1, h2, h3, h4, h5⟩ := sortOk_of ok
  obtain ⟨its, rv, hl, _⟩ := I.list hs
  rw [Vals.ref1 r]
  obtain ⟨as, hr⟩ := Dp.readsAll I l vs its hd rv
  have hb : l.length ≤ sizeLine := Nat.le_trans h5 (by decide)
  refine PySem.W.sorted_data (enc := id) hl.isList (each_vals rv he) (PySem.W.readsAll_each id (by rw [map_id']; exact hr)) (by rw [map_id']; exact h2) (by rw [map_id']; exact h3) hb (fun b hb' => by
    have := h4 b hb'
    show X.A.units + 2 + b.depth < cLine
    omega) fun out ho eo => ?_
  obtain ⟨ys, g1, g2⟩ := vals_each eo
  obtain ⟨ep, he'⟩ := PyProof.Rows.sortedAll_at s.heap its out.toArray
  exact ⟨.ref _, upd H (s.heap.objs.size + 1) (.lst ys), I.laid (t' := s.toks) (fun _ _ => PyProof.Rows.sortedAll_old) (Nat.le_succ _) ⟨by rw [g1.length, ho]; exact hb, out, ep, g1, he'⟩, rfl, q ys _ g2 (I.hok.fresh (Nat.le_succ _))⟩
theorem each_of {K : Frag} {H : Hp} : ∀ {vs : List V} {l : List PyData}, DrA K H vs l → PySem.W.EachIs (Dr K H) vs l
  | _, _, .nil => .nil
  | _, _, .cons r t => .cons r (each_of t)
theorem of_each {K : Frag} {H : Hp} : ∀ {vs : List V} {l : List PyData}, PySem.W.EachIs (Dr K H) vs l → DrA K H vs l
  | _, _, .nil => .nil
  | _, _, .cons r t => .cons r (of_each t)
theorem s_sorted {K : Frag} : BS K (rSortD K) bSorted := fun h H xs ds z Q dm r hz k => by
  unfold bSorted at hz
  split at hz
  · split at hz
    · rename_i ok
      cases hz
      obtain ⟨v, rfl, rv⟩ := r.one
      obtain ⟨p, vs, rfl, s1, r1⟩ := rv.list
      exact ⟨Dr K (hid h H), p, vs, _, rfl, s1, (r1.mono (hid_le h H)).dp (sortOk_of ok).1, each_of r1, ok, fun ys q e n => k _ _ (Ex.new n) (new_lst dm n (of_each e))⟩
    · cases hz
  · cases hz
/-! ### repr -/
mutual
theorem Dr.dpn {K : Frag} {H : Hp} : ∀ {d : PyData} {v : V}, Dr K H v d → d.hasDict = false → Dp K H v d
  | .none, _, h, _ => by cases h; exact .non
  | .bool b, _, h, _ => by cases h; exact .bl b
  | .int i, _, h, _ => by cases h; exact .int i
  | .str x, _, h, _ => by cases h; exact .str x
  | .list ds, _, h, c => by
    cases h with
    | lst h1 h2 => exact .lst h1 (DrA.dpn h2 (by simpa [PyData.hasDict] using c))
  | .tuple ds, _, h, c => by
    cases h with
    | tup h1 h2 => exact .tup h1 (DrA.dpn h2 (by simpa [PyData.hasDict] using c))
  | .dict ds, _, h, c => by simp [PyData.hasDict] at c
theorem DrA.dpn {K : Frag} {H : Hp} : ∀ {ds : List PyData} {vs : List V}, DrA K H vs ds → PyData.hasDictAll ds = false → DpAll K H vs ds
  | [], _, h, _ => by cases h; exact .nil
  | d :: ds, _, h, c => by
    have c' : d.hasDict = false ∧ PyData.hasDictAll ds = false := by simpa [PyData.hasDictAll] using c
    cases h with
    | cons h1 h2 => exact .cons (Dr.dpn h1 c'.1) (DrA.dpn h2 c'.2)
end
def showOkB (d : PyData) : Bool := d.showable && !d.hasDict && decide (d.depth ≤ 50) && decide (d.shown.length ≤ 1000000)
def bRepr : List PyData → Option PyData := fun ds => match ds with
  | [.none] => some (.str "None")
  | [.list l] => if showOkB (.list l) = true then some (.str (PyData.list l).shown) else none
  | [.tuple l] => if showOkB (.tuple l) = true then some (.str (PyData.tuple l).shown) else none
  | _ => none
theorem showOk_of {d : PyData} (h : showOkB d = true) : d.showable = true ∧ d.hasDict = false ∧ d.depth ≤ 50 ∧ d.shown.length ≤ sizeLine := by
  unfold showOkB at h
  simp only [Bool.and_eq_true, decide_eq_true_eq, Bool.not_eq_true'] at h
  obtain ⟨⟨⟨h1, h2⟩, h3⟩, h4⟩ := h
  exact ⟨h1, h2, h3, Nat.le_trans h4 (by decide)⟩
def rReprD (K : Frag) : List V → Hp → VK → Prop := fun xs H Q => (xs = [.non] ∧ Q (.str "None") H) ∨ ∃ (a : Addr) (d : PyData), xs = [.ref a] ∧ Dp K H (.ref a) d ∧ d.showable = true ∧ d.hasDict = false ∧ d.depth ≤ 50 ∧ d.shown.length ≤ sizeLine ∧ Q (.str d.shown) H
theorem call_reprD {X : Cx} (hg : X.A.guards = some []) (hu : X.A.units + 64 < cLine) : CallR X (.builtin "repr") (rReprD X.K) := by
  intro pins s σ H xs us Q I r h
  rcases h with ⟨rfl, q⟩ | ⟨a, d, rfl, hd, h1, h2, h3, h4, q⟩
  · obtain ⟨u, rfl, ru⟩ := vals1 r
    obtain rfl : u = Value.none := ru
    exact PySem.P.repr_of_none ⟨.str _, H, I.tok _, ⟨_, rfl⟩, q⟩
  · obtain ⟨u, rfl, ru⟩ := vals1 r
    obtain ⟨as, rd⟩ := Dp.reads I d _ _ hd ru
    cases ru
    exact repr_of_reads' rd h1 (fun z => by rw [h2] at z; cases z) hg (by omega) (fun b o e => e) (fun h' u tk hk => ⟨.str _, H, I.kept hk, ⟨u, rfl⟩, q⟩) h4
theorem s_repr {K : Frag} : BS K (rReprD K) bRepr := fun h H xs ds z Q dm r hz k => by
  unfold bRepr at hz
  split at hz
  · cases hz
    obtain ⟨v, rfl, rv⟩ := r.one
    rw [rv.none]
    exact .inl ⟨rfl, k _ H (Ex.refl H) (.str _)⟩
  · split at hz
    · rename_i l ok
      cases hz
      obtain ⟨h1, h2, h3, h4⟩ := showOk_of ok
      obtain ⟨v, rfl, rv⟩ := r.one
      have dr := rv.dr
      obtain ⟨p, vs, rfl, _, _⟩ := rv.list
      exact .inr ⟨p, .list l, rfl, dr.dpn h2, h1, h2, h3, h4, k _ H (Ex.refl H) (.str _)⟩
    · cases hz
  · split at hz
    · rename_i l ok
      cases hz
      obtain ⟨h1, h2, h3, h4⟩ := showOk_of ok
      obtain ⟨v, rfl, rv⟩ := r.one
      have dr := rv.dr
      obtain ⟨p, vs, rfl, _, _⟩ := rv.tuple
      exact .inr ⟨p, .tuple l, rfl, dr.dpn h2, h1, h2, h3, h4, k _ H (Ex.refl H) (.str _)⟩
    · cases hz
  · cases hz
end D
end

section
set_option Elab.async false
set_option linter.all false
set_option maxRecDepth 100000
set_option maxHeartbeats 4000000
/-! Words for the printed terms. -/
namespace D
open PySem L2 LamX
theorem pasF {X : Cx} : Pas X (fun _ _ _ _ => False) := pas_of L2.takes0
def mNil : SM := fun ρ => .nx ρ
def mSeq (f g : SM) : SM := fun ρ => (f ρ).thn g
def mFrz (i : Nat) (f : SM) : SM := fun ρ => f (frz i ρ)
section
variable {X : Cx} {W : WX} {T : List (Addr × Str)} {st : Stmt} {rest : List Stmt} {f g : SM} {pos : Pos}
theorem k_nil : SDs X W T [] mNil := sd_nil
theorem k_seq (p : SD X W T st f) (q : SDs X W T rest g) : SDs X W T (st :: rest) (mSeq f g) := sd_cons p q
theorem k_frz {i : Nat} (hi : i ≠ 0) (p : SDs X W T rest f) : SDs X W T rest (mFrz i f) := sd_frz hi p
end
/-- an own exception class that is raised with a text -/
def ExcG (K : Frag) (mg : Str → Option Value) (x : Str) : Prop := ∃ (C : Addr) (bmB : List Value), PySem.W.excIn K C [.type "ValueError", .type "Exception", .type "BaseException", .type "object"] "ValueError.__new__" = true ∧ mg x = some (.ref C) ∧ PySem.W.keepIn K (.ref C) = true ∧
  PySem.W.subIn K (.ref C) (.type "BaseException") = some true ∧ PySem.W.typeIn K (.ref C) = some (.type "type")
section
variable {X : Cx} {W : WX} {T : List (Addr × Str)} {pos : Pos}
theorem k_raise {x m : Str} {j : Nat} {p p2 p3 : Pos} (tk : Takes X W) (h : ExcG X.K X.mg x) (hc : X.calm = true := by rfl) (hg : Gl X x := by rfl) (hdb : (x == ("__debug__" : Str)) = false := by decide) :
    SD X W T (.Raise (some (.Call (.Name x p) [.Constant (.str m) j p2] [] p3)) none pos) (mRaise x) := by
  obtain ⟨C, bm, h1, h2, h3, h4, h5⟩ := h
  exact sd_raise hc tk PySem.F.excBase_ValueError h1 h2 h3 (raises_own h4 h5) hg hdb
end
end D
end

section
set_option Elab.async false
set_option linter.all false
set_option maxRecDepth 100000
set_option maxHeartbeats 4000000
/-! Defs that show containers, defs that make lambdas. -/
namespace D
open PySem L2 LamX
/-- a def that keeps its promise where no container is being shown -/
structure FnG (P : Program) (w : World) (K : Frag) (mg : Str → Option Value) (base : Heap) (k : Nat) (f : Addr) (fd : FuncData) (ps : List Str) (sp : Sp) : Prop where
  len : ∀ vs H Q E, sp vs H Q E → vs.length = ps.length
  run : ∀ (A : Around) (outer : List PySem.Env) (s : Shared) (H : Hp) (args : Args) (us : List Value) (vs : List V) (Q : VK) (E : XK), A.guards = some [] → Room k A → Env0 P w K mg base A outer s H → BindsTo s fd args (ps.zip us) → Vals vs us → sp vs H Q E →
    codeAny (model P w) A (.call (.ref f) args) (CR (L2.CX P w) outer P w H s Q E) s
structure CalG (P : Program) (w : World) (K : Frag) (mg : Str → Option Value) (base : Heap) (x : Str) (k : Nat) (ps : List Str) (sp : Sp) : Prop where
  ex : ∃ (f : Addr) (fd : FuncData), FnG P w K mg base k f fd ps sp ∧ mg x = some (.ref f) ∧ PySem.W.keepIn K (.ref f) = true ∧ Binds K fd ps []
/-- the def's object as the written part has it, its code object at c -/
def FunC (K : Frag) (x : Str) (st : Stmt) (f c : Addr) (fd : FuncData) : Prop := ∃ (oc : Value) (od : Option Addr) (kV doc pm : Value) (an : Option Addr) (ct : Value) (osl : Array (Option Value)),
  fd = PySem.W.fnOf x x (defArgs st) (defBody st) (defScope st) .none kV doc pm an (.ref c) ct ∧ K.lookup f = some ⟨oc, od, .func fd, osl⟩ ∧ PySem.W.codeIn K (.ref c) x = true
section
variable {P : Program} {w : World} {K : Frag} {mg : Str → Option Value} {base : Heap} {T : List (Addr × Str)}
theorem fnG_l {x : Str} {st : Stmt} {f c : Addr} {fd : FuncData} {N ps : List Str} {k : Nat} {body : SM} (F : FunC K x st f c fd) (S : FnScope N ps (defScope st))
    (hb : ∀ (A : Around) (outer : List PySem.Env) (s : Shared) (H : Hp) (E : XK), (Xb P w K mg base N x st f (.ref c) A outer s H E).A.guards = some [] → Room k (Xb P w K mg base N x st f (.ref c) A outer s H E).A → Takes (Xb P w K mg base N x st f (.ref c) A outer s H E) (We E) →
      SDs (Xb P w K mg base N x st f (.ref c) A outer s H E) (We E) T (defBody st) body) : FnG P w K mg base (k + 1) f fd ps (spL K T ps.length (mirL N ps.length body)) := by
  obtain ⟨oc, od, kV, doc, pm, an, ct, osl, rfl, lk, hcd⟩ := F
  refine ⟨fun vs H Q E h => h.1, fun A outer s H args us vs Q E gd hr e0 hbi r h => run_ofS lk hcd S hr e0 hbi r h.1 fun hr' => ?_⟩
  obtain ⟨hl, h, p, lv, l, vs', ds, rfl, dm, hp, he, rl, ra, tb, po⟩ := h
  have S0 := startL_sts (N := N) dm hp he rl ra tb
  refine ⟨_, hb A outer s H E gd hr' (takes_of rfl rfl rfl rfl), h, [p], h, startL N l ds, S0, ?_⟩
  unfold mirL at po
  rw [if_pos (by rw [← ra.length]; exact hl)] at po
  have fin : ∀ {d : PyData} {ρ : Rho} {σ' : L2.St} {H' : Hp} {O' h' : List Addr} {v : V}, (match own0 d ρ with
      | none => False
      | some (d, l') => ∀ v H' lv', Mv T [p] H H' → Tabs T H' → H' p = some (.lst lv') → DrA K (hid h H') lv' l' → Dr K (hid h H') v d → Q v H') → Gr T [p] h H O' h' H' → StS K T h O' h' H' σ' ρ → Dr K (hid h' H') v d → Q v H' := fun {d ρ σ' H' O' h' v} po g S' rr => by
    unfold own0 at po
    split at po
    · exact po.elim
    · rename_i d2 l' e0
      split at e0
      · rename_i l2 e1
        cases e0
        obtain ⟨p', vs2, k1, k2, k3, k4⟩ := S'.e.own 0 l' e1
        have pB := (S'.lent 0 l' p' e1 k1).mpr rfl
        have pO := S'.own 0 l' p' e1 k1
        have ep : p' = p := (g.fo p' pO).elim List.mem_singleton.mp fun n => absurd pB (dm.nw n)
        subst ep
        exact po v H' vs2 g.mv S'.tab k3 (k4.mono (hid_sub S'.base)) (rr.mono (hid_sub S'.base))
      · cases e0
  cases e : body (startL N l ds) with
  | ret d ρ => rw [e] at po; exact fun v σ' H' O' h' g S' r => fin po g S' r
  | nx ρ => rw [e] at po; exact fun σ' H' O' h' g S' => fin po g S' .non
  | _ => rw [e] at po; exact po.elim
/-- the law itself: what it answers is told, nothing else -/
def spT (K : Frag) (T : List (Addr × Str)) (n : Nat) (m : List PyData → Res PyData) : Sp := fun vs H Q _ => vs.length = n ∧ ∃ ds, DrA K (hid [] H) vs ds ∧ Tabs T H ∧ match m ds with
  | .ok d => ∀ v H', Dr K H' v d → Q v H'
  | _ => False
theorem fnG_t {x : Str} {st : Stmt} {f c : Addr} {fd : FuncData} {N ps : List Str} {k : Nat} {body : SM} (F : FunC K x st f c fd) (S : FnScope N ps (defScope st))
    (hb : ∀ (A : Around) (outer : List PySem.Env) (s : Shared) (H : Hp) (E : XK), (Xb P w K mg base N x st f (.ref c) A outer s H E).A.guards = some [] → Room k (Xb P w K mg base N x st f (.ref c) A outer s H E).A → Takes (Xb P w K mg base N x st f (.ref c) A outer s H E) (We E) →
      SDs (Xb P w K mg base N x st f (.ref c) A outer s H E) (We E) T (defBody st) body) : FnG P w K mg base (k + 1) f fd ps (spT K T ps.length (mir N ps.length body)) := by
  obtain ⟨oc, od, kV, doc, pm, an, ct, osl, rfl, lk, hcd⟩ := F
  refine ⟨fun vs H Q E h => h.1, fun A outer s H args us vs Q E gd hr e0 hbi r h => run_ofS lk hcd S hr e0 hbi r h.1 fun hr' => ?_⟩
  obtain ⟨hl, ds, ra, tb, po⟩ := h
  have dm : Dom [] H := fun a m => (List.not_mem_nil m).elim
  have S0 : StS K T [] [] [] H (L2.start N vs) (startR N ds) := ⟨start_enr dm ra, fun a m => m, fun a m => m, fun i l p q => absurd q startR_own, fun i l p q => absurd q startR_own, tb⟩
  refine ⟨_, hb A outer s H E gd hr' (takes_of rfl rfl rfl rfl), [], [], [], startR N ds, S0, ?_⟩
  unfold mir at po
  rw [if_pos (ra.length.symm.trans hl)] at po
  cases e : body (startR N ds) with
  | ret d ρ => rw [e] at po; exact fun v σ' H' O' h' g S' r => po v H' (r.mono (hid_le h' H'))
  | nx ρ => rw [e] at po; exact fun σ' H' O' h' g S' => po .non H' .non
  | _ => rw [e] at po; exact po.elim
end
section
variable {X : Cx} {W : WX} {T : List (Addr × Str)} {a b c tg e : Expr} {es : List Expr} {fs : DSs} {pos p : Pos}
theorem run_fnG {k : Nat} {f : Addr} {fd : FuncData} {ps : List Str} {sp : Sp} {Eσ : St → XK} {pins : List (Addr × Obj)} {σ : L2.St} {H : Hp} {s : Shared} {Q : VK} {us : List Value} {vs : List V} (F : FnG X.prog X.w X.K X.mg X.base k f fd ps sp) (gd : X.A.guards = some []) (hr : Room k X.A) (hb : Binds X.K fd ps [])
    (hx : PassesAt (L2.CX X.prog X.w) X σ (Eσ σ)) (I : Inv X pins σ H s) (r : Vals vs us) (h : sp vs H Q (Eσ σ)) : wpAny (model X.prog X.w) X.A (call (.ref f) us) (EP X pins σ Q) X.xe s := by
  have hl : us.length = ps.length := r.length.symm.trans (F.len _ _ _ _ h)
  have b := hb s us I.kIn (by simpa using hl)
  rw [List.append_nil] at b
  refine wpAny_call (codeAny_mono (F.run X.A X.stack s H ⟨us, []⟩ us vs Q (Eσ σ) gd hr I.env0 b r h) fun r s' hq => ?_)
  match r, hq with
  | .error e, hq => exact hx pins H s e s' I hq
  | .ok (.ret u), hq => exact I.after hq
theorem pe_callG {k : Nat} {f : Addr} {fd : FuncData} {ps : List Str} {sp : Sp} {Eσ : St → XK} {x : Str} {t : TA} (F : FnG X.prog X.w X.K X.mg X.base k f fd ps sp) (gd : X.A.guards = some []) (hr : Room k X.A) (hg : Gl X x) (hm : X.mg x = some (.ref f)) (hk : PySem.W.keepIn X.K (.ref f) = true) (hb : Binds X.K fd ps [])
    (hx : ∀ σ, PassesAt (L2.CX X.prog X.w) X σ (Eσ σ)) (ha : PA X (e :: es) t) (hdb : (x == ("__debug__" : Str)) = false) (he : starEach (e :: es) X.env = (false, eval e X.env) :: starEach es X.env) (hpl : (backTo pos (starEach es X.env)).any (·.1) = false) :
    PE X (.Call (.Name x p) (e :: es) [] pos) (tCallS sp Eσ t) := ⟨fun pins s σ H Q I h => wpAny_Call_Name_kw (ld_glob I hg hm (PySem.W.callWith_K (h₀ := X.base) I.ok.mod.kin hk (thn (ha.run pos pins s σ H _ I h) fun us s1 h1 => by
      obtain ⟨vs, H1, I1, r, q⟩ := h1
      exact ⟨I1.kIn, run_fnG F gd hr hb (hx σ) I1 r q⟩) he hpl) hdb)⟩
theorem z_callLG {x y : Str} {kk n i : Nat} {ps : List Str} {m : List PyData → List PyData → Option (PyData × List PyData)} {npos : Pos} (C : CalG X.prog X.w X.K X.mg X.base x kk ps (spL X.K T n m)) (gd : X.A.guards = some []) (hn : ∀ l ds, m l ds ≠ none → ds.length + 1 = n) (tk : Pas X W) (hr : Room kk X.A) (ha : ESs X T es fs)
    (hN : X.N[i]? = some y := by rfl) (hv : Vis X.env.scope y := by first | exact Or.inl rfl | exact Or.inr (Or.inl rfl) | exact Or.inr (Or.inr rfl)) (hd : (y == ("__debug__" : Str)) = false := by decide) (hcd : (y == ("__classdict__" : Str)) = false := by decide)
    (hg : Gl X x := by rfl) (hdb : (x == ("__debug__" : Str)) = false := by decide) (he : starEach (.Name y npos :: es) X.env = (false, eval (.Name y npos) X.env) :: starEach es X.env := by rfl) (hpl : (backTo pos (starEach es X.env)).any (·.1) = false := by rfl) :
    ES X T (.Call (.Name x p) (.Name y npos :: es) [] pos) (sCallL i m fs) := by
  obtain ⟨f, fd, F, hm, hk, hb⟩ := C.ex
  exact imp_e (pe_callG F gd hr hg hm hk hb tk (pa_cons (pe_var hN hv hd hcd) ha he) hdb he hpl) (reads_callL hn)
/-- the def that tries a lambda, and the class it names -/
structure Tol (K : Frag) (mg : Str → Option Value) (x a e : Str) (st : Stmt) (isP : Str → Bool) : Prop where
  ex : ∃ (g CS : Addr) (fd : FuncData), Fun K x x st g fd ∧ mg x = some (.ref g) ∧ PySem.W.keepIn K (.ref g) = true ∧ L2.Binds K fd [a] [] ∧ mg e = some (.ref CS) ∧ ∀ e' C, isP e' = true → mg e' = some (.ref C) → PySem.W.exmOne K (.ref C) (.ref CS) = some true
theorem z_told {x a e : Str} {st : Stmt} {isP : Str → Bool} {cc P : Addr} {k j : Nat} {f : DQ} {params : Arguments} {body : Expr} {scope : Scope} {lpos p1 p2 p3 p4 p5 p6 p7 p8 p9 : Pos} (L : Tol X.K X.mg x a e st isP) (Sg : FnScope [a] [a] (defScope st))
    (hst : defBody st = [.Try [.Return (some (.List [.Call (.Name a p1) [] [] p2] p9)) p3] [.ExceptHandler (some (.Name e p4)) none [.Return (some (.Constant .none j p5)) p6] p7] [] [] p8])
    (hge : (defScope st).names.lookup e = some .globalImplicit) (hva : Vis (defScope st) a) (hde : (e == ("__debug__" : Str)) = false) (hdb : (x == ("__debug__" : Str)) = false) (hda : (a == ("__debug__" : Str)) = false) (hcda : (a == ("__classdict__" : Str)) = false)
    (TB : TabB X.base X.mg cc P) (hg : Gl X x) (hcode : X.env.code = .ref cc) (hmT : (P, X.env.qual ++ "<lambda>") ∈ T) (hu : ∀ p ∈ T, p.1 = P → p.2 = X.env.qual ++ "<lambda>") (hr : Room (k + 2) X.A) (LS : LamS X.env.scope scope) (hdef : defaultsOf params X.env = ([], []))
    (hbind : ∀ (q : Str) (cl : List (Str × Addr)) (pm cv ctv : Value), bindArgs (PySem.W.kla_fn "<lambda>" q params body scope cl pm cv ctv) ⟨[], []⟩ = pure [])
    (hbody : ∀ (Y : Cx) (V : WX), (∃ A outer s H E f c', Y = lamCx X A outer s H E scope f c' ∧ Room k Y.A) → Pas Y V → PQ Y V body f) : ES X T (.Call (.Name x p) [.Lambda params body scope lpos] [] pos) (sTry isP f) := by
  obtain ⟨g, CS, fd, F, hm, hk, hb, hme, hex⟩ := L.ex
  exact z_try F hg hm hk hb Sg rfl hva hst hge hme hde (fun _ => rfl) hex TB hcode hmT hu hr LS hdef hbind hbody hdb hda hcda
end
end D
end

section
set_option Elab.async false
set_option linter.all false
set_option maxRecDepth 100000
set_option maxHeartbeats 4000000
/-! The end of a law whose def shows containers and makes lambdas. -/
namespace D
open PySem L2 LamX PyProof.Rows
section
variable {P : Program} {w : World} {K : Frag} {mg mb : Str → Option Value}
/-- the tables, by address -/
def tbs (cs : List (Addr × Addr)) : List Addr := cs.map Prod.snd
/-- what is tracked as the law is called: the tables, the script where the written part has not got it -/
def Hfst (K : Frag) (cs : List (Addr × Addr)) (a : Addr) (oa : Obj) (ns : List Int) : Hp := fun b =>
  if b ∈ tbs cs then some (.tbl #[]) else match K.lookup a with
    | some _ => none
    | none => if b = a then some (.frz oa (.lst (ns.map V.int))) else none
theorem err_no {outer : List PySem.Env} {H : Hp} {s s' : Shared} {e : Value} (z : L2.CX P w outer H s (fun _ _ _ => False) e s') : False := by
  obtain ⟨_, _, _, _, _, _, _, _, _, _, _, _, q⟩ := z
  exact q
theorem law_end {k : Nat} {fa a : Addr} {cs : List (Addr × Addr)} {fd : FuncData} {x : Str} {sp : Sp} {s₁ : Shared} {vs : List Value} {ns : List Int} (kin : K.In s₁.heap) (nsm : s₁.heap.Ns mainGlobals mg) (nsb : s₁.heap.Ns builtinsNs mb) (bts : ∀ x : Str, x ≠ "__name__" → mb x = bootBuiltins x) (nl : s₁.heap.NoLimit) (ng : s₁.gens = #[])
    (tb : ∀ p ∈ cs, s₁.heap.get? p.2 = some { cls := .none, data := .fields #[] }) (tk : ∀ p ∈ cs, K.lookup p.2 = none) (hd : ∀ p ∈ cs, PySem.W.CodeHd s₁.heap p.1 p.2)
    (bm : ∃ (m : Addr) (o : Obj), mg "__builtins__" = some (.ref m) ∧ m ≠ builtinsNs ∧ s₁.heap.get? m = some o ∧ o.cls = .type "module" ∧ o.dict = some builtinsNs ∧ o.data = .plain)
    (la : s₁.heap.get? a = some { cls := .type "list", data := .seq vs.toArray }) (iv : IntsAre vs ns) (sz : ns.length ≤ sizeLine) (room : Room k callerA)
    (F : ∀ base : Heap, K.In base → base.Ns mainGlobals mg → (∀ p ∈ cs, TabB base mg p.1 p.2) → FnG P w K mg base k fa fd [x] sp) (bind : ∀ (s : Shared) (u : Value), BindsTo s fd ⟨[u], []⟩ [(x, u)])
    (asks : ∀ H : Hp, (∀ p ∈ cs, H p.2 = some (.tbl #[])) → SqL K H a (ns.map V.int) → sp [.ref a] H (fun v _ => v = .bl true) fun _ _ _ => False) :
    codeAny (model P w) callerA (.call (.ref fa) ⟨[.ref a], []⟩) (fun r s' => r = .ok (.ret (.bool true)) ∧ OldK s₁.heap s'.heap ∧ s'.os = s₁.os ∧ AllBare s'.gens) s₁ := by
  have vint := vals_ints iv
  generalize hH : Hfst K cs a { cls := .type "list", data := .seq vs.toArray } ns = H
  -- what stands at a tracked address
  have onT : ∀ {b : Addr}, b ∈ tbs cs → H b = some (.tbl #[]) ∧ s₁.heap.get? b = some { cls := .none, data := .fields #[] } ∧ ∃ p ∈ cs, p.2 = b := fun {b} m => by
    obtain ⟨p, hp, e⟩ := List.mem_map.mp m
    subst e
    exact ⟨by rw [← hH]; exact if_pos m, tb p hp, p, hp, rfl⟩
  have trk : ∀ {b : Addr} {u : HO}, H b = some u → b ∈ tbs cs ∨ (b ∉ tbs cs ∧ b = a ∧ K.lookup a = none ∧ u = .frz { cls := .type "list", data := .seq vs.toArray } (.lst (ns.map V.int))) := fun {b u} e => by
    rw [← hH] at e
    unfold Hfst at e
    by_cases m : b ∈ tbs cs
    · exact .inl m
    · rw [if_neg m] at e
      cases q : K.lookup a with
      | some o => rw [q] at e; cases e
      | none =>
        simp only [q] at e
        by_cases z : b = a
        · rw [if_pos z] at e
          cases e
          exact .inr ⟨m, z, rfl, rfl⟩
        · rw [if_neg z] at e; cases e
  have clear : ∀ {b : Addr} {o : Obj}, s₁.heap.get? b = some o → o.data ≠ .fields #[] → (∀ zs n, o.data ≠ .seq zs n) → H b = none := fun {b o} e h1 h2 => by
    cases q : H b with
    | none => rfl
    | some u =>
      rcases trk q with m | ⟨_, z, _, _⟩
      · have e2 := (onT m).2.1
        rw [e] at e2
        cases e2
        exact absurd rfl h1
      · rw [z, la] at e
        cases e
        exact absurd rfl (h2 _ _)
  have inBase : ∀ {b : Addr} {o : Obj}, s₁.heap.get? b = some o → H b = none → (hidT s₁.heap H).get? b = some o := fun e n => hidT_get e n
  have nsIn : ∀ {b : Addr} {m : Str → Option Value}, s₁.heap.Ns b m → (hidT s₁.heap H).Ns b m := fun {b m} z => by
    obtain ⟨o, es, ep, e, d, r⟩ := z
    refine ⟨o, es, ep, inBase e (clear e (fun q => ?_) fun _ _ q => ?_), d, r⟩ <;> (rw [d] at q; cases q)
  have kBase : K.In (hidT s₁.heap H) := fun b o e => inBase (kin b o e) (by
    cases q : H b with
    | none => rfl
    | some u =>
      rcases trk q with m | ⟨_, z, z2, _⟩
      · obtain ⟨_, _, p, hp, e2⟩ := onT m
        rw [← e2, tk p hp] at e
        cases e
      · rw [z, z2] at e
        cases e)
  have tabs : ∀ p ∈ cs, TabB (hidT s₁.heap H) mg p.1 p.2 := fun p hp => by
    obtain ⟨m, o, b1, b2, b3, b4, b5, b6⟩ := bm
    obtain ⟨og, eg, ng', g1, g2, _⟩ := nsm
    refine ⟨?_, ⟨m, o, b1, b2, fun q => ?_, fun q => ?_, inBase b3 (clear b3 (fun q => ?_) fun _ _ q => ?_), b4, b5, b6⟩, fun q => ?_⟩
    · obtain ⟨oc, us, fi, ft, fl, tg, inF, tx, tt, c1, c2, c3, c4, rest⟩ := hd p hp
      refine ⟨oc, us, fi, ft, fl, tg, inF, tx, tt, inBase c1 (clear c1 (fun q => ?_) fun _ _ q => ?_), c2, c3, c4, rest⟩
      · rw [c3] at q
        cases q
        cases c4
      · rw [c3] at q; cases q
    · rw [q, g1] at b3
      cases b3
      rw [g2] at b6
      cases b6
    · rw [q, tb p hp] at b3
      cases b3
      cases b6
    · rw [b6] at q; cases q
    · rw [b6] at q; cases q
    · rw [q, tb p hp] at g1
      cases g1
      cases g2
  have laid : HOk P w H s₁.heap := fun b u e => by
    rcases trk e with m | ⟨_, z, _, z3⟩
    · obtain ⟨e2, e3, _⟩ := onT m
      rw [e] at e2
      cases e2
      exact e3
    · subst z z3
      exact ⟨la, by rw [List.length_map]; exact sz, vs, _, vint, la⟩
  have mod : L2.Mod K mg (hidT s₁.heap H) := ⟨kBase, nsIn nsm, ⟨mb, nsIn nsb, bts⟩, by
    obtain ⟨mc, n1, n2⟩ := nl
    exact ⟨mc, nsIn n1, n2⟩⟩
  have env : Env0 P w K mg (hidT s₁.heap H) callerA [] s₁ H := ⟨rfl, mod, fun b o e => of_hidT e, Nat.le_of_eq (hidT_size _ _), trivial, fun b m => (List.not_mem_nil m).elim, laid, .of_eq ng⟩
  have seq : SqL K H a (ns.map V.int) := by
    cases q : K.lookup a with
    | some o =>
      have e := kin a o q
      rw [la] at e
      cases e
      exact .inr ⟨_, vs.toArray, _, q, rfl, rfl, rfl, by rw [List.size_toArray, iv.length]; exact sz, by simpa using vint⟩
    | none =>
      have nt : a ∉ tbs cs := fun m => by
        have z := (onT m).2.1
        rw [la] at z
        have z2 : Data.seq vs.toArray _ = Data.fields #[] := congrArg Obj.data (Option.some.inj z)
        cases z2
      refine .inl (.inr ⟨{ cls := .type "list", data := .seq vs.toArray }, ?_⟩)
      rw [← hH]
      unfold Hfst
      rw [if_neg nt, q]
      exact if_pos rfl
  refine codeAny_mono ((F _ kBase (nsIn nsm) tabs).run callerA [] s₁ H ⟨[.ref a], []⟩ [.ref a] [.ref a] _ _ rfl room env (bind s₁ (.ref a)) (.cons rfl .nil) (asks H (fun p hp => (onT (List.mem_map.mpr ⟨p, hp, rfl⟩)).1) seq)) fun r s' z => ?_
  match r, z with
  | .error e, z => exact (err_no z).elim
  | .ok (.ret u), z =>
    obtain ⟨v, H', os, bare, un, ok', ru, rfl⟩ := z
    obtain rfl : u = Value.bool true := ru
    have same : ∀ {b : Addr} {o : Obj}, b ∉ tbs cs → s₁.heap.get? b = some o → s'.heap.get? b = some o := fun {b o} nb e => by
      cases q : H b with
      | none => exact un.keep b o e q List.not_mem_nil List.not_mem_nil
      | some ub =>
        rcases trk q with m | ⟨_, _, _, z⟩
        · exact absurd m nb
        · subst z
          have e1 := (laid b _ q).1
          have e2 := (ok' b _ (un.frzs b _ _ q)).1
          rw [e] at e1
          cases e1
          exact e2
    have more : ∀ {b : Addr}, b ∈ tbs cs → ∃ ps : Array Value, s'.heap.get? b = some { cls := .none, data := .fields ps } := fun {b} m => by
      obtain ⟨ps, z⟩ := un.tbls b #[] (onT m).1
      exact ⟨_, ok' b _ z⟩
    refine ⟨rfl, ⟨fun b o e => ?_, fun b o e => ?_⟩, os, bare⟩
    · by_cases m : b ∈ tbs cs
      · obtain ⟨_, e2, p, hp, rfl⟩ := onT m
        obtain ⟨ps, e3⟩ := more m
        rw [e] at e2
        cases e2
        exact .inr (.inl ⟨((hd p hp).tab (tb p hp)).isCodeTable, rfl, #[], ps, rfl, by rw [e3, Array.empty_append]⟩)
      · exact .inl (same m e)
    · by_cases m : b ∈ tbs cs
      · obtain ⟨ps, e3⟩ := more m
        exact ⟨_, e3⟩
      · exact ⟨o, same m e⟩
end
end D
end

section
set_option Elab.async false
set_option linter.all false
set_option maxRecDepth 100000
set_option maxHeartbeats 4000000
/-! The walk's end. -/
namespace D
open PySem L2 LamX PyProof.Rows
/-- the table of the def nm is empty, its code object is one -/
def TabOf (K : Frag) (mg : Str → Option Value) (h : Heap) (nm : Str) : Prop := ∀ (f c P : Addr) (oc : Value) (od : Option Addr) (fd : FuncData) (osl : Array (Option Value)) (e : Value) (dd : Option Addr) (vs : Array Value) (sl : Array (Option Value)),
  mg nm = some (.ref f) → K.lookup f = some ⟨oc, od, .func fd, osl⟩ → fd.code = .ref c → K.lookup c = some ⟨e, dd, .fields vs, sl⟩ → vs[11]? = some (.ref P) → h.get? P = some { cls := .none, data := .fields #[] } ∧ PySem.W.CodeHd h c P
def LawG (l : PySem.W.OpenLaw) (w : World) (K : Frag) (k n : Nat) (x : Str) (mg : Str → Option Value) (fa : Addr) (h : Heap) : Prop :=
  ∃ (fd : FuncData) (cs : List (Addr × Addr)) (sp : Sp), (∀ p ∈ cs, h.get? p.2 = some { cls := .none, data := .fields #[] }) ∧ (∀ p ∈ cs, K.lookup p.2 = none) ∧ (∀ p ∈ cs, PySem.W.CodeHd h p.1 p.2) ∧ (∀ (s : Shared) (u : Value), BindsTo s fd ⟨[u], []⟩ [(x, u)]) ∧
    (∀ (H : Hp) (a : Addr) (ns : List Int), ns.length ≤ n → (∀ z ∈ ns, Builtin.Int.intBits z ≤ 1048576) → (∀ p ∈ cs, H p.2 = some (.tbl #[])) → SqL K H a (ns.map V.int) → sp [.ref a] H (fun v _ => v = .bl true) fun _ _ _ => False) ∧
    ∀ base : Heap, K.In base → base.Ns mainGlobals mg → (∀ p ∈ cs, TabB base mg p.1 p.2) → FnG l.prog w K mg base k fa fd [x] sp
theorem walk_end {l : PySem.W.OpenLaw} {n k : Nat} {q : Program} {loose : List Str} {XP : (Str → Option Value) → Heap → Prop} {YP : World → Heap → Prop} {d : DefRec} {K : Params → Frag} {x : Str} (nms : List Str)
    (hn : l.most = some n) (hn2 : n ≤ sizeLine) (hdf : d.params.defaults = []) (hr : Room k callerA) (hrec : ∀ nm ∈ nms, ((recsOf q).any fun e => e.name == nm) = true) (hY : ∀ (w : World) (h : Heap), YP w h → (K w.params).In h)
    (F : ∀ (w : World) (mg : Str → Option Value) (fa : Addr) (h : Heap), (K w.params).In h → h.Ns mainGlobals mg → mg d.name = some (.ref fa) → (∀ nm ∈ nms, TabOf (K w.params) mg h nm) → LawG l w (K w.params) k n x mg fa h) :
    PySem.W.WalkO q loose XP YP l.row.toRowW d [] (fun f vs => PySem.call f vs) := by
  refine Att.attach_callB hn hdf fun w s₀ s₁ mg mb fa _ _ _ _ a vs ns G Y _ _ _ law obj hi len bits gens => ?_
  have kin := hY w _ Y
  have tabs : ∀ nm ∈ nms, TabOf (K w.params) mg s₁.heap nm := fun nm hm f c P oc od fd osl e dd us sl k1 k2 k3 k4 k5 => by
    obtain ⟨r, rm, re⟩ := List.any_eq_true.mp (hrec nm hm)
    obtain rfl := beq_iff_eq.mp re
    obtain ⟨f', o', fd', c', P', t1, t2, t3, t4, t5, t6⟩ := G.T.tab r rm
    obtain rfl : f = f' := by
      rw [k1] at t1
      cases t1
      rfl
    have := kin _ _ k2
    rw [this] at t2
    cases t2
    cases t3
    obtain rfl : c = c' := by
      rw [k3] at t4
      cases t4
      rfl
    obtain ⟨⟨oo, vv, u1, u2, u3, u4⟩, u5⟩ := id t6
    have := kin _ _ k4
    rw [this] at u1
    cases u1
    cases u3
    rw [k5] at u4
    cases u4
    exact ⟨u5, PySem.W.CodeHd.of t5 t6⟩
  obtain ⟨fd, cs, sp, h1, h2, h3, h4, h5, h6⟩ := F w mg fa _ kin G.T.g law tabs
  exact law_end kin G.T.g G.T.b G.T.builtins G.T.nolimit gens h1 h2 h3 G.T.bmain obj hi (Nat.le_trans len hn2) hr h6 h4 fun H hT hS => h5 H a ns len bits hT hS
/-- the script is data -/
theorem script_dr {K : Frag} {H : Hp} {a : Addr} {ns : List Int} (s : SqL K H a (ns.map V.int)) : DrA K (hid [] H) [V.ref a] [PyData.list (ns.map PyData.int)] := by
  refine .cons (.lst (xs := ns.map V.int) ?_ (DrA.ofInts ns)) .nil
  rcases s with (s | ⟨o, s⟩) | s
  · exact .inl (.inl (hid_mk List.not_mem_nil s fun _ z => nomatch z))
  · exact .inl (.inr ⟨o, hid_mk List.not_mem_nil s fun _ z => nomatch z⟩)
  · exact .inr s
theorem tabs_new {T : List (Addr × Str)} {cs : List (Addr × Addr)} {H : Hp} (e : ∀ p ∈ T, ∃ q ∈ cs, q.2 = p.1) (h : ∀ p ∈ cs, H p.2 = some (.tbl #[])) : Tabs T H := fun p hp => by
  obtain ⟨q, hq, e⟩ := e p hp
  exact TabS.nil (by rw [← e]; exact h q hq)
theorem excG {K : Frag} {h : Heap} {mg : Str → Option Value} {x : Str} {C : Addr} (X : K.In h) (G : h.Ns mainGlobals mg) (a : PySem.W.nsIn K mainGlobals x = some (some (.ref C))) (b : PySem.W.excIn K C [.type "ValueError", .type "Exception", .type "BaseException", .type "object"] "ValueError.__new__" = true) (c : PySem.W.keepIn K (.ref C) = true)
    (d : PySem.W.subIn K (.ref C) (.type "BaseException") = some true) (e : PySem.W.typeIn K (.ref C) = some (.type "type")) : ExcG K mg x := ⟨C, [], b, PySem.W.mg_of X G a, c, d, e⟩
theorem exm_own {K : Frag} {S : Addr} (h1 : PySem.W.subIn K (.ref S) (.type "BaseException") = some true) (h2 : PySem.W.isClsIn K S = true) (h3 : PySem.W.typeIn K (.ref S) = some (.type "type")) (h4 : PySem.W.subIn K (.ref S) (.ref S) = some true) : PySem.W.exmOne K (.ref S) (.ref S) = some true := by
  have e2 : ((PySem.W.clsIn K S).isSome && PySem.W.typeIn K (.ref S) == some (.type "type")) = true := by
    have z : (PySem.W.clsIn K S).isSome = true := h2
    rw [z, h3]
    rfl
  unfold PySem.W.exmOne
  rw [h1]
  show PySem.W.kitCls K (.ref S) (.ref S) = some true
  unfold PySem.W.kitCls
  simp only [e2, if_true]
  exact h4
end D
end

section
set_option Elab.async false
set_option linter.all false
set_option maxRecDepth 100000
set_option maxHeartbeats 4000000
namespace K77
open D PySem L2 LamX
section
open PySem L2 LamX
def top (i : Nat) : Stmt := PySem.Challenge.pw_leastnet_k77_words_vectors_fractions_as.main.body.getD i (.Pass ⟨0, 0, 0, 0⟩)
/-- what the module's names stand for -/
structure Gf (K : Frag) (mg : Str → Option Value) : Prop where
  b_abs : mg "abs" = none
  b_all : mg "all" = none
  b_bool : mg "bool" = none
  b_int : mg "int" = none
  b_isinstance : mg "isinstance" = none
  b_len : mg "len" = none
  b_list : mg "list" = none
  b_max : mg "max" = none
  b_min : mg "min" = none
  b_range : mg "range" = none
  b_repr : mg "repr" = none
  b_sorted : mg "sorted" = none
  b_str : mg "str" = none
  b_tuple : mg "tuple" = none
  b_zip : mg "zip" = none
  c_DIGITS : ∃ t, mg "DIGITS" = some (.str "0123456789" t)
  c_LETTERS : ∃ t, mg "LETTERS" = some (.str "abcdefghijklmnopqrstuvwxyz" t)
  c_MAX_ACTIONS : ∃ t, mg "MAX_ACTIONS" = some (.int 5 t)
  c_MAX_DIGITS : ∃ t, mg "MAX_DIGITS" = some (.int 40 t)
  c_MAX_LETTERS : ∃ t, mg "MAX_LETTERS" = some (.int 8 t)
  c_MAX_WORD : ∃ t, mg "MAX_WORD" = some (.int 200 t)
  c_NOTHING : ∃ t, mg "NOTHING" = some (.str "-" t)
  e_InvalidAlphabet : ExcG K mg "InvalidAlphabet"
  e_InvalidFraction : ExcG K mg "InvalidFraction"
  e_InvalidVector : ExcG K mg "InvalidVector"
  e_InvalidWord : ExcG K mg "InvalidWord"
  e_ParseError : ExcG K mg "ParseError"
end
def isPE (e : Str) : Bool := e == ("ParseError" : Str)
def m_is_integer : SM := (mSeq (mRet (liR (dAndV (dIsi "int" (dVar 0)) (dNotV (dIsi "bool" (dVar 0))))))
  mNil)
abbrev N_is_integer : List Str := ["value"]
def M_is_integer := mir N_is_integer 1 m_is_integer
def m_is_action : SM := (mSeq (mIf (liR (dOr (dNot (dB (dIsi "str" (dVar 0)))) (dNot (dB (dChain oLe oLe (dC (.int 1)) (dBi bLen (dCons (dVar 0) dNil)) (dC (.int 8)))))))
  (mSeq (mRet (liR (dC (.bool false))))
  mNil)
  mNil)
  (mSeq (mRet (liR (dBi bAll (dCons (dLc (dItems (dVar 0)) (gtN 1) dYes (dOp oIn (dVar 1) (dC (.str "abcdefghijklmnopqrstuvwxyz"))) [1]) dNil))))
  mNil))
abbrev N_is_action : List Str := ["value", "letter"]
def M_is_action := mir N_is_action 1 m_is_action
def m_is_alphabet : SM := (mSeq (mIf (liR (dOr (dNot (dB (dIsi "tuple" (dVar 0)))) (dNot (dB (dChain oLe oLe (dC (.int 1)) (dBi bLen (dCons (dVar 0) dNil)) (dC (.int 5)))))))
  (mSeq (mRet (liR (dC (.bool false))))
  mNil)
  mNil)
  (mSeq (mIf (liR (dNot (dB (dBi bAll (dCons (dLc (dItems (dVar 0)) (gtN 1) dYes (dCall M_is_action (dCons (dVar 1) dNil)) [1]) dNil)))))
  (mSeq (mRet (liR (dC (.bool false))))
  mNil)
  mNil)
  (mSeq (mRet (liR (dBi bAll (dCons (dLc (dZip (dCons (dVar 0) (dCons (dSl (dVar 0) (dSo (dC (.int 1))) dNo) dNil))) (gtSeq 2 (gtCons (gtN 2) (gtCons (gtN 3) gtNil))) dYes (dOp oLt (dVar 2) (dVar 3)) [2, 3]) dNil))))
  mNil)))
abbrev N_is_alphabet : List Str := ["value", "action", "one", "other"]
def M_is_alphabet := mir N_is_alphabet 1 m_is_alphabet
def m_is_word_of : SM := (mSeq (mRet (liR (dAndV (dIsi "tuple" (dVar 1)) (dBi bAll (dCons (dLc (dItems (dVar 1)) (gtN 2) dYes (dAndV (dIsi "str" (dVar 2)) (dOp oIn (dVar 2) (dVar 0))) [2]) dNil)))))
  mNil)
abbrev N_is_word_of : List Str := ["alphabet", "value", "action"]
def M_is_word_of := mir N_is_word_of 2 m_is_word_of
def m_is_vector_of : SM := (mSeq (mRet (liR (dAndV (dIsi "tuple" (dVar 1)) (dAndV (dOp oEq (dBi bLen (dCons (dVar 1) dNil)) (dVar 0)) (dBi bAll (dCons (dLc (dItems (dVar 1)) (gtN 2) dYes (dCall M_is_integer (dCons (dVar 2) dNil)) [2]) dNil))))))
  mNil)
abbrev N_is_vector_of : List Str := ["size", "value", "number"]
def M_is_vector_of := mir N_is_vector_of 2 m_is_vector_of
def m_require_alphabet : SM := (mSeq (mIf (liR (dNot (dB (dCall M_is_alphabet (dCons (dVar 0) dNil)))))
  (mSeq (mRaise "InvalidAlphabet")
  mNil)
  mNil)
  mNil)
abbrev N_require_alphabet : List Str := ["value"]
def M_require_alphabet := mir N_require_alphabet 1 m_require_alphabet
def m_require_word : SM := (mSeq (mIf (liR (dOr (dNot (dB (dCall M_is_word_of (dCons (dVar 0) (dCons (dVar 1) dNil))))) (dB (dOp oGt (dBi bLen (dCons (dVar 1) dNil)) (dC (.int 200))))))
  (mSeq (mRaise "InvalidWord")
  mNil)
  mNil)
  mNil)
abbrev N_require_word : List Str := ["alphabet", "word"]
def M_require_word := mir N_require_word 2 m_require_word
def m_is_vector : SM := (mSeq (mRet (liR (dAndV (dIsi "tuple" (dVar 0)) (dAndV (dChain oLe oLe (dC (.int 1)) (dBi bLen (dCons (dVar 0) dNil)) (dC (.int 5))) (dCall M_is_vector_of (dCons (dBi bLen (dCons (dVar 0) dNil)) (dCons (dVar 0) dNil)))))))
  mNil)
abbrev N_is_vector : List Str := ["value"]
def M_is_vector := mir N_is_vector 1 m_is_vector
def fu_common_in (ρ : Rho) : Nat := match ρ[1]? with
  | some (Itm.dat (PyData.int i)) => i.toNat + 1
  | _ => 0
def m_common_in : SM := (mSeq (mPar 0 1 (liR (dCons (dBi bAbs (dCons (dVar 0) dNil)) (dCons (dBi bAbs (dCons (dVar 1) dNil)) dNil))))
  (mSeq (mWhile fu_common_in (liR (dB (dOp oGt (dVar 1) (dC (.int 0)))))
  (mSeq (mPar 0 1 (liR (dCons (dVar 1) (dCons (dOp oMod (dVar 0) (dVar 1)) dNil))))
  mNil))
  (mSeq (mRet (liR (dVar 0)))
  mNil)))
abbrev N_common_in : List Str := ["one", "other"]
def M_common_in := mir N_common_in 2 m_common_in
def m_is_fraction : SM := (mSeq (mIf (liR (dOr (dNot (dB (dIsi "tuple" (dVar 0)))) (dOr (dB (dOp oNe (dBi bLen (dCons (dVar 0) dNil)) (dC (.int 2)))) (dNot (dB (dBi bAll (dCons (dLc (dItems (dVar 0)) (gtN 1) dYes (dCall M_is_integer (dCons (dVar 1) dNil)) [1]) dNil)))))))
  (mSeq (mRet (liR (dC (.bool false))))
  mNil)
  mNil)
  (mSeq (mRet (liR (dAndV (dOp oGe (dOp oIx (dVar 0) (dC (.int 1))) (dC (.int 1))) (dOp oEq (dCall M_common_in (dCons (dOp oIx (dVar 0) (dC (.int 0))) (dCons (dOp oIx (dVar 0) (dC (.int 1))) dNil))) (dC (.int 1))))))
  mNil))
abbrev N_is_fraction : List Str := ["value", "number"]
def M_is_fraction := mir N_is_fraction 1 m_is_fraction
def m_require_fraction : SM := (mSeq (mIf (liR (dNot (dB (dCall M_is_fraction (dCons (dVar 0) dNil)))))
  (mSeq (mRaise "InvalidFraction")
  mNil)
  mNil)
  mNil)
abbrev N_require_fraction : List Str := ["value"]
def M_require_fraction := mir N_require_fraction 1 m_require_fraction
def m_number_in : SM := (mSeq (mSet 1 (liR (dIf (dB (dM1 mStarts (dVar 0) (dC (.str "-")))) (dSl (dVar 0) (dSo (dC (.int 1))) dNo) (dVar 0))))
  (mSeq (mIf (liR (dOr (dNot (dB (dChain oLe oLe (dC (.int 1)) (dBi bLen (dCons (dVar 1) dNil)) (dC (.int 40))))) (dNot (dB (dBi bAll (dCons (dLc (dItems (dVar 1)) (gtN 2) dYes (dOp oIn (dVar 2) (dC (.str "0123456789"))) [2]) dNil))))))
  (mSeq (mRaise "ParseError")
  mNil)
  mNil)
  (mSeq (mIf (liR (dAnd (dB (dOp oEq (dOp oIx (dVar 1) (dC (.int 0))) (dC (.str "0")))) (dB (dOp oNe (dVar 0) (dC (.str "0"))))))
  (mSeq (mRaise "ParseError")
  mNil)
  mNil)
  (mSeq (mRet (liR (dBi bInt (dCons (dVar 0) dNil))))
  mNil))))
abbrev N_number_in : List Str := ["text", "digits", "sign"]
def M_number_in := mir N_number_in 1 m_number_in
def m_require_text : SM := (mSeq (mIf (liR (dNot (dB (dIsi "str" (dVar 0)))))
  (mSeq (mRaise "ParseError")
  mNil)
  mNil)
  mNil)
abbrev N_require_text : List Str := ["text"]
def M_require_text := mir N_require_text 1 m_require_text
def m_numbers_text : SM := (mSeq (mRet (liR (dM1 mJoin (dC (.str " ")) (dLc (dItems (dVar 0)) (gtN 1) dYes (dBi bStr (dCons (dVar 1) dNil)) [1]))))
  mNil)
abbrev N_numbers_text : List Str := ["numbers", "number"]
def M_numbers_text := mir N_numbers_text 1 m_numbers_text
def m_word_text : SM := (mSeq (mRet (liR (dIf (dB (dOp oNe (dVar 0) (dTup dNil))) (dM1 mJoin (dC (.str " ")) (dVar 0)) (dC (.str "-")))))
  mNil)
abbrev N_word_text : List Str := ["word"]
def M_word_text := mir N_word_text 1 m_word_text
def m_word_in : SM := (mSeq (mSet 2 (liR (dIf (dB (dOp oEq (dVar 1) (dC (.str "-")))) (dTup dNil) (dBi bTuple (dCons (dM1 mSplit (dVar 1) (dC (.str " "))) dNil)))))
  (mSeq (mIf (liR (dOr (dNot (dB (dCall M_is_word_of (dCons (dVar 0) (dCons (dVar 2) dNil))))) (dB (dOp oGt (dBi bLen (dCons (dVar 2) dNil)) (dC (.int 200))))))
  (mSeq (mRaise "ParseError")
  mNil)
  mNil)
  (mSeq (mRet (liR (dVar 2)))
  mNil)))
abbrev N_word_in : List Str := ["alphabet", "text", "found"]
def M_word_in := mir N_word_in 2 m_word_in
def m_format_word : SM := (mSeq (mDrop (liR (dCall M_require_alphabet (dCons (dVar 0) dNil))))
  (mSeq (mDrop (liR (dCall M_require_word (dCons (dVar 0) (dCons (dVar 1) dNil)))))
  (mSeq (mRet (liR (dCall M_word_text (dCons (dVar 1) dNil))))
  mNil)))
abbrev N_format_word : List Str := ["alphabet", "word"]
def M_format_word := mir N_format_word 2 m_format_word
def m_parse_word : SM := (mSeq (mDrop (liR (dCall M_require_alphabet (dCons (dVar 0) dNil))))
  (mSeq (mDrop (liR (dCall M_require_text (dCons (dVar 1) dNil))))
  (mSeq (mRet (liR (dCall M_word_in (dCons (dVar 0) (dCons (dVar 1) dNil)))))
  mNil)))
abbrev N_parse_word : List Str := ["alphabet", "text"]
def M_parse_word := mir N_parse_word 2 m_parse_word
def m_format_vector : SM := (mSeq (mIf (liR (dNot (dB (dCall M_is_vector (dCons (dVar 0) dNil)))))
  (mSeq (mRaise "InvalidVector")
  mNil)
  mNil)
  (mSeq (mRet (liR (dCall M_numbers_text (dCons (dVar 0) dNil))))
  mNil))
abbrev N_format_vector : List Str := ["vector"]
def M_format_vector := mir N_format_vector 1 m_format_vector
def m_parse_vector : SM := (mSeq (mDrop (liR (dCall M_require_text (dCons (dVar 0) dNil))))
  (mSeq (mSet 1 (liR (dBi bTuple (dCons (dLc (dItems (dM1 mSplit (dVar 0) (dC (.str " ")))) (gtN 2) dYes (dCall M_number_in (dCons (dVar 2) dNil)) [2]) dNil))))
  (mSeq (mIf (liR (dNot (dB (dCall M_is_vector (dCons (dVar 1) dNil)))))
  (mSeq (mRaise "ParseError")
  mNil)
  mNil)
  (mSeq (mRet (liR (dVar 1)))
  mNil))))
abbrev N_parse_vector : List Str := ["text", "found", "part"]
def M_parse_vector := mir N_parse_vector 1 m_parse_vector
def m_fraction_text : SM := (mSeq (mAsg (gtSeq 2 (gtCons (gtN 1) (gtCons (gtN 2) gtNil))) (liR (dVar 0)))
  (mSeq (mRet (liR (dIf (dB (dOp oEq (dVar 2) (dC (.int 1)))) (dBi bStr (dCons (dVar 1) dNil)) (dJoined ((dFmt (dVar 1)) :: ((dC (.str "/")) :: ((dFmt (dVar 2)) :: [])))))))
  mNil))
abbrev N_fraction_text : List Str := ["fraction", "top", "below"]
def M_fraction_text := mir N_fraction_text 1 m_fraction_text
def m_format_fraction : SM := (mSeq (mDrop (liR (dCall M_require_fraction (dCons (dVar 0) dNil))))
  (mSeq (mRet (liR (dCall M_fraction_text (dCons (dVar 0) dNil))))
  mNil))
abbrev N_format_fraction : List Str := ["fraction"]
def M_format_fraction := mir N_format_fraction 1 m_format_fraction
def m_parse_fraction : SM := (mSeq (mDrop (liR (dCall M_require_text (dCons (dVar 0) dNil))))
  (mSeq (mAsg (gtSeq 3 (gtCons (gtN 2) (gtCons (gtN 3) (gtCons (gtN 4) gtNil)))) (liR (dM1 mPart (dVar 0) (dC (.str "/")))))
  (mSeq (mSet 1 (liR (dTup (dCons (dCall M_number_in (dCons (dVar 2) dNil)) (dCons (dIf (dB (dOp oNe (dVar 3) (dC (.str "")))) (dCall M_number_in (dCons (dVar 4) dNil)) (dC (.int 1))) dNil)))))
  (mSeq (mIf (liR (dOr (dNot (dB (dCall M_is_fraction (dCons (dVar 1) dNil)))) (dAnd (dB (dOp oNe (dVar 3) (dC (.str "")))) (dB (dOp oEq (dOp oIx (dVar 1) (dC (.int 1))) (dC (.int 1)))))))
  (mSeq (mRaise "ParseError")
  mNil)
  mNil)
  (mSeq (mRet (liR (dVar 1)))
  mNil)))))
abbrev N_parse_fraction : List Str := ["text", "found", "top", "sign", "below"]
def M_parse_fraction := mir N_parse_fraction 1 m_parse_fraction
def m__law_stream : SM := (mSeq (mSet 2 (liR (dOp oAdd (dOp oMul (dC (.int 13)) (dVar 1)) (dC (.int 6)))))
  (mSeq (mIf (liR (dB (dOp oLt (dVar 1) (dBi bLen (dCons (dVar 0) dNil)))))
  (mSeq (mSet 2 (liR (dOp oIx (dVar 0) (dVar 1))))
  mNil)
  mNil)
  (mSeq (mSet 3 (liR (dOp oMod (dBi bAbs (dCons (dVar 2) dNil)) (dOp oPow (dOp oPow (dC (.int 10)) (dC (.int 60))) (dC (.int 11))))))
  (mSeq (mSet 4 (liR (dOp oMod (dOp oAdd (dOp oAdd (dOp oAdd (dOp oMul (dOp oMod (dVar 3) (dC (.int 2147483579))) (dC (.int 48271))) (dOp oMul (dC (.int 92821)) (dVar 1))) (dOp oMul (dC (.int 5)) (dBi bInt (dCons (dOp oLt (dVar 2) (dC (.int 0))) dNil)))) (dC (.int 29))) (dC (.int 2147483563)))))
  (mSeq (mRetN (nLst (sCons (lS (dBi bMax2 (dCons (dC (.int 0)) (dCons (dOp oAdd (dOp oSub (dVar 3) (dOp oPow (dC (.int 10)) (dC (.int 18)))) (dC (.int 1))) dNil)))) (sCons (lS (dVar 4)) (sCons (lS (dC (.int 0))) sNil)))))
  mNil)))))
abbrev N__law_stream : List Str := ["script", "at", "cell", "great", "mixed"]
def M__law_stream := mirN N__law_stream 2 m__law_stream
def m__law_draw : SM := (mSeq (mIf (liR (dB (dOp oGt (dOp oIx (dOwn 0) (dC (.int 0))) (dC (.int 0)))))
  (mSeq (mSet 4 (liR (dOp oMod (dOp oIx (dOwn 0) (dC (.int 0))) (dVar 1))))
  (mSeq (mSetIx 0 0 (liR (dOp oFDiv (dOp oIx (dOwn 0) (dC (.int 0))) (dVar 1))))
  (mSeq (mRet (liR (dVar 4)))
  mNil)))
  mNil)
  (mSeq (mSetIx 0 2 (liR (dOp oAdd (dOp oIx (dOwn 0) (dC (.int 2))) (dC (.int 1)))))
  (mSeq (mSet 2 (liR (dOp oMod (dOp oAdd (dOp oIx (dOwn 0) (dC (.int 1))) (dOp oMul (dC (.int 1000037)) (dOp oIx (dOwn 0) (dC (.int 2))))) (dC (.int 2305843009213693951)))))
  (mSeq (mSet 3 (liR (dOp oMod (dOp oAdd (dOp oMul (dOp oMod (dOp oMul (dVar 2) (dVar 2)) (dC (.int 2305843009213693921))) (dVar 2)) (dOp oMul (dC (.int 7907)) (dOp oIx (dOwn 0) (dC (.int 2))))) (dC (.int 2305843009213693907)))))
  (mSeq (mRet (liR (dOp oMod (dOp oFDiv (dVar 3) (dC (.int 4099))) (dVar 1))))
  mNil)))))
abbrev N__law_draw : List Str := ["stream", "total", "one", "two", "found"]
def M__law_draw := mirL N__law_draw 2 m__law_draw
def m__law_pick : SM := (mSeq (mRet (liO (sOp oIx (lS (dVar 1)) (sCallL 0 M__law_draw (sCons (lS (dBi bLen (dCons (dVar 1) dNil))) sNil)))))
  mNil)
abbrev N__law_pick : List Str := ["stream", "items"]
def M__law_pick := mirL N__law_pick 2 m__law_pick
def fu__law_mixed (ρ : Rho) : Nat := match ρ[2]? with
  | some (Itm.own l) => l.length + 1
  | _ => 0
def m__law_mixed : SM := (mSeq (mNew2 2 3 (nList (sCons (lS (dVar 1)) sNil)) (nLst sNil))
  (mSeq (mWhile fu__law_mixed (liR (dB (dOp oNe (dOwn 2) (dLst dNil))))
  (mSeq (mDrop (liO (sOwn 3 mAppend (sCons (sOwn 2 mPopAt (sCons (sCallL 0 M__law_draw (sCons (lS (dBi bLen (dCons (dOwn 2) dNil))) sNil)) sNil)) sNil))))
  mNil))
  (mFrz 3 (mSeq (mRet (liR (dVar 3)))
  mNil))))
abbrev N__law_mixed : List Str := ["stream", "items", "left", "found"]
def M__law_mixed := mirL N__law_mixed 2 m__law_mixed
def m__law_alphabet : SM := (mSeq (mSet 2 (liR (dLst (dCons (dC (.str "a")) (dCons (dC (.str "b")) (dCons (dC (.str "c")) (dCons (dC (.str "done")) (dCons (dC (.str "go")) (dCons (dC (.str "load")) (dCons (dC (.str "p")) (dCons (dC (.str "ship")) (dCons (dC (.str "wait")) (dCons (dC (.str "x")) dNil)))))))))))))
  (mSeq (mRet (liO (sBi bTuple (sCons (sBi bSorted (sCons (sSl (sCallL 0 M__law_mixed (sCons (lS (dVar 2)) sNil)) dNo (dSo (dVar 1))) sNil)) sNil))))
  mNil))
abbrev N__law_alphabet : List Str := ["stream", "total", "some"]
def M__law_alphabet := mirL N__law_alphabet 2 m__law_alphabet
def m__law_word : SM := (mSeq (mRet (liO (sBi bTuple (sCons (sLc (sRng (sCons (sCallL 0 M__law_draw (sCons (lS (dOp oAdd (dVar 2) (dC (.int 1)))) sNil)) sNil)) (gtN 3) sYes (sCallL 0 M__law_pick (sCons (lS (dVar 1)) sNil)) [3]) sNil))))
  mNil)
abbrev N__law_word : List Str := ["stream", "alphabet", "high", "turn"]
def M__law_word := mirL N__law_word 3 m__law_word
def m__law_is_word : SM := (mSeq (mIf (liR (dNot (dB (dIsi "tuple" (dVar 1)))))
  (mSeq (mRet (liR (dC (.bool false))))
  mNil)
  mNil)
  (mSeq (mRet (liR (dOp oEq (dLc (dItems (dVar 1)) (gtN 2) (dOr (dNot (dB (dIsi "str" (dVar 2)))) (dB (dOp oNotIn (dVar 2) (dVar 0)))) (dC (.int 1)) [2]) (dLst dNil))))
  mNil))
abbrev N__law_is_word : List Str := ["alphabet", "value", "action"]
def M__law_is_word := mir N__law_is_word 2 m__law_is_word
def fu__law_common (ρ : Rho) : Nat := match ρ[1]? with
  | some (Itm.dat (PyData.int i)) => i.toNat + 1
  | _ => 0
def m__law_common : SM := (mSeq (mWhile fu__law_common (liR (dB (dOp oGt (dVar 1) (dC (.int 0)))))
  (mSeq (mPar 0 1 (liR (dCons (dVar 1) (dCons (dOp oMod (dVar 0) (dVar 1)) dNil))))
  mNil))
  (mSeq (mRet (liR (dVar 0)))
  mNil))
abbrev N__law_common : List Str := ["one", "other"]
def M__law_common := mir N__law_common 2 m__law_common
def m__law_spoilt : SM := (mSeq (mPar 3 4 (liO (sCons (sCallL 0 M__law_draw (sCons (lS (dOp oAdd (dBi bLen (dCons (dVar 1) dNil)) (dC (.int 1)))) sNil)) (sCons (sCallL 0 M__law_draw (sCons (lS (dC (.int 3))) sNil)) sNil))))
  (mSeq (mSet 2 (liR (dLst (dCons (dC (.str "")) (dCons (dC (.str "")) (dCons (dC (.str " ")) (dCons (dC (.str "0")) (dCons (dC (.str "1")) (dCons (dC (.str "7")) (dCons (dC (.str "-")) (dCons (dC (.str "/")) (dCons (dC (.str "a")) (dCons (dC (.str "b")) (dCons (dC (.str "x")) (dCons (dC (.str ",")) (dCons (dC (.str ";")) (dCons (dC (.str "\n")) (dCons (dC (.str "  ")) (dCons (dC (.str "01")) (dCons (dC (.str "A")) (dCons (dC (.str "\t")) dNil)))))))))))))))))))))
  (mSeq (mRet (liO (sOp oAdd (sOp oAdd (lS (dSl (dVar 1) dNo (dSo (dVar 3)))) (sCallL 0 M__law_pick (sCons (lS (dOp oAdd (dVar 2) (dLst (dCons (dC (.str "; ")) (dCons (dC (.str ", ")) (dCons (dC (.str "+1")) dNil)))))) sNil))) (lS (dSl (dVar 1) (dSo (dOp oAdd (dVar 3) (dVar 4))) dNo)))))
  mNil)))
abbrev N__law_spoilt : List Str := ["stream", "text", "some", "at", "gone"]
def M__law_spoilt := mirL N__law_spoilt 2 m__law_spoilt
def m__law_number : SM := (mSeq (mSet 1 (liR (dIf (dB (dOp oEq (dSl (dVar 0) dNo (dSo (dC (.int 1)))) (dC (.str "-")))) (dSl (dVar 0) (dSo (dC (.int 1))) dNo) (dVar 0))))
  (mSeq (mIf (liR (dOr (dNot (dB (dChain oLe oLe (dC (.int 1)) (dBi bLen (dCons (dVar 1) dNil)) (dC (.int 40))))) (dB (dOp oNe (dLc (dItems (dVar 1)) (gtN 2) (dB (dOp oNotIn (dVar 2) (dC (.str "0123456789")))) (dVar 2) [2]) (dLst dNil)))))
  (mSeq (mRet (liR (dC .none)))
  mNil)
  mNil)
  (mSeq (mRet (liR (dIf (dAnd (dB (dOp oEq (dOp oIx (dVar 1) (dC (.int 0))) (dC (.str "0")))) (dB (dOp oNe (dVar 0) (dC (.str "0"))))) (dC .none) (dLst (dCons (dBi bInt (dCons (dVar 0) dNil)) dNil)))))
  mNil)))
abbrev N__law_number : List Str := ["text", "digits", "sign"]
def M__law_number := mir N__law_number 1 m__law_number
def m__law_numbers : SM := (mSeq (mNew 1 (nLst sNil))
  (mSeq (mFor (liR (dItems (dVar 0))) (gtN 2)
  (mSeq (mSet 3 (liR (dCall M__law_number (dCons (dVar 2) dNil))))
  (mSeq (mIf (liR (dB (dOp oIsN (dVar 3) (dC .none))))
  (mSeq (mRet (liR (dC .none)))
  mNil)
  mNil)
  (mSeq (mDrop (liO (sOwn 1 mAppend (sCons (lS (dOp oIx (dVar 3) (dC (.int 0)))) sNil))))
  mNil))))
  (mFrz 1 (mSeq (mRet (liR (dVar 1)))
  mNil))))
abbrev N__law_numbers : List Str := ["texts", "found", "text", "number"]
def M__law_numbers := mir N__law_numbers 1 m__law_numbers
def m__law_no_text : SM := (mSeq (mSet 1 (liR (dLst (dCons (dC .none) (dCons (dC (.int 7)) (dCons (dC (.bool true)) (dCons (dTup dNil) (dCons (dLst (dCons (dC (.str "a")) dNil)) (dCons (dC (.dict [])) (dCons (dTup (dCons (dC (.str "a")) dNil)) (dCons (dC (.str "")) (dCons (dC (.str " ")) (dCons (dC (.str "\n")) (dCons (dC (.str "A")) (dCons (dC (.str "- ")) (dCons (dC (.str "--")) (dCons (dC (.str "1 ")) (dCons (dC (.str " 1")) (dCons (dC (.str "a  b")) (dCons (dC (.str "1;")) (dCons (dC (.str "; 2")) dNil)))))))))))))))))))))
  (mSeq (mRet (liO (sCallL 0 M__law_pick (sCons (lS (dOp oAdd (dVar 1) (dLst (dCons (dOp oMul (dC (.str "a")) (dC (.int 300))) (dCons (dC (.str "-0")) (dCons (dC (.str "+1")) (dCons (dC (.str "1.0")) (dCons (dC (.str "1_0")) (dCons (dC (.str "\t")) dNil))))))))) sNil))))
  mNil))
abbrev N__law_no_text : List Str := ["stream", "some"]
def M__law_no_text := mirL N__law_no_text 1 m__law_no_text
def m__law_integer : SM := (mSeq (mSet 1 (liO (sLst (sCons (lS (dC (.int 0))) (sCons (lS (dC (.int 1))) (sCons (lS (dC (.int 2))) (sCons (lS (dC (.int 10))) (sCons (lS (dC (.int 12))) (sCons (lS (dC (.int 907))) (sCons (sCallL 0 M__law_draw (sCons (lS (dC (.int 100))) sNil)) (sCons (sOp oAdd (lS (dOp oPow (dC (.int 10)) (dC (.int 39)))) (sCallL 0 M__law_draw (sCons (lS (dC (.int 7))) sNil))) sNil)))))))))))
  (mSeq (mRet (liO (sOp oMul (sOp oIx (lS (dLst (dCons (dC (.int 1)) (dCons (dNeg (dC (.int 1))) dNil)))) (sCallL 0 M__law_draw (sCons (lS (dC (.int 2))) sNil))) (sCallL 0 M__law_pick (sCons (lS (dVar 1)) sNil)))))
  mNil))
abbrev N__law_integer : List Str := ["stream", "some"]
def M__law_integer := mirL N__law_integer 1 m__law_integer
def m__law_lowest : SM := (mSeq (mSet 2 (liR (dCall M__law_common (dCons (dBi bAbs (dCons (dVar 0) dNil)) (dCons (dVar 1) dNil)))))
  (mSeq (mRet (liR (dTup (dCons (dOp oFDiv (dVar 0) (dVar 2)) (dCons (dOp oFDiv (dVar 1) (dVar 2)) dNil)))))
  mNil))
abbrev N__law_lowest : List Str := ["top", "below", "common"]
def M__law_lowest := mir N__law_lowest 2 m__law_lowest
def m__law_word_due : SM := (mSeq (mSet 2 (liR (dIf (dB (dOp oEq (dVar 1) (dC (.str "-")))) (dTup dNil) (dBi bTuple (dCons (dM1 mSplit (dVar 1) (dC (.str " "))) dNil)))))
  (mSeq (mRet (liR (dIf (dAnd (dB (dOp oLt (dBi bLen (dCons (dVar 2) dNil)) (dC (.int 201)))) (dB (dCall M__law_is_word (dCons (dVar 0) (dCons (dVar 2) dNil))))) (dLst (dCons (dVar 2) dNil)) (dC .none))))
  mNil))
abbrev N__law_word_due : List Str := ["alphabet", "text", "word"]
def M__law_word_due := mir N__law_word_due 2 m__law_word_due
def m__law_vector_due : SM := (mSeq (mSet 1 (liR (dCall M__law_numbers (dCons (dM1 mSplit (dVar 0) (dC (.str " "))) dNil))))
  (mSeq (mRet (liR (dIf (dOr (dB (dOp oIsN (dVar 1) (dC .none))) (dB (dOp oGt (dBi bLen (dCons (dVar 1) dNil)) (dC (.int 5))))) (dC .none) (dLst (dCons (dBi bTuple (dCons (dVar 1) dNil)) dNil)))))
  mNil))
abbrev N__law_vector_due : List Str := ["text", "found"]
def M__law_vector_due := mir N__law_vector_due 1 m__law_vector_due
def m__law_fraction_due : SM := (mSeq (mSet 1 (liR (dCall M__law_numbers (dCons (dM1 mSplit (dVar 0) (dC (.str "/"))) dNil))))
  (mSeq (mIf (liR (dOr (dB (dOp oIsN (dVar 1) (dC .none))) (dB (dOp oGt (dBi bLen (dCons (dVar 1) dNil)) (dC (.int 2))))))
  (mSeq (mRet (liR (dC .none)))
  mNil)
  mNil)
  (mSeq (mIf (liR (dB (dOp oEq (dBi bLen (dCons (dVar 1) dNil)) (dC (.int 1)))))
  (mSeq (mRet (liR (dLst (dCons (dTup (dCons (dOp oIx (dVar 1) (dC (.int 0))) (dCons (dC (.int 1)) dNil))) dNil))))
  mNil)
  mNil)
  (mSeq (mAsg (gtSeq 2 (gtCons (gtN 2) (gtCons (gtN 3) gtNil))) (liR (dVar 1)))
  (mSeq (mRet (liR (dIf (dAnd (dB (dOp oGt (dVar 3) (dC (.int 1)))) (dB (dOp oEq (dCall M__law_common (dCons (dBi bAbs (dCons (dVar 2) dNil)) (dCons (dVar 3) dNil))) (dC (.int 1))))) (dLst (dCons (dTup (dCons (dVar 2) (dCons (dVar 3) dNil))) dNil)) (dC .none))))
  mNil)))))
abbrev N__law_fraction_due : List Str := ["text", "found", "top", "below"]
def M__law_fraction_due := mir N__law_fraction_due 1 m__law_fraction_due
def m__law_right : SM := (mSeq (mSet 2 (liO (sCallL 0 M__law_word (sCons (lS (dVar 1)) (sCons (lS (dC (.int 9))) sNil)))))
  (mSeq (mSet 3 (liO (sBi bTuple (sCons (sLc (sRng (sCons (sOp oAdd (lS (dC (.int 1))) (sCallL 0 M__law_draw (sCons (lS (dC (.int 5))) sNil))) sNil)) (gtN 7) sYes (sCallL 0 M__law_integer sNil) [7]) sNil))))
  (mSeq (mSet 4 (liO (sCall M__law_lowest (sCons (sCallL 0 M__law_integer sNil) (sCons (sBi bMax2 (sCons (lS (dC (.int 1))) (sCons (sCallL 0 M__law_integer sNil) sNil))) sNil)))))
  (mSeq (mNew 5 (nLst (sCons (lS (dIf (dB (dOp oNe (dVar 2) (dTup dNil))) (dM1 mJoin (dC (.str " ")) (dVar 2)) (dC (.str "-")))) (sCons (lS (dM1 mJoin (dC (.str " ")) (dLc (dItems (dVar 3)) (gtN 13) dYes (dBi bStr (dCons (dVar 13) dNil)) [13]))) sNil))))
  (mSeq (mDrop (liO (sOwn 5 mAppend (sCons (lS (dIf (dB (dOp oEq (dOp oIx (dVar 4) (dC (.int 1))) (dC (.int 1)))) (dBi bStr (dCons (dOp oIx (dVar 4) (dC (.int 0))) dNil)) (dOp oAdd (dOp oAdd (dBi bStr (dCons (dOp oIx (dVar 4) (dC (.int 0))) dNil)) (dC (.str "/"))) (dBi bStr (dCons (dOp oIx (dVar 4) (dC (.int 1))) dNil))))) sNil))))
  (mFrz 5 (mSeq (mIf (liR (dB (dOp oNe (dLst (dCons (dCall M_format_word (dCons (dVar 1) (dCons (dVar 2) dNil))) (dCons (dCall M_format_vector (dCons (dVar 3) dNil)) (dCons (dCall M_format_fraction (dCons (dVar 4) dNil)) dNil)))) (dVar 5))))
  (mSeq (mRet (liR (dC (.bool false))))
  mNil)
  mNil)
  (mSeq (mSet 6 (liR (dLst (dCons (dCall M_parse_word (dCons (dVar 1) (dCons (dOp oIx (dVar 5) (dC (.int 0))) dNil))) (dCons (dCall M_parse_vector (dCons (dOp oIx (dVar 5) (dC (.int 1))) dNil)) (dCons (dCall M_parse_fraction (dCons (dOp oIx (dVar 5) (dC (.int 2))) dNil)) dNil))))))
  (mSeq (mIf (liR (dB (dOp oNe (dBi bRepr (dCons (dVar 6) dNil)) (dBi bRepr (dCons (dLst (dCons (dVar 2) (dCons (dVar 3) (dCons (dVar 4) dNil)))) dNil)))))
  (mSeq (mRet (liR (dC (.bool false))))
  mNil)
  mNil)
  (mSeq (mFor (liR (dRng (dCons (dC (.int 6)) dNil))) (gtN 7)
  (mSeq (mAsg (gtSeq 3 (gtCons (gtN 9) (gtCons (gtN 10) (gtCons (gtN 11) gtNil)))) (liO (sLc (lSs (dItems (dVar 5))) (gtN 12) sYes (sCallL 0 M__law_spoilt (sCons (lS (dVar 12)) sNil)) [12])))
  (mSeq (mIf (liO (sB (sOp oNe (sBi bRepr (sCons (sTry isPE (dCall M_parse_word (dCons (dVar 1) (dCons (dVar 9) dNil)))) sNil)) (lS (dBi bRepr (dCons (dCall M__law_word_due (dCons (dVar 1) (dCons (dVar 9) dNil))) dNil))))))
  (mSeq (mRet (liR (dC (.bool false))))
  mNil)
  mNil)
  (mSeq (mIf (liO (sB (sOp oNe (sBi bRepr (sCons (sTry isPE (dCall M_parse_vector (dCons (dVar 10) dNil))) sNil)) (lS (dBi bRepr (dCons (dCall M__law_vector_due (dCons (dVar 10) dNil)) dNil))))))
  (mSeq (mRet (liR (dC (.bool false))))
  mNil)
  mNil)
  (mSeq (mIf (liO (sB (sOp oNe (sBi bRepr (sCons (sTry isPE (dCall M_parse_fraction (dCons (dVar 11) dNil))) sNil)) (lS (dBi bRepr (dCons (dCall M__law_fraction_due (dCons (dVar 11) dNil)) dNil))))))
  (mSeq (mRet (liR (dC (.bool false))))
  mNil)
  mNil)
  mNil)))))
  (mSeq (mSet 8 (liO (sCallL 0 M__law_no_text sNil)))
  (mSeq (mNew 6 (nLst (sCons (sTry isPE (dCall M_parse_word (dCons (dVar 1) (dCons (dVar 8) dNil)))) sNil)))
  (mSeq (mDrop (liO (sOwn 6 mAppend (sCons (sTry isPE (dCall M_parse_vector (dCons (dVar 8) dNil))) sNil))))
  (mFrz 6 (mSeq (mRet (liO (sOp oEq (sOp oAdd (lS (dVar 6)) (sLst (sCons (sTry isPE (dCall M_parse_fraction (dCons (dVar 8) dNil))) sNil))) (lS (dRep (dCons (dC .none) dNil) (dC (.int 3)))))))
  mNil)))))))))))))))
abbrev N__law_right : List Str := ["stream", "alphabet", "word", "vector", "share", "texts", "found", "turn", "odd", "one", "two", "three", "text", "number"]
def M__law_right := mirL N__law_right 2 m__law_right
def m_law : SM := (mSeq (mFor (liR (dRng (dCons (dBi bMax2 (dCons (dC (.int 1)) (dCons (dBi bMin2 (dCons (dC (.int 8)) (dCons (dBi bLen (dCons (dVar 0) dNil)) dNil))) dNil))) dNil))) (gtN 1)
  (mSeq (mNew 4 (nCall M__law_stream (sCons (lS (dVar 0)) (sCons (lS (dVar 1)) sNil))))
  (mSeq (mSet 5 (liO (sCallL 4 M__law_alphabet (sCons (sOp oAdd (lS (dC (.int 1))) (sCallL 4 M__law_draw (sCons (lS (dC (.int 5))) sNil))) sNil))))
  (mSeq (mFor (liR (dRng (dCons (dC (.int 3)) dNil))) (gtN 6)
  (mSeq (mIf (liO (sNotT (sB (sCallL 4 M__law_right (sCons (lS (dVar 5)) sNil)))))
  (mSeq (mRet (liR (dC (.bool false))))
  mNil)
  mNil)
  mNil))
  mNil))))
  (mSeq (mSet 2 (liR (dTup (dCons (dC (.str "a")) (dCons (dC (.str "eightsgn")) dNil)))))
  (mSeq (mIf (liR (dB (dOp oNe (dCall M_parse_word (dCons (dVar 2) (dCons (dM1 mJoin (dC (.str " ")) (dRep (dCons (dC (.str "eightsgn")) dNil) (dC (.int 200)))) dNil))) (dOp oMul (dTup (dCons (dC (.str "eightsgn")) dNil)) (dC (.int 200))))))
  (mSeq (mRet (liR (dC (.bool false))))
  mNil)
  mNil)
  (mSeq (mIf (liO (sB (sOp oNotN (sTry isPE (dCall M_parse_word (dCons (dVar 2) (dCons (dM1 mJoin (dC (.str " ")) (dRep (dCons (dC (.str "a")) dNil) (dC (.int 201)))) dNil)))) (lS (dC .none)))))
  (mSeq (mRet (liR (dC (.bool false))))
  mNil)
  mNil)
  (mSeq (mSet 3 (liR (dLst (dCons (dOp oAdd (dC (.str "1")) (dOp oMul (dC (.str "0")) (dC (.int 40)))) (dCons (dOp oAdd (dC (.str "-1")) (dOp oMul (dC (.str "0")) (dC (.int 40)))) (dCons (dOp oMul (dC (.str "9")) (dC (.int 5000))) (dCons (dOp oAdd (dC (.str "-")) (dOp oMul (dC (.str "1")) (dC (.int 5000)))) (dCons (dOp oAdd (dC (.str "1 ")) (dOp oMul (dC (.str "7")) (dC (.int 6000)))) dNil))))))))
  (mSeq (mIf (liO (sB (sOp oNe (sLc (lSs (dItems (dVar 3))) (gtN 9) (sB (sOp oNotN (sTry isPE (dCall M_parse_vector (dCons (dVar 9) dNil))) (lS (dC .none)))) (lS (dVar 9)) [9]) (lS (dLst dNil)))))
  (mSeq (mRet (liR (dC (.bool false))))
  mNil)
  mNil)
  (mSeq (mSet 3 (liR (dLst (dCons (dOp oAdd (dC (.str "1")) (dOp oMul (dC (.str "0")) (dC (.int 40)))) (dCons (dOp oMul (dC (.str "9")) (dC (.int 5000))) (dCons (dOp oAdd (dOp oMul (dC (.str "9")) (dC (.int 5000))) (dC (.str "/2"))) (dCons (dOp oAdd (dC (.str "1/")) (dOp oMul (dC (.str "3")) (dC (.int 5000)))) (dCons (dOp oAdd (dC (.str "1/1")) (dOp oMul (dC (.str "0")) (dC (.int 40)))) dNil))))))))
  (mSeq (mIf (liO (sB (sOp oNe (sLc (lSs (dItems (dVar 3))) (gtN 9) (sB (sOp oNotN (sTry isPE (dCall M_parse_fraction (dCons (dVar 9) dNil))) (lS (dC .none)))) (lS (dVar 9)) [9]) (lS (dLst dNil)))))
  (mSeq (mRet (liR (dC (.bool false))))
  mNil)
  mNil)
  (mSeq (mAsg (gtSeq 2 (gtCons (gtN 7) (gtCons (gtN 8) gtNil))) (liR (dTup (dCons (dOp oMul (dC (.str "9")) (dC (.int 40))) (dCons (dOp oSub (dOp oPow (dC (.int 10)) (dC (.int 40))) (dC (.int 1))) dNil)))))
  (mSeq (mIf (liR (dB (dOp oNe (dLst (dCons (dCall M_parse_vector (dCons (dOp oAdd (dC (.str "1 -")) (dVar 7)) dNil)) (dCons (dCall M_parse_fraction (dCons (dOp oAdd (dVar 7) (dC (.str "/2"))) dNil)) dNil))) (dLst (dCons (dTup (dCons (dC (.int 1)) (dCons (dOp oSub (dC (.int 0)) (dVar 8)) dNil))) (dCons (dTup (dCons (dVar 8) (dCons (dC (.int 2)) dNil))) dNil))))))
  (mSeq (mRet (liR (dC (.bool false))))
  mNil)
  mNil)
  (mSeq (mIf (liR (dB (dOp oNe (dLst (dCons (dCall M_format_vector (dCons (dTup (dCons (dVar 8) (dCons (dC (.int 0)) dNil))) dNil)) (dCons (dCall M_format_fraction (dCons (dTup (dCons (dC (.int 1)) (dCons (dVar 8) dNil))) dNil)) dNil))) (dLst (dCons (dOp oAdd (dVar 7) (dC (.str " 0"))) (dCons (dOp oAdd (dC (.str "1/")) (dVar 7)) dNil))))))
  (mSeq (mRet (liR (dC (.bool false))))
  mNil)
  mNil)
  (mSeq (mIf (liO (sB (sOp oNotN (sTry isPE (dCall M_parse_vector (dCons (dOp oAdd (dC (.str "0")) (dVar 7)) dNil))) (lS (dC .none)))))
  (mSeq (mRet (liR (dC (.bool false))))
  mNil)
  mNil)
  (mSeq (mIf (liO (sB (sOp oNotN (sTry isPE (dCall M_parse_fraction (dCons (dOp oAdd (dOp oAdd (dVar 7) (dC (.str "/"))) (dVar 7)) dNil))) (lS (dC .none)))))
  (mSeq (mRet (liR (dC (.bool false))))
  mNil)
  mNil)
  (mSeq (mRet (liR (dAndV (dOp oEq (dCall M_format_fraction (dCons (dTup (dCons (dNeg (dC (.int 3))) (dCons (dC (.int 2)) dNil))) dNil)) (dC (.str "-3/2"))) (dAndV (dOp oEq (dCall M_parse_fraction (dCons (dC (.str "0")) dNil)) (dTup (dCons (dC (.int 0)) (dCons (dC (.int 1)) dNil)))) (dOp oEq (dCall M_parse_vector (dCons (dC (.str "1 -2")) dNil)) (dTup (dCons (dC (.int 1)) (dCons (dNeg (dC (.int 2))) dNil))))))))
  mNil))))))))))))))
abbrev N_law : List Str := ["script", "at", "pair", "some", "stream", "alphabet", "turn", "digits", "great", "text"]
def M_law := mir N_law 1 m_law
end K77
end

section
set_option Elab.async false
set_option linter.all false
set_option maxRecDepth 100000
set_option maxHeartbeats 4000000
namespace K77
open D PySem L2 LamX
section
open PySem L2 LamX
variable {P : Program} {w : World} {K : Frag} {mg : Str → Option Value} {base : Heap} {T : List (Addr × Str)}
theorem sc__law_told : FnScope ["call"] ["call"] (defScope (top 50)) := ⟨rfl, rfl, rfl, by decide +kernel, rfl, by decide +kernel, by decide +kernel⟩
theorem sc_is_integer : FnScope N_is_integer ["value"] (defScope (top 12)) := ⟨rfl, rfl, rfl, by decide +kernel, rfl, by decide +kernel, by decide +kernel⟩
theorem b_is_integer (G : Gf K mg)  (f : Addr) (cdv : Value) (A : Around) (outer : List PySem.Env) (s : Shared) (H : Hp) (E : XK) (hr : Room 1 (Xb P w K mg base N_is_integer "is_integer" (top 12) f cdv A outer s H E).A) (tk : Takes (Xb P w K mg base N_is_integer "is_integer" (top 12) f cdv A outer s H E) (We E)) :
    SDs (Xb P w K mg base N_is_integer "is_integer" (top 12) f cdv A outer s H E) (We E) [] (defBody (top 12)) m_is_integer :=
  (k_seq (sd_ret (x_q (q_and (q_isi (T := "int") (vq (q_var 0)) G.b_isinstance G.b_int (by decide +kernel) (by decide) (by decide)) (q_one (q_not (q_isi (T := "bool") (vq (q_var 0)) G.b_isinstance G.b_bool (by decide +kernel) (by decide) (by decide)))))))
  k_nil)
theorem ok_is_integer {f : Addr} {fd : FuncData} (F : Fun K "is_integer" "is_integer" (top 12) f fd) (G : Gf K mg)  : FnOk P w K mg base (L2.CX P w) 2 f fd ["value"] (spF K mg 1 M_is_integer) :=
  fn_q F sc_is_integer fun cdv A outer s H E hr tk => b_is_integer G  f cdv A outer s H E hr tk
theorem sc_is_action : FnScope N_is_action ["value"] (defScope (top 13)) := ⟨rfl, rfl, rfl, by decide +kernel, rfl, by decide +kernel, by decide +kernel⟩
theorem b_is_action (G : Gf K mg)  (f : Addr) (cdv : Value) (A : Around) (outer : List PySem.Env) (s : Shared) (H : Hp) (E : XK) (hr : Room 1 (Xb P w K mg base N_is_action "is_action" (top 13) f cdv A outer s H E).A) (tk : Takes (Xb P w K mg base N_is_action "is_action" (top 13) f cdv A outer s H E) (We E)) :
    SDs (Xb P w K mg base N_is_action "is_action" (top 13) f cdv A outer s H E) (We E) [] (defBody (top 13)) m_is_action :=
  (k_seq (sd_if (xt_q (b_w (w_or (b_not (b_val (vq (q_isi (T := "str") (vq (q_var 0)) G.b_isinstance G.b_str (by decide +kernel) (by decide) (by decide))))) (w_or1 (b_not (b_chain s_le (op_leD hr.units) s_le (op_leD hr.units) (vq q_int) (vq (q_bi s_len call_lenAll G.b_len (vs_cons (vq (q_var 0)) vs_nil))) (vq (q_gint G.c_MAX_LETTERS))))))))
  (k_seq (sd_ret (x_q q_bl))
  k_nil)
  k_nil)
  (k_seq (sd_ret (x_q (q_bi s_all (cr_all rfl) G.b_all (vs_cons (vq (q_lc (own := [("letter", 1)]) rfl rfl rfl tk sc_is_action.nd (iv (i_any (q_var 0))) (by first | rfl | kernel_rfl) (wr_n (by decide)) (fun _ _ _ _ _ _ => (g_n sc_is_action.nd rfl (by first | exact Or.inl rfl | exact Or.inr rfl))) (fun Y V hY pas => by obtain ⟨s1, H1, C1, cl1, fp1, xe1, rfl⟩ := hY; exact bs_nil) (fun Y V hY pas => by obtain ⟨s1, H1, C1, cl1, fp1, xe1, rfl⟩ := hY; exact (q_cmp s_in op_inAll (vq (q_var 1)) (vq (q_gstr G.c_LETTERS)))))) vs_nil))))
  k_nil))
theorem ok_is_action {f : Addr} {fd : FuncData} (F : Fun K "is_action" "is_action" (top 13) f fd) (G : Gf K mg)  : FnOk P w K mg base (L2.CX P w) 2 f fd ["value"] (spF K mg 1 M_is_action) :=
  fn_q F sc_is_action fun cdv A outer s H E hr tk => b_is_action G  f cdv A outer s H E hr tk
theorem sc_is_alphabet : FnScope N_is_alphabet ["value"] (defScope (top 14)) := ⟨rfl, rfl, rfl, by decide +kernel, rfl, by decide +kernel, by decide +kernel⟩
theorem b_is_alphabet (G : Gf K mg) (c_is_action : Cal P w K mg base "is_action" 2 ["value"] (spF K mg 1 M_is_action)) (f : Addr) (cdv : Value) (A : Around) (outer : List PySem.Env) (s : Shared) (H : Hp) (E : XK) (hr : Room 2 (Xb P w K mg base N_is_alphabet "is_alphabet" (top 14) f cdv A outer s H E).A) (tk : Takes (Xb P w K mg base N_is_alphabet "is_alphabet" (top 14) f cdv A outer s H E) (We E)) :
    SDs (Xb P w K mg base N_is_alphabet "is_alphabet" (top 14) f cdv A outer s H E) (We E) [] (defBody (top 14)) m_is_alphabet :=
  (k_seq (sd_if (xt_q (b_w (w_or (b_not (b_val (vq (q_isi (T := "tuple") (vq (q_var 0)) G.b_isinstance G.b_tuple (by decide +kernel) (by decide) (by decide))))) (w_or1 (b_not (b_chain s_le (op_leD hr.units) s_le (op_leD hr.units) (vq q_int) (vq (q_bi s_len call_lenAll G.b_len (vs_cons (vq (q_var 0)) vs_nil))) (vq (q_gint G.c_MAX_ACTIONS))))))))
  (k_seq (sd_ret (x_q q_bl))
  k_nil)
  k_nil)
  (k_seq (sd_if (xt_q (b_not (b_val (vq (q_bi s_all (cr_all rfl) G.b_all (vs_cons (vq (q_lc (own := [("action", 1)]) rfl rfl rfl tk sc_is_alphabet.nd (iv (i_any (q_var 0))) (by first | rfl | kernel_rfl) (wr_n (by decide)) (fun _ _ _ _ _ _ => (g_n sc_is_alphabet.nd rfl (by first | exact Or.inl rfl | exact Or.inr rfl))) (fun Y V hY pas => by obtain ⟨s1, H1, C1, cl1, fp1, xe1, rfl⟩ := hY; exact bs_nil) (fun Y V hY pas => by obtain ⟨s1, H1, C1, cl1, fp1, xe1, rfl⟩ := hY; exact (q_call c_is_action mir_len pas (hr.mono (by decide)) (qs_cons (q_var 1) qs_nil))))) vs_nil))))))
  (k_seq (sd_ret (x_q q_bl))
  k_nil)
  k_nil)
  (k_seq (sd_ret (x_q (q_bi s_all (cr_all rfl) G.b_all (vs_cons (vq (q_lc (own := [("one", 2), ("other", 3)]) rfl rfl rfl tk sc_is_alphabet.nd (iv (i_zip (qs_cons (q_var 0) (qs_cons (q_sl (vq (q_var 0)) (o_some (vq q_int)) o_none) qs_nil)) G.b_zip)) (by first | rfl | kernel_rfl) (wr_seq (wr_cons (wr_n (by decide)) (wr_cons (wr_n (by decide)) wr_nil))) (fun _ _ _ _ _ _ => (g_tup (n := 2) rfl (gs_cons (g_n sc_is_alphabet.nd rfl (by first | exact Or.inl rfl | exact Or.inr rfl)) (gs_cons (g_n sc_is_alphabet.nd rfl (by first | exact Or.inl rfl | exact Or.inr rfl)) gs_nil)))) (fun Y V hY pas => by obtain ⟨s1, H1, C1, cl1, fp1, xe1, rfl⟩ := hY; exact bs_nil) (fun Y V hY pas => by obtain ⟨s1, H1, C1, cl1, fp1, xe1, rfl⟩ := hY; exact (q_cmp s_lt (op_ltD hr.units) (vq (q_var 2)) (vq (q_var 3)))))) vs_nil))))
  k_nil)))
theorem ok_is_alphabet {f : Addr} {fd : FuncData} (F : Fun K "is_alphabet" "is_alphabet" (top 14) f fd) (G : Gf K mg) (c_is_action : Cal P w K mg base "is_action" 2 ["value"] (spF K mg 1 M_is_action)) : FnOk P w K mg base (L2.CX P w) 3 f fd ["value"] (spF K mg 1 M_is_alphabet) :=
  fn_q F sc_is_alphabet fun cdv A outer s H E hr tk => b_is_alphabet G c_is_action f cdv A outer s H E hr tk
theorem sc_is_word_of : FnScope N_is_word_of ["alphabet", "value"] (defScope (top 15)) := ⟨rfl, rfl, rfl, by decide +kernel, rfl, by decide +kernel, by decide +kernel⟩
theorem b_is_word_of (G : Gf K mg)  (f : Addr) (cdv : Value) (A : Around) (outer : List PySem.Env) (s : Shared) (H : Hp) (E : XK) (hr : Room 1 (Xb P w K mg base N_is_word_of "is_word_of" (top 15) f cdv A outer s H E).A) (tk : Takes (Xb P w K mg base N_is_word_of "is_word_of" (top 15) f cdv A outer s H E) (We E)) :
    SDs (Xb P w K mg base N_is_word_of "is_word_of" (top 15) f cdv A outer s H E) (We E) [] (defBody (top 15)) m_is_word_of :=
  (k_seq (sd_ret (x_q (q_and (q_isi (T := "tuple") (vq (q_var 1)) G.b_isinstance G.b_tuple (by decide +kernel) (by decide) (by decide)) (q_one (q_bi s_all (cr_all rfl) G.b_all (vs_cons (vq (q_lc (own := [("action", 2)]) rfl rfl rfl tk sc_is_word_of.nd (iv (i_any (q_var 1))) (by first | rfl | kernel_rfl) (wr_n (by decide)) (fun _ _ _ _ _ _ => (g_n sc_is_word_of.nd rfl (by first | exact Or.inl rfl | exact Or.inr rfl))) (fun Y V hY pas => by obtain ⟨s1, H1, C1, cl1, fp1, xe1, rfl⟩ := hY; exact bs_nil) (fun Y V hY pas => by obtain ⟨s1, H1, C1, cl1, fp1, xe1, rfl⟩ := hY; exact (q_and (q_isi (T := "str") (vq (q_var 2)) G.b_isinstance G.b_str (by decide +kernel) (by decide) (by decide)) (q_one (q_cmp s_in op_inAll (vq (q_var 2)) (vq (q_var 0)))))))) vs_nil))))))
  k_nil)
theorem ok_is_word_of {f : Addr} {fd : FuncData} (F : Fun K "is_word_of" "is_word_of" (top 15) f fd) (G : Gf K mg)  : FnOk P w K mg base (L2.CX P w) 2 f fd ["alphabet", "value"] (spF K mg 2 M_is_word_of) :=
  fn_q F sc_is_word_of fun cdv A outer s H E hr tk => b_is_word_of G  f cdv A outer s H E hr tk
theorem sc_is_vector_of : FnScope N_is_vector_of ["size", "value"] (defScope (top 16)) := ⟨rfl, rfl, rfl, by decide +kernel, rfl, by decide +kernel, by decide +kernel⟩
theorem b_is_vector_of (G : Gf K mg) (c_is_integer : Cal P w K mg base "is_integer" 2 ["value"] (spF K mg 1 M_is_integer)) (f : Addr) (cdv : Value) (A : Around) (outer : List PySem.Env) (s : Shared) (H : Hp) (E : XK) (hr : Room 2 (Xb P w K mg base N_is_vector_of "is_vector_of" (top 16) f cdv A outer s H E).A) (tk : Takes (Xb P w K mg base N_is_vector_of "is_vector_of" (top 16) f cdv A outer s H E) (We E)) :
    SDs (Xb P w K mg base N_is_vector_of "is_vector_of" (top 16) f cdv A outer s H E) (We E) [] (defBody (top 16)) m_is_vector_of :=
  (k_seq (sd_ret (x_q (q_and (q_isi (T := "tuple") (vq (q_var 1)) G.b_isinstance G.b_tuple (by decide +kernel) (by decide) (by decide)) (q_and (q_cmp s_eq (op_eqD hr.units) (vq (q_bi s_len call_lenAll G.b_len (vs_cons (vq (q_var 1)) vs_nil))) (vq (q_var 0))) (q_one (q_bi s_all (cr_all rfl) G.b_all (vs_cons (vq (q_lc (own := [("number", 2)]) rfl rfl rfl tk sc_is_vector_of.nd (iv (i_any (q_var 1))) (by first | rfl | kernel_rfl) (wr_n (by decide)) (fun _ _ _ _ _ _ => (g_n sc_is_vector_of.nd rfl (by first | exact Or.inl rfl | exact Or.inr rfl))) (fun Y V hY pas => by obtain ⟨s1, H1, C1, cl1, fp1, xe1, rfl⟩ := hY; exact bs_nil) (fun Y V hY pas => by obtain ⟨s1, H1, C1, cl1, fp1, xe1, rfl⟩ := hY; exact (q_call c_is_integer mir_len pas (hr.mono (by decide)) (qs_cons (q_var 2) qs_nil))))) vs_nil)))))))
  k_nil)
theorem ok_is_vector_of {f : Addr} {fd : FuncData} (F : Fun K "is_vector_of" "is_vector_of" (top 16) f fd) (G : Gf K mg) (c_is_integer : Cal P w K mg base "is_integer" 2 ["value"] (spF K mg 1 M_is_integer)) : FnOk P w K mg base (L2.CX P w) 3 f fd ["size", "value"] (spF K mg 2 M_is_vector_of) :=
  fn_q F sc_is_vector_of fun cdv A outer s H E hr tk => b_is_vector_of G c_is_integer f cdv A outer s H E hr tk
theorem sc_require_alphabet : FnScope N_require_alphabet ["value"] (defScope (top 17)) := ⟨rfl, rfl, rfl, by decide +kernel, rfl, by decide +kernel, by decide +kernel⟩
theorem b_require_alphabet (G : Gf K mg) (c_is_alphabet : Cal P w K mg base "is_alphabet" 3 ["value"] (spF K mg 1 M_is_alphabet)) (f : Addr) (cdv : Value) (A : Around) (outer : List PySem.Env) (s : Shared) (H : Hp) (E : XK) (hr : Room 3 (Xb P w K mg base N_require_alphabet "require_alphabet" (top 17) f cdv A outer s H E).A) (tk : Takes (Xb P w K mg base N_require_alphabet "require_alphabet" (top 17) f cdv A outer s H E) (We E)) :
    SDs (Xb P w K mg base N_require_alphabet "require_alphabet" (top 17) f cdv A outer s H E) (We E) [] (defBody (top 17)) m_require_alphabet :=
  (k_seq (sd_if (xt_q (b_not (b_val (vq (q_call c_is_alphabet mir_len (pas_of tk) (hr.mono (by decide)) (qs_cons (q_var 0) qs_nil))))))
  (k_seq (k_raise tk G.e_InvalidAlphabet)
  k_nil)
  k_nil)
  k_nil)
theorem ok_require_alphabet {f : Addr} {fd : FuncData} (F : Fun K "require_alphabet" "require_alphabet" (top 17) f fd) (G : Gf K mg) (c_is_alphabet : Cal P w K mg base "is_alphabet" 3 ["value"] (spF K mg 1 M_is_alphabet)) : FnOk P w K mg base (L2.CX P w) 4 f fd ["value"] (spF K mg 1 M_require_alphabet) :=
  fn_q F sc_require_alphabet fun cdv A outer s H E hr tk => b_require_alphabet G c_is_alphabet f cdv A outer s H E hr tk
theorem sc_require_word : FnScope N_require_word ["alphabet", "word"] (defScope (top 18)) := ⟨rfl, rfl, rfl, by decide +kernel, rfl, by decide +kernel, by decide +kernel⟩
theorem b_require_word (G : Gf K mg) (c_is_word_of : Cal P w K mg base "is_word_of" 2 ["alphabet", "value"] (spF K mg 2 M_is_word_of)) (f : Addr) (cdv : Value) (A : Around) (outer : List PySem.Env) (s : Shared) (H : Hp) (E : XK) (hr : Room 2 (Xb P w K mg base N_require_word "require_word" (top 18) f cdv A outer s H E).A) (tk : Takes (Xb P w K mg base N_require_word "require_word" (top 18) f cdv A outer s H E) (We E)) :
    SDs (Xb P w K mg base N_require_word "require_word" (top 18) f cdv A outer s H E) (We E) [] (defBody (top 18)) m_require_word :=
  (k_seq (sd_if (xt_q (b_w (w_or (b_not (b_val (vq (q_call c_is_word_of mir_len (pas_of tk) (hr.mono (by decide)) (qs_cons (q_var 0) (qs_cons (q_var 1) qs_nil)))))) (w_or1 (b_cmp s_gt (op_gtD hr.units) (vq (q_bi s_len call_lenAll G.b_len (vs_cons (vq (q_var 1)) vs_nil))) (vq (q_gint G.c_MAX_WORD)))))))
  (k_seq (k_raise tk G.e_InvalidWord)
  k_nil)
  k_nil)
  k_nil)
theorem ok_require_word {f : Addr} {fd : FuncData} (F : Fun K "require_word" "require_word" (top 18) f fd) (G : Gf K mg) (c_is_word_of : Cal P w K mg base "is_word_of" 2 ["alphabet", "value"] (spF K mg 2 M_is_word_of)) : FnOk P w K mg base (L2.CX P w) 3 f fd ["alphabet", "word"] (spF K mg 2 M_require_word) :=
  fn_q F sc_require_word fun cdv A outer s H E hr tk => b_require_word G c_is_word_of f cdv A outer s H E hr tk
theorem sc_is_vector : FnScope N_is_vector ["value"] (defScope (top 19)) := ⟨rfl, rfl, rfl, by decide +kernel, rfl, by decide +kernel, by decide +kernel⟩
theorem b_is_vector (G : Gf K mg) (c_is_vector_of : Cal P w K mg base "is_vector_of" 3 ["size", "value"] (spF K mg 2 M_is_vector_of)) (f : Addr) (cdv : Value) (A : Around) (outer : List PySem.Env) (s : Shared) (H : Hp) (E : XK) (hr : Room 3 (Xb P w K mg base N_is_vector "is_vector" (top 19) f cdv A outer s H E).A) (tk : Takes (Xb P w K mg base N_is_vector "is_vector" (top 19) f cdv A outer s H E) (We E)) :
    SDs (Xb P w K mg base N_is_vector "is_vector" (top 19) f cdv A outer s H E) (We E) [] (defBody (top 19)) m_is_vector :=
  (k_seq (sd_ret (x_q (q_and (q_isi (T := "tuple") (vq (q_var 0)) G.b_isinstance G.b_tuple (by decide +kernel) (by decide) (by decide)) (q_and (q_chain s_le (op_leD hr.units) s_le (op_leD hr.units) (vq q_int) (vq (q_bi s_len call_lenAll G.b_len (vs_cons (vq (q_var 0)) vs_nil))) (vq (q_gint G.c_MAX_ACTIONS))) (q_one (q_call c_is_vector_of mir_len (pas_of tk) (hr.mono (by decide)) (qs_cons (q_bi s_len call_lenAll G.b_len (vs_cons (vq (q_var 0)) vs_nil)) (qs_cons (q_var 0) qs_nil))))))))
  k_nil)
theorem ok_is_vector {f : Addr} {fd : FuncData} (F : Fun K "is_vector" "is_vector" (top 19) f fd) (G : Gf K mg) (c_is_vector_of : Cal P w K mg base "is_vector_of" 3 ["size", "value"] (spF K mg 2 M_is_vector_of)) : FnOk P w K mg base (L2.CX P w) 4 f fd ["value"] (spF K mg 1 M_is_vector) :=
  fn_q F sc_is_vector fun cdv A outer s H E hr tk => b_is_vector G c_is_vector_of f cdv A outer s H E hr tk
theorem sc_common_in : FnScope N_common_in ["one", "other"] (defScope (top 21)) := ⟨rfl, rfl, rfl, by decide +kernel, rfl, by decide +kernel, by decide +kernel⟩
theorem b_common_in (G : Gf K mg)  (f : Addr) (cdv : Value) (A : Around) (outer : List PySem.Env) (s : Shared) (H : Hp) (E : XK) (hr : Room 1 (Xb P w K mg base N_common_in "common_in" (top 21) f cdv A outer s H E).A) (tk : Takes (Xb P w K mg base N_common_in "common_in" (top 21) f cdv A outer s H E) (We E)) :
    SDs (Xb P w K mg base N_common_in "common_in" (top 21) f cdv A outer s H E) (We E) [] (defBody (top 21)) m_common_in :=
  (k_seq (sd_par (i := 0) (j := 1) (xs_q (qs_cons (q_bi s_abs call_abs G.b_abs (vs_cons (vq (q_var 0)) vs_nil)) (qs_cons (q_bi s_abs call_abs G.b_abs (vs_cons (vq (q_var 1)) vs_nil)) qs_nil))) rfl sc_common_in.nd (x := "one") (y := "other") rfl rfl (by decide) rfl rfl (by rfl))
  (k_seq (sd_while (fuel := fu_common_in) (passes_of rfl) (xt_q (b_cmp s_gt (op_gtD hr.units) (vq (q_var 1)) (vq q_int)))
  (k_seq (sd_par (i := 0) (j := 1) (xs_q (qs_cons (q_var 1) (qs_cons (q_op s_mod op_mod (vq (q_var 0)) (vq (q_var 1))) qs_nil))) rfl sc_common_in.nd (x := "one") (y := "other") rfl rfl (by decide) rfl rfl (by rfl))
  k_nil))
  (k_seq (sd_ret (x_q (q_var 0)))
  k_nil)))
theorem ok_common_in {f : Addr} {fd : FuncData} (F : Fun K "common_in" "common_in" (top 21) f fd) (G : Gf K mg)  : FnOk P w K mg base (L2.CX P w) 2 f fd ["one", "other"] (spF K mg 2 M_common_in) :=
  fn_q F sc_common_in fun cdv A outer s H E hr tk => b_common_in G  f cdv A outer s H E hr tk
theorem sc_is_fraction : FnScope N_is_fraction ["value"] (defScope (top 22)) := ⟨rfl, rfl, rfl, by decide +kernel, rfl, by decide +kernel, by decide +kernel⟩
theorem b_is_fraction (G : Gf K mg) (c_is_integer : Cal P w K mg base "is_integer" 2 ["value"] (spF K mg 1 M_is_integer)) (c_common_in : Cal P w K mg base "common_in" 2 ["one", "other"] (spF K mg 2 M_common_in)) (f : Addr) (cdv : Value) (A : Around) (outer : List PySem.Env) (s : Shared) (H : Hp) (E : XK) (hr : Room 2 (Xb P w K mg base N_is_fraction "is_fraction" (top 22) f cdv A outer s H E).A) (tk : Takes (Xb P w K mg base N_is_fraction "is_fraction" (top 22) f cdv A outer s H E) (We E)) :
    SDs (Xb P w K mg base N_is_fraction "is_fraction" (top 22) f cdv A outer s H E) (We E) [] (defBody (top 22)) m_is_fraction :=
  (k_seq (sd_if (xt_q (b_w (w_or (b_not (b_val (vq (q_isi (T := "tuple") (vq (q_var 0)) G.b_isinstance G.b_tuple (by decide +kernel) (by decide) (by decide))))) (w_or (b_cmp s_ne (op_neD hr.units) (vq (q_bi s_len call_lenAll G.b_len (vs_cons (vq (q_var 0)) vs_nil))) (vq q_int)) (w_or1 (b_not (b_val (vq (q_bi s_all (cr_all rfl) G.b_all (vs_cons (vq (q_lc (own := [("number", 1)]) rfl rfl rfl tk sc_is_fraction.nd (iv (i_any (q_var 0))) (by first | rfl | kernel_rfl) (wr_n (by decide)) (fun _ _ _ _ _ _ => (g_n sc_is_fraction.nd rfl (by first | exact Or.inl rfl | exact Or.inr rfl))) (fun Y V hY pas => by obtain ⟨s1, H1, C1, cl1, fp1, xe1, rfl⟩ := hY; exact bs_nil) (fun Y V hY pas => by obtain ⟨s1, H1, C1, cl1, fp1, xe1, rfl⟩ := hY; exact (q_call c_is_integer mir_len pas (hr.mono (by decide)) (qs_cons (q_var 1) qs_nil))))) vs_nil))))))))))
  (k_seq (sd_ret (x_q q_bl))
  k_nil)
  k_nil)
  (k_seq (sd_ret (x_q (q_and (q_cmp s_ge (op_geD hr.units) (vq (q_ix s_ix ix_seq (vq (q_var 0)) (vq q_int))) (vq q_int)) (q_one (q_cmp s_eq (op_eqD hr.units) (vq (q_call c_common_in mir_len (pas_of tk) (hr.mono (by decide)) (qs_cons (q_ix s_ix ix_seq (vq (q_var 0)) (vq q_int)) (qs_cons (q_ix s_ix ix_seq (vq (q_var 0)) (vq q_int)) qs_nil)))) (vq q_int))))))
  k_nil))
theorem ok_is_fraction {f : Addr} {fd : FuncData} (F : Fun K "is_fraction" "is_fraction" (top 22) f fd) (G : Gf K mg) (c_is_integer : Cal P w K mg base "is_integer" 2 ["value"] (spF K mg 1 M_is_integer)) (c_common_in : Cal P w K mg base "common_in" 2 ["one", "other"] (spF K mg 2 M_common_in)) : FnOk P w K mg base (L2.CX P w) 3 f fd ["value"] (spF K mg 1 M_is_fraction) :=
  fn_q F sc_is_fraction fun cdv A outer s H E hr tk => b_is_fraction G c_is_integer c_common_in f cdv A outer s H E hr tk
theorem sc_require_fraction : FnScope N_require_fraction ["value"] (defScope (top 23)) := ⟨rfl, rfl, rfl, by decide +kernel, rfl, by decide +kernel, by decide +kernel⟩
theorem b_require_fraction (G : Gf K mg) (c_is_fraction : Cal P w K mg base "is_fraction" 3 ["value"] (spF K mg 1 M_is_fraction)) (f : Addr) (cdv : Value) (A : Around) (outer : List PySem.Env) (s : Shared) (H : Hp) (E : XK) (hr : Room 3 (Xb P w K mg base N_require_fraction "require_fraction" (top 23) f cdv A outer s H E).A) (tk : Takes (Xb P w K mg base N_require_fraction "require_fraction" (top 23) f cdv A outer s H E) (We E)) :
    SDs (Xb P w K mg base N_require_fraction "require_fraction" (top 23) f cdv A outer s H E) (We E) [] (defBody (top 23)) m_require_fraction :=
  (k_seq (sd_if (xt_q (b_not (b_val (vq (q_call c_is_fraction mir_len (pas_of tk) (hr.mono (by decide)) (qs_cons (q_var 0) qs_nil))))))
  (k_seq (k_raise tk G.e_InvalidFraction)
  k_nil)
  k_nil)
  k_nil)
theorem ok_require_fraction {f : Addr} {fd : FuncData} (F : Fun K "require_fraction" "require_fraction" (top 23) f fd) (G : Gf K mg) (c_is_fraction : Cal P w K mg base "is_fraction" 3 ["value"] (spF K mg 1 M_is_fraction)) : FnOk P w K mg base (L2.CX P w) 4 f fd ["value"] (spF K mg 1 M_require_fraction) :=
  fn_q F sc_require_fraction fun cdv A outer s H E hr tk => b_require_fraction G c_is_fraction f cdv A outer s H E hr tk
theorem sc_number_in : FnScope N_number_in ["text"] (defScope (top 28)) := ⟨rfl, rfl, rfl, by decide +kernel, rfl, by decide +kernel, by decide +kernel⟩
theorem b_number_in (G : Gf K mg)  (f : Addr) (cdv : Value) (A : Around) (outer : List PySem.Env) (s : Shared) (H : Hp) (E : XK) (hr : Room 1 (Xb P w K mg base N_number_in "number_in" (top 28) f cdv A outer s H E).A) (tk : Takes (Xb P w K mg base N_number_in "number_in" (top 28) f cdv A outer s H E) (We E)) :
    SDs (Xb P w K mg base N_number_in "number_in" (top 28) f cdv A outer s H E) (We E) [] (defBody (top 28)) m_number_in :=
  (k_seq (sd_set (i := 1) (x_q (q_if (b_val (vq (q_m1 s_starts PySem.F.slot_str_startswith PySem.F.type_str_startswith mt_startswith (vq (q_var 0)) (vq q_str)))) (q_sl (vq (q_var 0)) (o_some (vq q_int)) o_none) (q_var 0))) sc_number_in.nd rfl (by first | exact Or.inl rfl | exact Or.inr rfl))
  (k_seq (sd_if (xt_q (b_w (w_or (b_not (b_chain s_le (op_leD hr.units) s_le (op_leD hr.units) (vq q_int) (vq (q_bi s_len call_lenAll G.b_len (vs_cons (vq (q_var 1)) vs_nil))) (vq (q_gint G.c_MAX_DIGITS)))) (w_or1 (b_not (b_val (vq (q_bi s_all (cr_all rfl) G.b_all (vs_cons (vq (q_lc (own := [("sign", 2)]) rfl rfl rfl tk sc_number_in.nd (iv (i_any (q_var 1))) (by first | rfl | kernel_rfl) (wr_n (by decide)) (fun _ _ _ _ _ _ => (g_n sc_number_in.nd rfl (by first | exact Or.inl rfl | exact Or.inr rfl))) (fun Y V hY pas => by obtain ⟨s1, H1, C1, cl1, fp1, xe1, rfl⟩ := hY; exact bs_nil) (fun Y V hY pas => by obtain ⟨s1, H1, C1, cl1, fp1, xe1, rfl⟩ := hY; exact (q_cmp s_in op_inAll (vq (q_var 2)) (vq (q_gstr G.c_DIGITS)))))) vs_nil)))))))))
  (k_seq (k_raise tk G.e_ParseError)
  k_nil)
  k_nil)
  (k_seq (sd_if (xt_q (b_w (w_and (b_cmp s_eq (op_eqD hr.units) (vq (q_ix s_ix ix_seq (vq (q_var 1)) (vq q_int))) (vq q_str)) (w_and1 (b_cmp s_ne (op_neD hr.units) (vq (q_var 0)) (vq q_str))))))
  (k_seq (k_raise tk G.e_ParseError)
  k_nil)
  k_nil)
  (k_seq (sd_ret (x_q (q_ty s_int1 call_intAll G.b_int (vs_cons (vq (q_var 0)) vs_nil))))
  k_nil))))
theorem ok_number_in {f : Addr} {fd : FuncData} (F : Fun K "number_in" "number_in" (top 28) f fd) (G : Gf K mg)  : FnOk P w K mg base (L2.CX P w) 2 f fd ["text"] (spF K mg 1 M_number_in) :=
  fn_q F sc_number_in fun cdv A outer s H E hr tk => b_number_in G  f cdv A outer s H E hr tk
theorem sc_require_text : FnScope N_require_text ["text"] (defScope (top 29)) := ⟨rfl, rfl, rfl, by decide +kernel, rfl, by decide +kernel, by decide +kernel⟩
theorem b_require_text (G : Gf K mg)  (f : Addr) (cdv : Value) (A : Around) (outer : List PySem.Env) (s : Shared) (H : Hp) (E : XK) (hr : Room 1 (Xb P w K mg base N_require_text "require_text" (top 29) f cdv A outer s H E).A) (tk : Takes (Xb P w K mg base N_require_text "require_text" (top 29) f cdv A outer s H E) (We E)) :
    SDs (Xb P w K mg base N_require_text "require_text" (top 29) f cdv A outer s H E) (We E) [] (defBody (top 29)) m_require_text :=
  (k_seq (sd_if (xt_q (b_not (b_val (vq (q_isi (T := "str") (vq (q_var 0)) G.b_isinstance G.b_str (by decide +kernel) (by decide) (by decide))))))
  (k_seq (k_raise tk G.e_ParseError)
  k_nil)
  k_nil)
  k_nil)
theorem ok_require_text {f : Addr} {fd : FuncData} (F : Fun K "require_text" "require_text" (top 29) f fd) (G : Gf K mg)  : FnOk P w K mg base (L2.CX P w) 2 f fd ["text"] (spF K mg 1 M_require_text) :=
  fn_q F sc_require_text fun cdv A outer s H E hr tk => b_require_text G  f cdv A outer s H E hr tk
theorem sc_numbers_text : FnScope N_numbers_text ["numbers"] (defScope (top 30)) := ⟨rfl, rfl, rfl, by decide +kernel, rfl, by decide +kernel, by decide +kernel⟩
theorem b_numbers_text (G : Gf K mg)  (f : Addr) (cdv : Value) (A : Around) (outer : List PySem.Env) (s : Shared) (H : Hp) (E : XK) (hr : Room 1 (Xb P w K mg base N_numbers_text "numbers_text" (top 30) f cdv A outer s H E).A) (tk : Takes (Xb P w K mg base N_numbers_text "numbers_text" (top 30) f cdv A outer s H E) (We E)) :
    SDs (Xb P w K mg base N_numbers_text "numbers_text" (top 30) f cdv A outer s H E) (We E) [] (defBody (top 30)) m_numbers_text :=
  (k_seq (sd_ret (x_q (q_m1 s_join PySem.F.slot_str_join PySem.F.type_str_join mt_join (vq q_str) (vq (q_lc (own := [("number", 1)]) rfl rfl rfl tk sc_numbers_text.nd (iv (i_any (q_var 0))) (by first | rfl | kernel_rfl) (wr_n (by decide)) (fun _ _ _ _ _ _ => (g_n sc_numbers_text.nd rfl (by first | exact Or.inl rfl | exact Or.inr rfl))) (fun Y V hY pas => by obtain ⟨s1, H1, C1, cl1, fp1, xe1, rfl⟩ := hY; exact bs_nil) (fun Y V hY pas => by obtain ⟨s1, H1, C1, cl1, fp1, xe1, rfl⟩ := hY; exact (q_ty s_str call_str_int G.b_str (vs_cons (vq (q_var 1)) vs_nil))))))))
  k_nil)
theorem ok_numbers_text {f : Addr} {fd : FuncData} (F : Fun K "numbers_text" "numbers_text" (top 30) f fd) (G : Gf K mg)  : FnOk P w K mg base (L2.CX P w) 2 f fd ["numbers"] (spF K mg 1 M_numbers_text) :=
  fn_q F sc_numbers_text fun cdv A outer s H E hr tk => b_numbers_text G  f cdv A outer s H E hr tk
theorem sc_word_text : FnScope N_word_text ["word"] (defScope (top 31)) := ⟨rfl, rfl, rfl, by decide +kernel, rfl, by decide +kernel, by decide +kernel⟩
theorem b_word_text (G : Gf K mg)  (f : Addr) (cdv : Value) (A : Around) (outer : List PySem.Env) (s : Shared) (H : Hp) (E : XK) (hr : Room 1 (Xb P w K mg base N_word_text "word_text" (top 31) f cdv A outer s H E).A) (tk : Takes (Xb P w K mg base N_word_text "word_text" (top 31) f cdv A outer s H E) (We E)) :
    SDs (Xb P w K mg base N_word_text "word_text" (top 31) f cdv A outer s H E) (We E) [] (defBody (top 31)) m_word_text :=
  (k_seq (sd_ret (x_q (q_if (b_cmp s_ne (op_neD hr.units) (vq (q_var 0)) (vq (q_tup qs_nil))) (q_m1 s_join PySem.F.slot_str_join PySem.F.type_str_join mt_join (vq q_str) (vq (q_var 0))) (q_gstr G.c_NOTHING))))
  k_nil)
theorem ok_word_text {f : Addr} {fd : FuncData} (F : Fun K "word_text" "word_text" (top 31) f fd) (G : Gf K mg)  : FnOk P w K mg base (L2.CX P w) 2 f fd ["word"] (spF K mg 1 M_word_text) :=
  fn_q F sc_word_text fun cdv A outer s H E hr tk => b_word_text G  f cdv A outer s H E hr tk
theorem sc_word_in : FnScope N_word_in ["alphabet", "text"] (defScope (top 32)) := ⟨rfl, rfl, rfl, by decide +kernel, rfl, by decide +kernel, by decide +kernel⟩
theorem b_word_in (G : Gf K mg) (c_is_word_of : Cal P w K mg base "is_word_of" 2 ["alphabet", "value"] (spF K mg 2 M_is_word_of)) (f : Addr) (cdv : Value) (A : Around) (outer : List PySem.Env) (s : Shared) (H : Hp) (E : XK) (hr : Room 2 (Xb P w K mg base N_word_in "word_in" (top 32) f cdv A outer s H E).A) (tk : Takes (Xb P w K mg base N_word_in "word_in" (top 32) f cdv A outer s H E) (We E)) :
    SDs (Xb P w K mg base N_word_in "word_in" (top 32) f cdv A outer s H E) (We E) [] (defBody (top 32)) m_word_in :=
  (k_seq (sd_set (i := 2) (x_q (q_if (b_cmp s_eq (op_eqD hr.units) (vq (q_var 1)) (vq (q_gstr G.c_NOTHING))) (q_tup qs_nil) (q_ty s_tuple call_tuple_of G.b_tuple (vs_cons (vq (q_m1 s_split PySem.F.slot_str_split PySem.F.type_str_split mt_split (vq (q_var 1)) (vq q_str))) vs_nil)))) sc_word_in.nd rfl (by first | exact Or.inl rfl | exact Or.inr rfl))
  (k_seq (sd_if (xt_q (b_w (w_or (b_not (b_val (vq (q_call c_is_word_of mir_len (pas_of tk) (hr.mono (by decide)) (qs_cons (q_var 0) (qs_cons (q_var 2) qs_nil)))))) (w_or1 (b_cmp s_gt (op_gtD hr.units) (vq (q_bi s_len call_lenAll G.b_len (vs_cons (vq (q_var 2)) vs_nil))) (vq (q_gint G.c_MAX_WORD)))))))
  (k_seq (k_raise tk G.e_ParseError)
  k_nil)
  k_nil)
  (k_seq (sd_ret (x_q (q_var 2)))
  k_nil)))
theorem ok_word_in {f : Addr} {fd : FuncData} (F : Fun K "word_in" "word_in" (top 32) f fd) (G : Gf K mg) (c_is_word_of : Cal P w K mg base "is_word_of" 2 ["alphabet", "value"] (spF K mg 2 M_is_word_of)) : FnOk P w K mg base (L2.CX P w) 3 f fd ["alphabet", "text"] (spF K mg 2 M_word_in) :=
  fn_q F sc_word_in fun cdv A outer s H E hr tk => b_word_in G c_is_word_of f cdv A outer s H E hr tk
theorem sc_format_word : FnScope N_format_word ["alphabet", "word"] (defScope (top 33)) := ⟨rfl, rfl, rfl, by decide +kernel, rfl, by decide +kernel, by decide +kernel⟩
theorem b_format_word (G : Gf K mg) (c_require_alphabet : Cal P w K mg base "require_alphabet" 4 ["value"] (spF K mg 1 M_require_alphabet)) (c_require_word : Cal P w K mg base "require_word" 3 ["alphabet", "word"] (spF K mg 2 M_require_word)) (c_word_text : Cal P w K mg base "word_text" 2 ["word"] (spF K mg 1 M_word_text)) (f : Addr) (cdv : Value) (A : Around) (outer : List PySem.Env) (s : Shared) (H : Hp) (E : XK) (hr : Room 4 (Xb P w K mg base N_format_word "format_word" (top 33) f cdv A outer s H E).A) (tk : Takes (Xb P w K mg base N_format_word "format_word" (top 33) f cdv A outer s H E) (We E)) :
    SDs (Xb P w K mg base N_format_word "format_word" (top 33) f cdv A outer s H E) (We E) [] (defBody (top 33)) m_format_word :=
  (k_seq (sd_drop (x_q (q_call c_require_alphabet mir_len (pas_of tk) (hr.mono (by decide)) (qs_cons (q_var 0) qs_nil))))
  (k_seq (sd_drop (x_q (q_call c_require_word mir_len (pas_of tk) (hr.mono (by decide)) (qs_cons (q_var 0) (qs_cons (q_var 1) qs_nil)))))
  (k_seq (sd_ret (x_q (q_call c_word_text mir_len (pas_of tk) (hr.mono (by decide)) (qs_cons (q_var 1) qs_nil))))
  k_nil)))
theorem ok_format_word {f : Addr} {fd : FuncData} (F : Fun K "format_word" "format_word" (top 33) f fd) (G : Gf K mg) (c_require_alphabet : Cal P w K mg base "require_alphabet" 4 ["value"] (spF K mg 1 M_require_alphabet)) (c_require_word : Cal P w K mg base "require_word" 3 ["alphabet", "word"] (spF K mg 2 M_require_word)) (c_word_text : Cal P w K mg base "word_text" 2 ["word"] (spF K mg 1 M_word_text)) : FnOk P w K mg base (L2.CX P w) 5 f fd ["alphabet", "word"] (spF K mg 2 M_format_word) :=
  fn_q F sc_format_word fun cdv A outer s H E hr tk => b_format_word G c_require_alphabet c_require_word c_word_text f cdv A outer s H E hr tk
theorem sc_parse_word : FnScope N_parse_word ["alphabet", "text"] (defScope (top 34)) := ⟨rfl, rfl, rfl, by decide +kernel, rfl, by decide +kernel, by decide +kernel⟩
theorem b_parse_word (G : Gf K mg) (c_require_alphabet : Cal P w K mg base "require_alphabet" 4 ["value"] (spF K mg 1 M_require_alphabet)) (c_require_text : Cal P w K mg base "require_text" 2 ["text"] (spF K mg 1 M_require_text)) (c_word_in : Cal P w K mg base "word_in" 3 ["alphabet", "text"] (spF K mg 2 M_word_in)) (f : Addr) (cdv : Value) (A : Around) (outer : List PySem.Env) (s : Shared) (H : Hp) (E : XK) (hr : Room 4 (Xb P w K mg base N_parse_word "parse_word" (top 34) f cdv A outer s H E).A) (tk : Takes (Xb P w K mg base N_parse_word "parse_word" (top 34) f cdv A outer s H E) (We E)) :
    SDs (Xb P w K mg base N_parse_word "parse_word" (top 34) f cdv A outer s H E) (We E) [] (defBody (top 34)) m_parse_word :=
  (k_seq (sd_drop (x_q (q_call c_require_alphabet mir_len (pas_of tk) (hr.mono (by decide)) (qs_cons (q_var 0) qs_nil))))
  (k_seq (sd_drop (x_q (q_call c_require_text mir_len (pas_of tk) (hr.mono (by decide)) (qs_cons (q_var 1) qs_nil))))
  (k_seq (sd_ret (x_q (q_call c_word_in mir_len (pas_of tk) (hr.mono (by decide)) (qs_cons (q_var 0) (qs_cons (q_var 1) qs_nil)))))
  k_nil)))
theorem ok_parse_word {f : Addr} {fd : FuncData} (F : Fun K "parse_word" "parse_word" (top 34) f fd) (G : Gf K mg) (c_require_alphabet : Cal P w K mg base "require_alphabet" 4 ["value"] (spF K mg 1 M_require_alphabet)) (c_require_text : Cal P w K mg base "require_text" 2 ["text"] (spF K mg 1 M_require_text)) (c_word_in : Cal P w K mg base "word_in" 3 ["alphabet", "text"] (spF K mg 2 M_word_in)) : FnOk P w K mg base (L2.CX P w) 5 f fd ["alphabet", "text"] (spF K mg 2 M_parse_word) :=
  fn_q F sc_parse_word fun cdv A outer s H E hr tk => b_parse_word G c_require_alphabet c_require_text c_word_in f cdv A outer s H E hr tk
theorem sc_format_vector : FnScope N_format_vector ["vector"] (defScope (top 35)) := ⟨rfl, rfl, rfl, by decide +kernel, rfl, by decide +kernel, by decide +kernel⟩
theorem b_format_vector (G : Gf K mg) (c_is_vector : Cal P w K mg base "is_vector" 4 ["value"] (spF K mg 1 M_is_vector)) (c_numbers_text : Cal P w K mg base "numbers_text" 2 ["numbers"] (spF K mg 1 M_numbers_text)) (f : Addr) (cdv : Value) (A : Around) (outer : List PySem.Env) (s : Shared) (H : Hp) (E : XK) (hr : Room 4 (Xb P w K mg base N_format_vector "format_vector" (top 35) f cdv A outer s H E).A) (tk : Takes (Xb P w K mg base N_format_vector "format_vector" (top 35) f cdv A outer s H E) (We E)) :
    SDs (Xb P w K mg base N_format_vector "format_vector" (top 35) f cdv A outer s H E) (We E) [] (defBody (top 35)) m_format_vector :=
  (k_seq (sd_if (xt_q (b_not (b_val (vq (q_call c_is_vector mir_len (pas_of tk) (hr.mono (by decide)) (qs_cons (q_var 0) qs_nil))))))
  (k_seq (k_raise tk G.e_InvalidVector)
  k_nil)
  k_nil)
  (k_seq (sd_ret (x_q (q_call c_numbers_text mir_len (pas_of tk) (hr.mono (by decide)) (qs_cons (q_var 0) qs_nil))))
  k_nil))
theorem ok_format_vector {f : Addr} {fd : FuncData} (F : Fun K "format_vector" "format_vector" (top 35) f fd) (G : Gf K mg) (c_is_vector : Cal P w K mg base "is_vector" 4 ["value"] (spF K mg 1 M_is_vector)) (c_numbers_text : Cal P w K mg base "numbers_text" 2 ["numbers"] (spF K mg 1 M_numbers_text)) : FnOk P w K mg base (L2.CX P w) 5 f fd ["vector"] (spF K mg 1 M_format_vector) :=
  fn_q F sc_format_vector fun cdv A outer s H E hr tk => b_format_vector G c_is_vector c_numbers_text f cdv A outer s H E hr tk
theorem sc_parse_vector : FnScope N_parse_vector ["text"] (defScope (top 36)) := ⟨rfl, rfl, rfl, by decide +kernel, rfl, by decide +kernel, by decide +kernel⟩
theorem b_parse_vector (G : Gf K mg) (c_require_text : Cal P w K mg base "require_text" 2 ["text"] (spF K mg 1 M_require_text)) (c_number_in : Cal P w K mg base "number_in" 2 ["text"] (spF K mg 1 M_number_in)) (c_is_vector : Cal P w K mg base "is_vector" 4 ["value"] (spF K mg 1 M_is_vector)) (f : Addr) (cdv : Value) (A : Around) (outer : List PySem.Env) (s : Shared) (H : Hp) (E : XK) (hr : Room 4 (Xb P w K mg base N_parse_vector "parse_vector" (top 36) f cdv A outer s H E).A) (tk : Takes (Xb P w K mg base N_parse_vector "parse_vector" (top 36) f cdv A outer s H E) (We E)) :
    SDs (Xb P w K mg base N_parse_vector "parse_vector" (top 36) f cdv A outer s H E) (We E) [] (defBody (top 36)) m_parse_vector :=
  (k_seq (sd_drop (x_q (q_call c_require_text mir_len (pas_of tk) (hr.mono (by decide)) (qs_cons (q_var 0) qs_nil))))
  (k_seq (sd_set (i := 1) (x_q (q_ty s_tuple call_tuple_of G.b_tuple (vs_cons (vq (q_lc (own := [("part", 2)]) rfl rfl rfl tk sc_parse_vector.nd (iv (i_any (q_m1 s_split PySem.F.slot_str_split PySem.F.type_str_split mt_split (vq (q_var 0)) (vq q_str)))) (by first | rfl | kernel_rfl) (wr_n (by decide)) (fun _ _ _ _ _ _ => (g_n sc_parse_vector.nd rfl (by first | exact Or.inl rfl | exact Or.inr rfl))) (fun Y V hY pas => by obtain ⟨s1, H1, C1, cl1, fp1, xe1, rfl⟩ := hY; exact bs_nil) (fun Y V hY pas => by obtain ⟨s1, H1, C1, cl1, fp1, xe1, rfl⟩ := hY; exact (q_call c_number_in mir_len pas (hr.mono (by decide)) (qs_cons (q_var 2) qs_nil))))) vs_nil))) sc_parse_vector.nd rfl (by first | exact Or.inl rfl | exact Or.inr rfl))
  (k_seq (sd_if (xt_q (b_not (b_val (vq (q_call c_is_vector mir_len (pas_of tk) (hr.mono (by decide)) (qs_cons (q_var 1) qs_nil))))))
  (k_seq (k_raise tk G.e_ParseError)
  k_nil)
  k_nil)
  (k_seq (sd_ret (x_q (q_var 1)))
  k_nil))))
theorem ok_parse_vector {f : Addr} {fd : FuncData} (F : Fun K "parse_vector" "parse_vector" (top 36) f fd) (G : Gf K mg) (c_require_text : Cal P w K mg base "require_text" 2 ["text"] (spF K mg 1 M_require_text)) (c_number_in : Cal P w K mg base "number_in" 2 ["text"] (spF K mg 1 M_number_in)) (c_is_vector : Cal P w K mg base "is_vector" 4 ["value"] (spF K mg 1 M_is_vector)) : FnOk P w K mg base (L2.CX P w) 5 f fd ["text"] (spF K mg 1 M_parse_vector) :=
  fn_q F sc_parse_vector fun cdv A outer s H E hr tk => b_parse_vector G c_require_text c_number_in c_is_vector f cdv A outer s H E hr tk
theorem sc_fraction_text : FnScope N_fraction_text ["fraction"] (defScope (top 37)) := ⟨rfl, rfl, rfl, by decide +kernel, rfl, by decide +kernel, by decide +kernel⟩
theorem b_fraction_text (G : Gf K mg)  (f : Addr) (cdv : Value) (A : Around) (outer : List PySem.Env) (s : Shared) (H : Hp) (E : XK) (hr : Room 1 (Xb P w K mg base N_fraction_text "fraction_text" (top 37) f cdv A outer s H E).A) (tk : Takes (Xb P w K mg base N_fraction_text "fraction_text" (top 37) f cdv A outer s H E) (We E)) :
    SDs (Xb P w K mg base N_fraction_text "fraction_text" (top 37) f cdv A outer s H E) (We E) [] (defBody (top 37)) m_fraction_text :=
  (k_seq (sd_asg (x_q (q_var 0)) (g_tup (n := 2) rfl (gs_cons (g_n sc_fraction_text.nd rfl (by first | exact Or.inl rfl | exact Or.inr rfl)) (gs_cons (g_n sc_fraction_text.nd rfl (by first | exact Or.inl rfl | exact Or.inr rfl)) gs_nil))))
  (k_seq (sd_ret (x_q (q_if (b_cmp s_eq (op_eqD hr.units) (vq (q_var 2)) (vq q_int)) (q_ty s_str call_str_int G.b_str (vs_cons (vq (q_var 1)) vs_nil)) (q_joined (.cons (q_fmt (vq (q_var 1))) (.cons q_str (.cons (q_fmt (vq (q_var 2))) .nil)))))))
  k_nil))
theorem ok_fraction_text {f : Addr} {fd : FuncData} (F : Fun K "fraction_text" "fraction_text" (top 37) f fd) (G : Gf K mg)  : FnOk P w K mg base (L2.CX P w) 2 f fd ["fraction"] (spF K mg 1 M_fraction_text) :=
  fn_q F sc_fraction_text fun cdv A outer s H E hr tk => b_fraction_text G  f cdv A outer s H E hr tk
theorem sc_format_fraction : FnScope N_format_fraction ["fraction"] (defScope (top 38)) := ⟨rfl, rfl, rfl, by decide +kernel, rfl, by decide +kernel, by decide +kernel⟩
theorem b_format_fraction (G : Gf K mg) (c_require_fraction : Cal P w K mg base "require_fraction" 4 ["value"] (spF K mg 1 M_require_fraction)) (c_fraction_text : Cal P w K mg base "fraction_text" 2 ["fraction"] (spF K mg 1 M_fraction_text)) (f : Addr) (cdv : Value) (A : Around) (outer : List PySem.Env) (s : Shared) (H : Hp) (E : XK) (hr : Room 4 (Xb P w K mg base N_format_fraction "format_fraction" (top 38) f cdv A outer s H E).A) (tk : Takes (Xb P w K mg base N_format_fraction "format_fraction" (top 38) f cdv A outer s H E) (We E)) :
    SDs (Xb P w K mg base N_format_fraction "format_fraction" (top 38) f cdv A outer s H E) (We E) [] (defBody (top 38)) m_format_fraction :=
  (k_seq (sd_drop (x_q (q_call c_require_fraction mir_len (pas_of tk) (hr.mono (by decide)) (qs_cons (q_var 0) qs_nil))))
  (k_seq (sd_ret (x_q (q_call c_fraction_text mir_len (pas_of tk) (hr.mono (by decide)) (qs_cons (q_var 0) qs_nil))))
  k_nil))
theorem ok_format_fraction {f : Addr} {fd : FuncData} (F : Fun K "format_fraction" "format_fraction" (top 38) f fd) (G : Gf K mg) (c_require_fraction : Cal P w K mg base "require_fraction" 4 ["value"] (spF K mg 1 M_require_fraction)) (c_fraction_text : Cal P w K mg base "fraction_text" 2 ["fraction"] (spF K mg 1 M_fraction_text)) : FnOk P w K mg base (L2.CX P w) 5 f fd ["fraction"] (spF K mg 1 M_format_fraction) :=
  fn_q F sc_format_fraction fun cdv A outer s H E hr tk => b_format_fraction G c_require_fraction c_fraction_text f cdv A outer s H E hr tk
theorem sc_parse_fraction : FnScope N_parse_fraction ["text"] (defScope (top 39)) := ⟨rfl, rfl, rfl, by decide +kernel, rfl, by decide +kernel, by decide +kernel⟩
theorem b_parse_fraction (G : Gf K mg) (c_require_text : Cal P w K mg base "require_text" 2 ["text"] (spF K mg 1 M_require_text)) (c_number_in : Cal P w K mg base "number_in" 2 ["text"] (spF K mg 1 M_number_in)) (c_is_fraction : Cal P w K mg base "is_fraction" 3 ["value"] (spF K mg 1 M_is_fraction)) (f : Addr) (cdv : Value) (A : Around) (outer : List PySem.Env) (s : Shared) (H : Hp) (E : XK) (hr : Room 3 (Xb P w K mg base N_parse_fraction "parse_fraction" (top 39) f cdv A outer s H E).A) (tk : Takes (Xb P w K mg base N_parse_fraction "parse_fraction" (top 39) f cdv A outer s H E) (We E)) :
    SDs (Xb P w K mg base N_parse_fraction "parse_fraction" (top 39) f cdv A outer s H E) (We E) [] (defBody (top 39)) m_parse_fraction :=
  (k_seq (sd_drop (x_q (q_call c_require_text mir_len (pas_of tk) (hr.mono (by decide)) (qs_cons (q_var 0) qs_nil))))
  (k_seq (sd_asg (x_q (q_m1 s_part PySem.F.slot_str_partition PySem.F.type_str_partition mt_partition (vq (q_var 0)) (vq q_str))) (g_tup (n := 3) rfl (gs_cons (g_n sc_parse_fraction.nd rfl (by first | exact Or.inl rfl | exact Or.inr rfl)) (gs_cons (g_n sc_parse_fraction.nd rfl (by first | exact Or.inl rfl | exact Or.inr rfl)) (gs_cons (g_n sc_parse_fraction.nd rfl (by first | exact Or.inl rfl | exact Or.inr rfl)) gs_nil)))))
  (k_seq (sd_set (i := 1) (x_q (q_tup (qs_cons (q_call c_number_in mir_len (pas_of tk) (hr.mono (by decide)) (qs_cons (q_var 2) qs_nil)) (qs_cons (q_if (b_cmp s_ne (op_neD hr.units) (vq (q_var 3)) (vq q_str)) (q_call c_number_in mir_len (pas_of tk) (hr.mono (by decide)) (qs_cons (q_var 4) qs_nil)) q_int) qs_nil)))) sc_parse_fraction.nd rfl (by first | exact Or.inl rfl | exact Or.inr rfl))
  (k_seq (sd_if (xt_q (b_w (w_or (b_not (b_val (vq (q_call c_is_fraction mir_len (pas_of tk) (hr.mono (by decide)) (qs_cons (q_var 1) qs_nil))))) (w_or1 (b_w (w_and (b_cmp s_ne (op_neD hr.units) (vq (q_var 3)) (vq q_str)) (w_and1 (b_cmp s_eq (op_eqD hr.units) (vq (q_ix s_ix ix_seq (vq (q_var 1)) (vq q_int))) (vq q_int)))))))))
  (k_seq (k_raise tk G.e_ParseError)
  k_nil)
  k_nil)
  (k_seq (sd_ret (x_q (q_var 1)))
  k_nil)))))
theorem ok_parse_fraction {f : Addr} {fd : FuncData} (F : Fun K "parse_fraction" "parse_fraction" (top 39) f fd) (G : Gf K mg) (c_require_text : Cal P w K mg base "require_text" 2 ["text"] (spF K mg 1 M_require_text)) (c_number_in : Cal P w K mg base "number_in" 2 ["text"] (spF K mg 1 M_number_in)) (c_is_fraction : Cal P w K mg base "is_fraction" 3 ["value"] (spF K mg 1 M_is_fraction)) : FnOk P w K mg base (L2.CX P w) 4 f fd ["text"] (spF K mg 1 M_parse_fraction) :=
  fn_q F sc_parse_fraction fun cdv A outer s H E hr tk => b_parse_fraction G c_require_text c_number_in c_is_fraction f cdv A outer s H E hr tk
theorem sc__law_stream : FnScope N__law_stream ["script", "at"] (defScope (top 41)) := ⟨rfl, rfl, rfl, by decide +kernel, rfl, by decide +kernel, by decide +kernel⟩
theorem b__law_stream (G : Gf K mg)  (f : Addr) (cdv : Value) (A : Around) (outer : List PySem.Env) (s : Shared) (H : Hp) (E : XK) (hr : Room 1 (Xb P w K mg base N__law_stream "_law_stream" (top 41) f cdv A outer s H E).A) (tk : Takes (Xb P w K mg base N__law_stream "_law_stream" (top 41) f cdv A outer s H E) (We E)) :
    SDs (Xb P w K mg base N__law_stream "_law_stream" (top 41) f cdv A outer s H E) (We E) [] (defBody (top 41)) m__law_stream :=
  (k_seq (sd_set (i := 2) (x_q (q_op s_add op_addAll (vq (q_op s_mul op_mulAll (vq q_int) (vq (q_var 1)))) (vq q_int))) sc__law_stream.nd rfl (by first | exact Or.inl rfl | exact Or.inr rfl))
  (k_seq (sd_if (xt_q (b_cmp s_lt (op_ltD hr.units) (vq (q_var 1)) (vq (q_bi s_len call_lenAll G.b_len (vs_cons (vq (q_var 0)) vs_nil)))))
  (k_seq (sd_set (i := 2) (x_q (q_ix s_ix ix_seq (vq (q_var 0)) (vq (q_var 1)))) sc__law_stream.nd rfl (by first | exact Or.inl rfl | exact Or.inr rfl))
  k_nil)
  k_nil)
  (k_seq (sd_set (i := 3) (x_q (q_op s_mod op_mod (vq (q_bi s_abs call_abs G.b_abs (vs_cons (vq (q_var 2)) vs_nil))) (vq (q_op s_pow op_powG (vq (q_op s_pow op_powG (vq q_int) (vq q_int))) (vq q_int))))) sc__law_stream.nd rfl (by first | exact Or.inl rfl | exact Or.inr rfl))
  (k_seq (sd_set (i := 4) (x_q (q_op s_mod op_mod (vq (q_op s_add op_addAll (vq (q_op s_add op_addAll (vq (q_op s_add op_addAll (vq (q_op s_mul op_mulAll (vq (q_op s_mod op_mod (vq (q_var 3)) (vq q_int))) (vq q_int))) (vq (q_op s_mul op_mulAll (vq q_int) (vq (q_var 1)))))) (vq (q_op s_mul op_mulAll (vq q_int) (vq (q_ty s_int1 call_intAll G.b_int (vs_cons (vq (q_cmp s_lt (op_ltD hr.units) (vq (q_var 2)) (vq q_int))) vs_nil))))))) (vq q_int))) (vq q_int))) sc__law_stream.nd rfl (by first | exact Or.inl rfl | exact Or.inr rfl))
  (k_seq (sd_retN (n_lst (zs_cons (z_q (W := We E) (q_bi s_max2 (call_max2 rfl) G.b_max (vs_cons (vq q_int) (vs_cons (vq (q_op s_add op_addAll (vq (q_op s_sub op_sub (vq (q_var 3)) (vq (q_op s_pow op_powG (vq q_int) (vq q_int))))) (vq q_int))) vs_nil)))) (zs_cons (z_q (W := We E) (q_var 4)) (zs_cons (z_q (W := We E) q_int) zs_nil)))))
  k_nil)))))
theorem ok__law_stream {f : Addr} {fd : FuncData} (F : Fun K "_law_stream" "_law_stream" (top 41) f fd) (G : Gf K mg)  : FnOk P w K mg base (L2.CX P w) 2 f fd ["script", "at"] (spN K 2 M__law_stream) :=
  fn_n F sc__law_stream fun cdv A outer s H E hr tk => b__law_stream G  f cdv A outer s H E hr tk
theorem sc__law_draw : FnScope N__law_draw ["stream", "total"] (defScope (top 42)) := ⟨rfl, rfl, rfl, by decide +kernel, rfl, by decide +kernel, by decide +kernel⟩
theorem b__law_draw (G : Gf K mg)  (f : Addr) (cdv : Value) (A : Around) (outer : List PySem.Env) (s : Shared) (H : Hp) (E : XK) (hr : Room 1 (Xb P w K mg base N__law_draw "_law_draw" (top 42) f cdv A outer s H E).A) (tk : Takes (Xb P w K mg base N__law_draw "_law_draw" (top 42) f cdv A outer s H E) (We E)) :
    SDs (Xb P w K mg base N__law_draw "_law_draw" (top 42) f cdv A outer s H E) (We E) T (defBody (top 42)) m__law_draw :=
  (k_seq (sd_if (xt_q (b_cmp s_gt (op_gtD hr.units) (vq (q_ix s_ix ix_seq (v_own 0) (vq q_int))) (vq q_int)))
  (k_seq (sd_set (i := 4) (x_q (q_op s_mod op_mod (vq (q_ix s_ix ix_seq (v_own 0) (vq q_int))) (vq (q_var 1)))) sc__law_draw.nd rfl (by first | exact Or.inl rfl | exact Or.inr rfl))
  (k_seq (sd_setIx (i := 0) (x_q (q_op s_fdiv op_fdivW (vq (q_ix s_ix ix_seq (v_own 0) (vq q_int))) (vq (q_var 1)))))
  (k_seq (sd_ret (x_q (q_var 4)))
  k_nil)))
  k_nil)
  (k_seq (sd_setIx (i := 0) (x_q (q_op s_add op_addAll (vq (q_ix s_ix ix_seq (v_own 0) (vq q_int))) (vq q_int))))
  (k_seq (sd_set (i := 2) (x_q (q_op s_mod op_mod (vq (q_op s_add op_addAll (vq (q_ix s_ix ix_seq (v_own 0) (vq q_int))) (vq (q_op s_mul op_mulAll (vq q_int) (vq (q_ix s_ix ix_seq (v_own 0) (vq q_int))))))) (vq q_int))) sc__law_draw.nd rfl (by first | exact Or.inl rfl | exact Or.inr rfl))
  (k_seq (sd_set (i := 3) (x_q (q_op s_mod op_mod (vq (q_op s_add op_addAll (vq (q_op s_mul op_mulAll (vq (q_op s_mod op_mod (vq (q_op s_mul op_mulAll (vq (q_var 2)) (vq (q_var 2)))) (vq q_int))) (vq (q_var 2)))) (vq (q_op s_mul op_mulAll (vq q_int) (vq (q_ix s_ix ix_seq (v_own 0) (vq q_int))))))) (vq q_int))) sc__law_draw.nd rfl (by first | exact Or.inl rfl | exact Or.inr rfl))
  (k_seq (sd_ret (x_q (q_op s_mod op_mod (vq (q_op s_fdiv op_fdivW (vq (q_var 3)) (vq q_int))) (vq (q_var 1)))))
  k_nil)))))
theorem ok__law_draw {f : Addr} {fd : FuncData} (F : Fun K "_law_draw" "_law_draw" (top 42) f fd) (G : Gf K mg)  : FnOk P w K mg base (L2.CX P w) 2 f fd ["stream", "total"] (spL K T 2 M__law_draw) :=
  fn_l F sc__law_draw fun cdv A outer s H E hr tk => b__law_draw G  f cdv A outer s H E hr tk
theorem sc__law_pick : FnScope N__law_pick ["stream", "items"] (defScope (top 43)) := ⟨rfl, rfl, rfl, by decide +kernel, rfl, by decide +kernel, by decide +kernel⟩
theorem b__law_pick (G : Gf K mg) (c__law_draw : Cal P w K mg base "_law_draw" 2 ["stream", "total"] (spL K T 2 M__law_draw)) (f : Addr) (cdv : Value) (A : Around) (outer : List PySem.Env) (s : Shared) (H : Hp) (E : XK) (hr : Room 2 (Xb P w K mg base N__law_pick "_law_pick" (top 43) f cdv A outer s H E).A) (tk : Takes (Xb P w K mg base N__law_pick "_law_pick" (top 43) f cdv A outer s H E) (We E)) :
    SDs (Xb P w K mg base N__law_pick "_law_pick" (top 43) f cdv A outer s H E) (We E) T (defBody (top 43)) m__law_pick :=
  (k_seq (sd_ret (x_s (z_ix s_ix ix_seq (z_q (W := We E) (q_var 1)) (z_callL (i := 0) c__law_draw mirL_len (pas_of tk) (hr.mono (by decide)) (zs_cons (z_q (W := We E) (q_bi s_len call_lenAll G.b_len (vs_cons (vq (q_var 1)) vs_nil))) zs_nil)))))
  k_nil)
theorem ok__law_pick {f : Addr} {fd : FuncData} (F : Fun K "_law_pick" "_law_pick" (top 43) f fd) (G : Gf K mg) (c__law_draw : Cal P w K mg base "_law_draw" 2 ["stream", "total"] (spL K T 2 M__law_draw)) : FnOk P w K mg base (L2.CX P w) 3 f fd ["stream", "items"] (spL K T 2 M__law_pick) :=
  fn_l F sc__law_pick fun cdv A outer s H E hr tk => b__law_pick G c__law_draw f cdv A outer s H E hr tk
theorem sc__law_mixed : FnScope N__law_mixed ["stream", "items"] (defScope (top 44)) := ⟨rfl, rfl, rfl, by decide +kernel, rfl, by decide +kernel, by decide +kernel⟩
theorem b__law_mixed (G : Gf K mg) (c__law_draw : Cal P w K mg base "_law_draw" 2 ["stream", "total"] (spL K T 2 M__law_draw)) (f : Addr) (cdv : Value) (A : Around) (outer : List PySem.Env) (s : Shared) (H : Hp) (E : XK) (hr : Room 2 (Xb P w K mg base N__law_mixed "_law_mixed" (top 44) f cdv A outer s H E).A) (tk : Takes (Xb P w K mg base N__law_mixed "_law_mixed" (top 44) f cdv A outer s H E) (We E)) :
    SDs (Xb P w K mg base N__law_mixed "_law_mixed" (top 44) f cdv A outer s H E) (We E) T (defBody (top 44)) m__law_mixed :=
  (k_seq (sd_new2 (i := 2) (j := 3) (by decide) (by decide) (n_list G.b_list (zs_cons (z_q (W := We E) (q_var 1)) zs_nil)) (n_lst zs_nil) rfl sc__law_mixed.nd (x := "left") (y := "found") rfl rfl (by decide) rfl rfl (by rfl))
  (k_seq (sd_while (fuel := fu__law_mixed) (passes_of rfl) (xt_q (b_cmp s_ne (op_neD hr.units) (v_own 2) (vq (q_lst qs_nil))))
  (k_seq (sd_drop (x_s (z_own (i := 3) ms_append PySem.F.plainAttrs_list PySem.F.slot_list_append PySem.F.type_list_append mt_append (zs_cons (z_own (i := 2) ms_popAt PySem.F.plainAttrs_list PySem.F.slot_list_pop PySem.F.type_list_pop mt_popAt (zs_cons (z_callL (i := 0) c__law_draw mirL_len (pas_of tk) (hr.mono (by decide)) (zs_cons (z_q (W := We E) (q_bi s_len call_lenAll G.b_len (vs_cons (v_own 2) vs_nil))) zs_nil)) zs_nil)) zs_nil))))
  k_nil))
  (k_frz (i := 3) (by decide) (k_seq (sd_ret (x_q (q_var 3)))
  k_nil))))
theorem ok__law_mixed {f : Addr} {fd : FuncData} (F : Fun K "_law_mixed" "_law_mixed" (top 44) f fd) (G : Gf K mg) (c__law_draw : Cal P w K mg base "_law_draw" 2 ["stream", "total"] (spL K T 2 M__law_draw)) : FnOk P w K mg base (L2.CX P w) 3 f fd ["stream", "items"] (spL K T 2 M__law_mixed) :=
  fn_l F sc__law_mixed fun cdv A outer s H E hr tk => b__law_mixed G c__law_draw f cdv A outer s H E hr tk
theorem sc__law_alphabet : FnScope N__law_alphabet ["stream", "total"] (defScope (top 45)) := ⟨rfl, rfl, rfl, by decide +kernel, rfl, by decide +kernel, by decide +kernel⟩
theorem b__law_alphabet (G : Gf K mg) (c__law_mixed : Cal P w K mg base "_law_mixed" 3 ["stream", "items"] (spL K T 2 M__law_mixed)) (f : Addr) (cdv : Value) (A : Around) (outer : List PySem.Env) (s : Shared) (H : Hp) (E : XK) (hr : Room 3 (Xb P w K mg base N__law_alphabet "_law_alphabet" (top 45) f cdv A outer s H E).A) (tk : Takes (Xb P w K mg base N__law_alphabet "_law_alphabet" (top 45) f cdv A outer s H E) (We E)) :
    SDs (Xb P w K mg base N__law_alphabet "_law_alphabet" (top 45) f cdv A outer s H E) (We E) T (defBody (top 45)) m__law_alphabet :=
  (k_seq (sd_set (i := 2) (x_q (q_lst (qs_cons q_str (qs_cons q_str (qs_cons q_str (qs_cons q_str (qs_cons q_str (qs_cons q_str (qs_cons q_str (qs_cons q_str (qs_cons q_str (qs_cons q_str qs_nil)))))))))))) sc__law_alphabet.nd rfl (by first | exact Or.inl rfl | exact Or.inr rfl))
  (k_seq (sd_ret (x_s (z_ty s_tuple call_tuple_of G.b_tuple (zs_cons (z_bi s_sorted (call_sortD hr.units) G.b_sorted (zs_cons (z_sl (W := We E) (z_callL (i := 0) c__law_mixed mirL_len (pas_of tk) (hr.mono (by decide)) (zs_cons (z_q (W := We E) (q_var 2)) zs_nil)) o_none (o_some (vq (q_var 1)))) zs_nil)) zs_nil))))
  k_nil))
theorem ok__law_alphabet {f : Addr} {fd : FuncData} (F : Fun K "_law_alphabet" "_law_alphabet" (top 45) f fd) (G : Gf K mg) (c__law_mixed : Cal P w K mg base "_law_mixed" 3 ["stream", "items"] (spL K T 2 M__law_mixed)) : FnOk P w K mg base (L2.CX P w) 4 f fd ["stream", "total"] (spL K T 2 M__law_alphabet) :=
  fn_l F sc__law_alphabet fun cdv A outer s H E hr tk => b__law_alphabet G c__law_mixed f cdv A outer s H E hr tk
theorem sc__law_word : FnScope N__law_word ["stream", "alphabet", "high"] (defScope (top 46)) := ⟨rfl, rfl, rfl, by decide +kernel, rfl, by decide +kernel, by decide +kernel⟩
theorem b__law_word (G : Gf K mg) (c__law_draw : Cal P w K mg base "_law_draw" 2 ["stream", "total"] (spL K T 2 M__law_draw)) (c__law_pick : Cal P w K mg base "_law_pick" 3 ["stream", "items"] (spL K T 2 M__law_pick)) (f : Addr) (cdv : Value) (A : Around) (outer : List PySem.Env) (s : Shared) (H : Hp) (E : XK) (hr : Room 3 (Xb P w K mg base N__law_word "_law_word" (top 46) f cdv A outer s H E).A) (tk : Takes (Xb P w K mg base N__law_word "_law_word" (top 46) f cdv A outer s H E) (We E)) :
    SDs (Xb P w K mg base N__law_word "_law_word" (top 46) f cdv A outer s H E) (We E) T (defBody (top 46)) m__law_word :=
  (k_seq (sd_ret (x_s (z_ty s_tuple call_tuple_of G.b_tuple (zs_cons (z_lc (own := [("turn", 3)]) rfl sc__law_word.nd (zi_rng (zs_cons (z_callL (i := 0) c__law_draw mirL_len (pas_of tk) (hr.mono (by decide)) (zs_cons (z_q (W := We E) (q_op s_add op_addAll (vq (q_var 2)) (vq q_int))) zs_nil)) zs_nil) G.b_range) (by first | rfl | kernel_rfl) (wr_n (by decide)) (fun _ _ _ _ _ => (g_n sc__law_word.nd rfl (by first | exact Or.inl rfl | exact Or.inr rfl))) (fun Y hY => by obtain ⟨s1, H1, C1, cl1, fp1, rfl⟩ := hY; exact ys_nil) (fun Y hY => by obtain ⟨s1, H1, C1, cl1, fp1, rfl⟩ := hY; exact (z_callL (i := 0) c__law_pick mirL_len pasF (hr.mono (by decide)) (zs_cons (z_q (W := (fun _ _ _ _ => False)) (q_var 1)) zs_nil)))) zs_nil))))
  k_nil)
theorem ok__law_word {f : Addr} {fd : FuncData} (F : Fun K "_law_word" "_law_word" (top 46) f fd) (G : Gf K mg) (c__law_draw : Cal P w K mg base "_law_draw" 2 ["stream", "total"] (spL K T 2 M__law_draw)) (c__law_pick : Cal P w K mg base "_law_pick" 3 ["stream", "items"] (spL K T 2 M__law_pick)) : FnOk P w K mg base (L2.CX P w) 4 f fd ["stream", "alphabet", "high"] (spL K T 3 M__law_word) :=
  fn_l F sc__law_word fun cdv A outer s H E hr tk => b__law_word G c__law_draw c__law_pick f cdv A outer s H E hr tk
theorem sc__law_is_word : FnScope N__law_is_word ["alphabet", "value"] (defScope (top 47)) := ⟨rfl, rfl, rfl, by decide +kernel, rfl, by decide +kernel, by decide +kernel⟩
theorem b__law_is_word (G : Gf K mg)  (f : Addr) (cdv : Value) (A : Around) (outer : List PySem.Env) (s : Shared) (H : Hp) (E : XK) (hr : Room 1 (Xb P w K mg base N__law_is_word "_law_is_word" (top 47) f cdv A outer s H E).A) (tk : Takes (Xb P w K mg base N__law_is_word "_law_is_word" (top 47) f cdv A outer s H E) (We E)) :
    SDs (Xb P w K mg base N__law_is_word "_law_is_word" (top 47) f cdv A outer s H E) (We E) [] (defBody (top 47)) m__law_is_word :=
  (k_seq (sd_if (xt_q (b_not (b_val (vq (q_isi (T := "tuple") (vq (q_var 1)) G.b_isinstance G.b_tuple (by decide +kernel) (by decide) (by decide))))))
  (k_seq (sd_ret (x_q q_bl))
  k_nil)
  k_nil)
  (k_seq (sd_ret (x_q (q_cmp s_eq (op_eqD hr.units) (vq (q_lc (own := [("action", 2)]) rfl rfl rfl tk sc__law_is_word.nd (iv (i_any (q_var 1))) (by first | rfl | kernel_rfl) (wr_n (by decide)) (fun _ _ _ _ _ _ => (g_n sc__law_is_word.nd rfl (by first | exact Or.inl rfl | exact Or.inr rfl))) (fun Y V hY pas => by obtain ⟨s1, H1, C1, cl1, fp1, xe1, rfl⟩ := hY; exact (bs_one (b_w (w_or (b_not (b_val (vq (q_isi (T := "str") (vq (q_var 2)) G.b_isinstance G.b_str (by decide +kernel) (by decide) (by decide))))) (w_or1 (b_cmp s_notIn op_notInAll (vq (q_var 2)) (vq (q_var 0)))))))) (fun Y V hY pas => by obtain ⟨s1, H1, C1, cl1, fp1, xe1, rfl⟩ := hY; exact q_int))) (vq (q_lst qs_nil)))))
  k_nil))
theorem ok__law_is_word {f : Addr} {fd : FuncData} (F : Fun K "_law_is_word" "_law_is_word" (top 47) f fd) (G : Gf K mg)  : FnOk P w K mg base (L2.CX P w) 2 f fd ["alphabet", "value"] (spF K mg 2 M__law_is_word) :=
  fn_q F sc__law_is_word fun cdv A outer s H E hr tk => b__law_is_word G  f cdv A outer s H E hr tk
theorem sc__law_common : FnScope N__law_common ["one", "other"] (defScope (top 48)) := ⟨rfl, rfl, rfl, by decide +kernel, rfl, by decide +kernel, by decide +kernel⟩
theorem b__law_common (G : Gf K mg)  (f : Addr) (cdv : Value) (A : Around) (outer : List PySem.Env) (s : Shared) (H : Hp) (E : XK) (hr : Room 1 (Xb P w K mg base N__law_common "_law_common" (top 48) f cdv A outer s H E).A) (tk : Takes (Xb P w K mg base N__law_common "_law_common" (top 48) f cdv A outer s H E) (We E)) :
    SDs (Xb P w K mg base N__law_common "_law_common" (top 48) f cdv A outer s H E) (We E) [] (defBody (top 48)) m__law_common :=
  (k_seq (sd_while (fuel := fu__law_common) (passes_of rfl) (xt_q (b_cmp s_gt (op_gtD hr.units) (vq (q_var 1)) (vq q_int)))
  (k_seq (sd_par (i := 0) (j := 1) (xs_q (qs_cons (q_var 1) (qs_cons (q_op s_mod op_mod (vq (q_var 0)) (vq (q_var 1))) qs_nil))) rfl sc__law_common.nd (x := "one") (y := "other") rfl rfl (by decide) rfl rfl (by rfl))
  k_nil))
  (k_seq (sd_ret (x_q (q_var 0)))
  k_nil))
theorem ok__law_common {f : Addr} {fd : FuncData} (F : Fun K "_law_common" "_law_common" (top 48) f fd) (G : Gf K mg)  : FnOk P w K mg base (L2.CX P w) 2 f fd ["one", "other"] (spF K mg 2 M__law_common) :=
  fn_q F sc__law_common fun cdv A outer s H E hr tk => b__law_common G  f cdv A outer s H E hr tk
theorem sc__law_spoilt : FnScope N__law_spoilt ["stream", "text"] (defScope (top 49)) := ⟨rfl, rfl, rfl, by decide +kernel, rfl, by decide +kernel, by decide +kernel⟩
theorem b__law_spoilt (G : Gf K mg) (c__law_draw : Cal P w K mg base "_law_draw" 2 ["stream", "total"] (spL K T 2 M__law_draw)) (c__law_pick : Cal P w K mg base "_law_pick" 3 ["stream", "items"] (spL K T 2 M__law_pick)) (f : Addr) (cdv : Value) (A : Around) (outer : List PySem.Env) (s : Shared) (H : Hp) (E : XK) (hr : Room 3 (Xb P w K mg base N__law_spoilt "_law_spoilt" (top 49) f cdv A outer s H E).A) (tk : Takes (Xb P w K mg base N__law_spoilt "_law_spoilt" (top 49) f cdv A outer s H E) (We E)) :
    SDs (Xb P w K mg base N__law_spoilt "_law_spoilt" (top 49) f cdv A outer s H E) (We E) T (defBody (top 49)) m__law_spoilt :=
  (k_seq (sd_par (i := 3) (j := 4) (xs_s (zs_cons (z_callL (i := 0) c__law_draw mirL_len (pas_of tk) (hr.mono (by decide)) (zs_cons (z_q (W := We E) (q_op s_add op_addAll (vq (q_bi s_len call_lenAll G.b_len (vs_cons (vq (q_var 1)) vs_nil))) (vq q_int))) zs_nil)) (zs_cons (z_callL (i := 0) c__law_draw mirL_len (pas_of tk) (hr.mono (by decide)) (zs_cons (z_q (W := We E) q_int) zs_nil)) zs_nil))) rfl sc__law_spoilt.nd (x := "at") (y := "gone") rfl rfl (by decide) rfl rfl (by rfl))
  (k_seq (sd_set (i := 2) (x_q (q_lst (qs_cons q_str (qs_cons q_str (qs_cons q_str (qs_cons q_str (qs_cons q_str (qs_cons q_str (qs_cons q_str (qs_cons q_str (qs_cons q_str (qs_cons q_str (qs_cons q_str (qs_cons q_str (qs_cons q_str (qs_cons q_str (qs_cons q_str (qs_cons q_str (qs_cons q_str (qs_cons q_str qs_nil)))))))))))))))))))) sc__law_spoilt.nd rfl (by first | exact Or.inl rfl | exact Or.inr rfl))
  (k_seq (sd_ret (x_s (z_op s_add op_addAll (z_op s_add op_addAll (z_q (W := We E) (q_sl (vq (q_var 1)) o_none (o_some (vq (q_var 3))))) (z_callL (i := 0) c__law_pick mirL_len (pas_of tk) (hr.mono (by decide)) (zs_cons (z_q (W := We E) (q_op s_add op_addAll (vq (q_var 2)) (vq (q_lst (qs_cons q_str (qs_cons q_str (qs_cons q_str qs_nil))))))) zs_nil))) (z_q (W := We E) (q_sl (vq (q_var 1)) (o_some (vq (q_op s_add op_addAll (vq (q_var 3)) (vq (q_var 4))))) o_none)))))
  k_nil)))
theorem ok__law_spoilt {f : Addr} {fd : FuncData} (F : Fun K "_law_spoilt" "_law_spoilt" (top 49) f fd) (G : Gf K mg) (c__law_draw : Cal P w K mg base "_law_draw" 2 ["stream", "total"] (spL K T 2 M__law_draw)) (c__law_pick : Cal P w K mg base "_law_pick" 3 ["stream", "items"] (spL K T 2 M__law_pick)) : FnOk P w K mg base (L2.CX P w) 4 f fd ["stream", "text"] (spL K T 2 M__law_spoilt) :=
  fn_l F sc__law_spoilt fun cdv A outer s H E hr tk => b__law_spoilt G c__law_draw c__law_pick f cdv A outer s H E hr tk
theorem sc__law_number : FnScope N__law_number ["text"] (defScope (top 51)) := ⟨rfl, rfl, rfl, by decide +kernel, rfl, by decide +kernel, by decide +kernel⟩
theorem b__law_number (G : Gf K mg)  (f : Addr) (cdv : Value) (A : Around) (outer : List PySem.Env) (s : Shared) (H : Hp) (E : XK) (hr : Room 1 (Xb P w K mg base N__law_number "_law_number" (top 51) f cdv A outer s H E).A) (tk : Takes (Xb P w K mg base N__law_number "_law_number" (top 51) f cdv A outer s H E) (We E)) :
    SDs (Xb P w K mg base N__law_number "_law_number" (top 51) f cdv A outer s H E) (We E) [] (defBody (top 51)) m__law_number :=
  (k_seq (sd_set (i := 1) (x_q (q_if (b_cmp s_eq (op_eqD hr.units) (vq (q_sl (vq (q_var 0)) o_none (o_some (vq q_int)))) (vq q_str)) (q_sl (vq (q_var 0)) (o_some (vq q_int)) o_none) (q_var 0))) sc__law_number.nd rfl (by first | exact Or.inl rfl | exact Or.inr rfl))
  (k_seq (sd_if (xt_q (b_w (w_or (b_not (b_chain s_le (op_leD hr.units) s_le (op_leD hr.units) (vq q_int) (vq (q_bi s_len call_lenAll G.b_len (vs_cons (vq (q_var 1)) vs_nil))) (vq q_int))) (w_or1 (b_cmp s_ne (op_neD hr.units) (vq (q_lc (own := [("sign", 2)]) rfl rfl rfl tk sc__law_number.nd (iv (i_any (q_var 1))) (by first | rfl | kernel_rfl) (wr_n (by decide)) (fun _ _ _ _ _ _ => (g_n sc__law_number.nd rfl (by first | exact Or.inl rfl | exact Or.inr rfl))) (fun Y V hY pas => by obtain ⟨s1, H1, C1, cl1, fp1, xe1, rfl⟩ := hY; exact (bs_one (b_cmp s_notIn op_notInAll (vq (q_var 2)) (vq q_str)))) (fun Y V hY pas => by obtain ⟨s1, H1, C1, cl1, fp1, xe1, rfl⟩ := hY; exact (q_var 2)))) (vq (q_lst qs_nil)))))))
  (k_seq (sd_ret (x_q q_non))
  k_nil)
  k_nil)
  (k_seq (sd_ret (x_q (q_if (b_w (w_and (b_cmp s_eq (op_eqD hr.units) (vq (q_ix s_ix ix_seq (vq (q_var 1)) (vq q_int))) (vq q_str)) (w_and1 (b_cmp s_ne (op_neD hr.units) (vq (q_var 0)) (vq q_str))))) q_non (q_lst (qs_cons (q_ty s_int1 call_intAll G.b_int (vs_cons (vq (q_var 0)) vs_nil)) qs_nil)))))
  k_nil)))
theorem ok__law_number {f : Addr} {fd : FuncData} (F : Fun K "_law_number" "_law_number" (top 51) f fd) (G : Gf K mg)  : FnOk P w K mg base (L2.CX P w) 2 f fd ["text"] (spF K mg 1 M__law_number) :=
  fn_q F sc__law_number fun cdv A outer s H E hr tk => b__law_number G  f cdv A outer s H E hr tk
theorem sc__law_numbers : FnScope N__law_numbers ["texts"] (defScope (top 52)) := ⟨rfl, rfl, rfl, by decide +kernel, rfl, by decide +kernel, by decide +kernel⟩
theorem b__law_numbers (G : Gf K mg) (c__law_number : Cal P w K mg base "_law_number" 2 ["text"] (spF K mg 1 M__law_number)) (f : Addr) (cdv : Value) (A : Around) (outer : List PySem.Env) (s : Shared) (H : Hp) (E : XK) (hr : Room 2 (Xb P w K mg base N__law_numbers "_law_numbers" (top 52) f cdv A outer s H E).A) (tk : Takes (Xb P w K mg base N__law_numbers "_law_numbers" (top 52) f cdv A outer s H E) (We E)) :
    SDs (Xb P w K mg base N__law_numbers "_law_numbers" (top 52) f cdv A outer s H E) (We E) [] (defBody (top 52)) m__law_numbers :=
  (k_seq (sd_new (i := 1) (by decide) (n_lst zs_nil) sc__law_numbers.nd rfl (by first | exact Or.inl rfl | exact Or.inr rfl))
  (k_seq (sd_for (passes_of rfl) rfl (xi_q (i_any (q_var 0))) (g_n sc__law_numbers.nd rfl (by first | exact Or.inl rfl | exact Or.inr rfl))
  (k_seq (sd_set (i := 3) (x_q (q_call c__law_number mir_len (pas_of tk) (hr.mono (by decide)) (qs_cons (q_var 2) qs_nil))) sc__law_numbers.nd rfl (by first | exact Or.inl rfl | exact Or.inr rfl))
  (k_seq (sd_if (xt_q (b_cmp s_isN op_isN (vq (q_var 3)) (vq q_non)))
  (k_seq (sd_ret (x_q q_non))
  k_nil)
  k_nil)
  (k_seq (sd_drop (x_s (z_own (i := 1) ms_append PySem.F.plainAttrs_list PySem.F.slot_list_append PySem.F.type_list_append mt_append (zs_cons (z_q (W := We E) (q_ix s_ix ix_seq (vq (q_var 3)) (vq q_int))) zs_nil))))
  k_nil))))
  (k_frz (i := 1) (by decide) (k_seq (sd_ret (x_q (q_var 1)))
  k_nil))))
theorem ok__law_numbers {f : Addr} {fd : FuncData} (F : Fun K "_law_numbers" "_law_numbers" (top 52) f fd) (G : Gf K mg) (c__law_number : Cal P w K mg base "_law_number" 2 ["text"] (spF K mg 1 M__law_number)) : FnOk P w K mg base (L2.CX P w) 3 f fd ["texts"] (spF K mg 1 M__law_numbers) :=
  fn_q F sc__law_numbers fun cdv A outer s H E hr tk => b__law_numbers G c__law_number f cdv A outer s H E hr tk
theorem sc__law_no_text : FnScope N__law_no_text ["stream"] (defScope (top 53)) := ⟨rfl, rfl, rfl, by decide +kernel, rfl, by decide +kernel, by decide +kernel⟩
theorem b__law_no_text (G : Gf K mg) (c__law_pick : Cal P w K mg base "_law_pick" 3 ["stream", "items"] (spL K T 2 M__law_pick)) (f : Addr) (cdv : Value) (A : Around) (outer : List PySem.Env) (s : Shared) (H : Hp) (E : XK) (hr : Room 3 (Xb P w K mg base N__law_no_text "_law_no_text" (top 53) f cdv A outer s H E).A) (tk : Takes (Xb P w K mg base N__law_no_text "_law_no_text" (top 53) f cdv A outer s H E) (We E)) :
    SDs (Xb P w K mg base N__law_no_text "_law_no_text" (top 53) f cdv A outer s H E) (We E) T (defBody (top 53)) m__law_no_text :=
  (k_seq (sd_set (i := 1) (x_q (q_lst (qs_cons q_non (qs_cons q_int (qs_cons q_bl (qs_cons (q_tup qs_nil) (qs_cons (q_lst (qs_cons q_str qs_nil)) (qs_cons q_dic0 (qs_cons (q_tup (qs_cons q_str qs_nil)) (qs_cons q_str (qs_cons q_str (qs_cons q_str (qs_cons q_str (qs_cons q_str (qs_cons q_str (qs_cons q_str (qs_cons q_str (qs_cons q_str (qs_cons q_str (qs_cons q_str qs_nil)))))))))))))))))))) sc__law_no_text.nd rfl (by first | exact Or.inl rfl | exact Or.inr rfl))
  (k_seq (sd_ret (x_s (z_callL (i := 0) c__law_pick mirL_len (pas_of tk) (hr.mono (by decide)) (zs_cons (z_q (W := We E) (q_op s_add op_addAll (vq (q_var 1)) (vq (q_lst (qs_cons (q_op s_mul op_mulAll (vq q_str) (vq q_int)) (qs_cons q_str (qs_cons q_str (qs_cons q_str (qs_cons q_str (qs_cons q_str qs_nil)))))))))) zs_nil))))
  k_nil))
theorem ok__law_no_text {f : Addr} {fd : FuncData} (F : Fun K "_law_no_text" "_law_no_text" (top 53) f fd) (G : Gf K mg) (c__law_pick : Cal P w K mg base "_law_pick" 3 ["stream", "items"] (spL K T 2 M__law_pick)) : FnOk P w K mg base (L2.CX P w) 4 f fd ["stream"] (spL K T 1 M__law_no_text) :=
  fn_l F sc__law_no_text fun cdv A outer s H E hr tk => b__law_no_text G c__law_pick f cdv A outer s H E hr tk
theorem sc__law_integer : FnScope N__law_integer ["stream"] (defScope (top 54)) := ⟨rfl, rfl, rfl, by decide +kernel, rfl, by decide +kernel, by decide +kernel⟩
theorem b__law_integer (G : Gf K mg) (c__law_draw : Cal P w K mg base "_law_draw" 2 ["stream", "total"] (spL K T 2 M__law_draw)) (c__law_pick : Cal P w K mg base "_law_pick" 3 ["stream", "items"] (spL K T 2 M__law_pick)) (f : Addr) (cdv : Value) (A : Around) (outer : List PySem.Env) (s : Shared) (H : Hp) (E : XK) (hr : Room 3 (Xb P w K mg base N__law_integer "_law_integer" (top 54) f cdv A outer s H E).A) (tk : Takes (Xb P w K mg base N__law_integer "_law_integer" (top 54) f cdv A outer s H E) (We E)) :
    SDs (Xb P w K mg base N__law_integer "_law_integer" (top 54) f cdv A outer s H E) (We E) T (defBody (top 54)) m__law_integer :=
  (k_seq (sd_set (i := 1) (x_s (z_lst (zs_cons (z_q (W := We E) q_int) (zs_cons (z_q (W := We E) q_int) (zs_cons (z_q (W := We E) q_int) (zs_cons (z_q (W := We E) q_int) (zs_cons (z_q (W := We E) q_int) (zs_cons (z_q (W := We E) q_int) (zs_cons (z_callL (i := 0) c__law_draw mirL_len (pas_of tk) (hr.mono (by decide)) (zs_cons (z_q (W := We E) q_int) zs_nil)) (zs_cons (z_op s_add op_addAll (z_q (W := We E) (q_op s_pow op_powG (vq q_int) (vq q_int))) (z_callL (i := 0) c__law_draw mirL_len (pas_of tk) (hr.mono (by decide)) (zs_cons (z_q (W := We E) q_int) zs_nil))) zs_nil)))))))))) sc__law_integer.nd rfl (by first | exact Or.inl rfl | exact Or.inr rfl))
  (k_seq (sd_ret (x_s (z_op s_mul op_mulAll (z_ix s_ix ix_seq (z_q (W := We E) (q_lst (qs_cons q_int (qs_cons (q_neg q_int) qs_nil)))) (z_callL (i := 0) c__law_draw mirL_len (pas_of tk) (hr.mono (by decide)) (zs_cons (z_q (W := We E) q_int) zs_nil))) (z_callL (i := 0) c__law_pick mirL_len (pas_of tk) (hr.mono (by decide)) (zs_cons (z_q (W := We E) (q_var 1)) zs_nil)))))
  k_nil))
theorem ok__law_integer {f : Addr} {fd : FuncData} (F : Fun K "_law_integer" "_law_integer" (top 54) f fd) (G : Gf K mg) (c__law_draw : Cal P w K mg base "_law_draw" 2 ["stream", "total"] (spL K T 2 M__law_draw)) (c__law_pick : Cal P w K mg base "_law_pick" 3 ["stream", "items"] (spL K T 2 M__law_pick)) : FnOk P w K mg base (L2.CX P w) 4 f fd ["stream"] (spL K T 1 M__law_integer) :=
  fn_l F sc__law_integer fun cdv A outer s H E hr tk => b__law_integer G c__law_draw c__law_pick f cdv A outer s H E hr tk
theorem sc__law_lowest : FnScope N__law_lowest ["top", "below"] (defScope (top 55)) := ⟨rfl, rfl, rfl, by decide +kernel, rfl, by decide +kernel, by decide +kernel⟩
theorem b__law_lowest (G : Gf K mg) (c__law_common : Cal P w K mg base "_law_common" 2 ["one", "other"] (spF K mg 2 M__law_common)) (f : Addr) (cdv : Value) (A : Around) (outer : List PySem.Env) (s : Shared) (H : Hp) (E : XK) (hr : Room 2 (Xb P w K mg base N__law_lowest "_law_lowest" (top 55) f cdv A outer s H E).A) (tk : Takes (Xb P w K mg base N__law_lowest "_law_lowest" (top 55) f cdv A outer s H E) (We E)) :
    SDs (Xb P w K mg base N__law_lowest "_law_lowest" (top 55) f cdv A outer s H E) (We E) [] (defBody (top 55)) m__law_lowest :=
  (k_seq (sd_set (i := 2) (x_q (q_call c__law_common mir_len (pas_of tk) (hr.mono (by decide)) (qs_cons (q_bi s_abs call_abs G.b_abs (vs_cons (vq (q_var 0)) vs_nil)) (qs_cons (q_var 1) qs_nil)))) sc__law_lowest.nd rfl (by first | exact Or.inl rfl | exact Or.inr rfl))
  (k_seq (sd_ret (x_q (q_tup (qs_cons (q_op s_fdiv op_fdivW (vq (q_var 0)) (vq (q_var 2))) (qs_cons (q_op s_fdiv op_fdivW (vq (q_var 1)) (vq (q_var 2))) qs_nil)))))
  k_nil))
theorem ok__law_lowest {f : Addr} {fd : FuncData} (F : Fun K "_law_lowest" "_law_lowest" (top 55) f fd) (G : Gf K mg) (c__law_common : Cal P w K mg base "_law_common" 2 ["one", "other"] (spF K mg 2 M__law_common)) : FnOk P w K mg base (L2.CX P w) 3 f fd ["top", "below"] (spF K mg 2 M__law_lowest) :=
  fn_q F sc__law_lowest fun cdv A outer s H E hr tk => b__law_lowest G c__law_common f cdv A outer s H E hr tk
theorem sc__law_word_due : FnScope N__law_word_due ["alphabet", "text"] (defScope (top 56)) := ⟨rfl, rfl, rfl, by decide +kernel, rfl, by decide +kernel, by decide +kernel⟩
theorem b__law_word_due (G : Gf K mg) (c__law_is_word : Cal P w K mg base "_law_is_word" 2 ["alphabet", "value"] (spF K mg 2 M__law_is_word)) (f : Addr) (cdv : Value) (A : Around) (outer : List PySem.Env) (s : Shared) (H : Hp) (E : XK) (hr : Room 2 (Xb P w K mg base N__law_word_due "_law_word_due" (top 56) f cdv A outer s H E).A) (tk : Takes (Xb P w K mg base N__law_word_due "_law_word_due" (top 56) f cdv A outer s H E) (We E)) :
    SDs (Xb P w K mg base N__law_word_due "_law_word_due" (top 56) f cdv A outer s H E) (We E) [] (defBody (top 56)) m__law_word_due :=
  (k_seq (sd_set (i := 2) (x_q (q_if (b_cmp s_eq (op_eqD hr.units) (vq (q_var 1)) (vq q_str)) (q_tup qs_nil) (q_ty s_tuple call_tuple_of G.b_tuple (vs_cons (vq (q_m1 s_split PySem.F.slot_str_split PySem.F.type_str_split mt_split (vq (q_var 1)) (vq q_str))) vs_nil)))) sc__law_word_due.nd rfl (by first | exact Or.inl rfl | exact Or.inr rfl))
  (k_seq (sd_ret (x_q (q_if (b_w (w_and (b_cmp s_lt (op_ltD hr.units) (vq (q_bi s_len call_lenAll G.b_len (vs_cons (vq (q_var 2)) vs_nil))) (vq q_int)) (w_and1 (b_val (vq (q_call c__law_is_word mir_len (pas_of tk) (hr.mono (by decide)) (qs_cons (q_var 0) (qs_cons (q_var 2) qs_nil)))))))) (q_lst (qs_cons (q_var 2) qs_nil)) q_non)))
  k_nil))
theorem ok__law_word_due {f : Addr} {fd : FuncData} (F : Fun K "_law_word_due" "_law_word_due" (top 56) f fd) (G : Gf K mg) (c__law_is_word : Cal P w K mg base "_law_is_word" 2 ["alphabet", "value"] (spF K mg 2 M__law_is_word)) : FnOk P w K mg base (L2.CX P w) 3 f fd ["alphabet", "text"] (spF K mg 2 M__law_word_due) :=
  fn_q F sc__law_word_due fun cdv A outer s H E hr tk => b__law_word_due G c__law_is_word f cdv A outer s H E hr tk
theorem sc__law_vector_due : FnScope N__law_vector_due ["text"] (defScope (top 57)) := ⟨rfl, rfl, rfl, by decide +kernel, rfl, by decide +kernel, by decide +kernel⟩
theorem b__law_vector_due (G : Gf K mg) (c__law_numbers : Cal P w K mg base "_law_numbers" 3 ["texts"] (spF K mg 1 M__law_numbers)) (f : Addr) (cdv : Value) (A : Around) (outer : List PySem.Env) (s : Shared) (H : Hp) (E : XK) (hr : Room 3 (Xb P w K mg base N__law_vector_due "_law_vector_due" (top 57) f cdv A outer s H E).A) (tk : Takes (Xb P w K mg base N__law_vector_due "_law_vector_due" (top 57) f cdv A outer s H E) (We E)) :
    SDs (Xb P w K mg base N__law_vector_due "_law_vector_due" (top 57) f cdv A outer s H E) (We E) [] (defBody (top 57)) m__law_vector_due :=
  (k_seq (sd_set (i := 1) (x_q (q_call c__law_numbers mir_len (pas_of tk) (hr.mono (by decide)) (qs_cons (q_m1 s_split PySem.F.slot_str_split PySem.F.type_str_split mt_split (vq (q_var 0)) (vq q_str)) qs_nil))) sc__law_vector_due.nd rfl (by first | exact Or.inl rfl | exact Or.inr rfl))
  (k_seq (sd_ret (x_q (q_if (b_w (w_or (b_cmp s_isN op_isN (vq (q_var 1)) (vq q_non)) (w_or1 (b_cmp s_gt (op_gtD hr.units) (vq (q_bi s_len call_lenAll G.b_len (vs_cons (vq (q_var 1)) vs_nil))) (vq q_int))))) q_non (q_lst (qs_cons (q_ty s_tuple call_tuple_of G.b_tuple (vs_cons (vq (q_var 1)) vs_nil)) qs_nil)))))
  k_nil))
theorem ok__law_vector_due {f : Addr} {fd : FuncData} (F : Fun K "_law_vector_due" "_law_vector_due" (top 57) f fd) (G : Gf K mg) (c__law_numbers : Cal P w K mg base "_law_numbers" 3 ["texts"] (spF K mg 1 M__law_numbers)) : FnOk P w K mg base (L2.CX P w) 4 f fd ["text"] (spF K mg 1 M__law_vector_due) :=
  fn_q F sc__law_vector_due fun cdv A outer s H E hr tk => b__law_vector_due G c__law_numbers f cdv A outer s H E hr tk
theorem sc__law_fraction_due : FnScope N__law_fraction_due ["text"] (defScope (top 58)) := ⟨rfl, rfl, rfl, by decide +kernel, rfl, by decide +kernel, by decide +kernel⟩
theorem b__law_fraction_due (G : Gf K mg) (c__law_numbers : Cal P w K mg base "_law_numbers" 3 ["texts"] (spF K mg 1 M__law_numbers)) (c__law_common : Cal P w K mg base "_law_common" 2 ["one", "other"] (spF K mg 2 M__law_common)) (f : Addr) (cdv : Value) (A : Around) (outer : List PySem.Env) (s : Shared) (H : Hp) (E : XK) (hr : Room 3 (Xb P w K mg base N__law_fraction_due "_law_fraction_due" (top 58) f cdv A outer s H E).A) (tk : Takes (Xb P w K mg base N__law_fraction_due "_law_fraction_due" (top 58) f cdv A outer s H E) (We E)) :
    SDs (Xb P w K mg base N__law_fraction_due "_law_fraction_due" (top 58) f cdv A outer s H E) (We E) [] (defBody (top 58)) m__law_fraction_due :=
  (k_seq (sd_set (i := 1) (x_q (q_call c__law_numbers mir_len (pas_of tk) (hr.mono (by decide)) (qs_cons (q_m1 s_split PySem.F.slot_str_split PySem.F.type_str_split mt_split (vq (q_var 0)) (vq q_str)) qs_nil))) sc__law_fraction_due.nd rfl (by first | exact Or.inl rfl | exact Or.inr rfl))
  (k_seq (sd_if (xt_q (b_w (w_or (b_cmp s_isN op_isN (vq (q_var 1)) (vq q_non)) (w_or1 (b_cmp s_gt (op_gtD hr.units) (vq (q_bi s_len call_lenAll G.b_len (vs_cons (vq (q_var 1)) vs_nil))) (vq q_int))))))
  (k_seq (sd_ret (x_q q_non))
  k_nil)
  k_nil)
  (k_seq (sd_if (xt_q (b_cmp s_eq (op_eqD hr.units) (vq (q_bi s_len call_lenAll G.b_len (vs_cons (vq (q_var 1)) vs_nil))) (vq q_int)))
  (k_seq (sd_ret (x_q (q_lst (qs_cons (q_tup (qs_cons (q_ix s_ix ix_seq (vq (q_var 1)) (vq q_int)) (qs_cons q_int qs_nil))) qs_nil))))
  k_nil)
  k_nil)
  (k_seq (sd_asg (x_q (q_var 1)) (g_tup (n := 2) rfl (gs_cons (g_n sc__law_fraction_due.nd rfl (by first | exact Or.inl rfl | exact Or.inr rfl)) (gs_cons (g_n sc__law_fraction_due.nd rfl (by first | exact Or.inl rfl | exact Or.inr rfl)) gs_nil))))
  (k_seq (sd_ret (x_q (q_if (b_w (w_and (b_cmp s_gt (op_gtD hr.units) (vq (q_var 3)) (vq q_int)) (w_and1 (b_cmp s_eq (op_eqD hr.units) (vq (q_call c__law_common mir_len (pas_of tk) (hr.mono (by decide)) (qs_cons (q_bi s_abs call_abs G.b_abs (vs_cons (vq (q_var 2)) vs_nil)) (qs_cons (q_var 3) qs_nil)))) (vq q_int))))) (q_lst (qs_cons (q_tup (qs_cons (q_var 2) (qs_cons (q_var 3) qs_nil))) qs_nil)) q_non)))
  k_nil)))))
theorem ok__law_fraction_due {f : Addr} {fd : FuncData} (F : Fun K "_law_fraction_due" "_law_fraction_due" (top 58) f fd) (G : Gf K mg) (c__law_numbers : Cal P w K mg base "_law_numbers" 3 ["texts"] (spF K mg 1 M__law_numbers)) (c__law_common : Cal P w K mg base "_law_common" 2 ["one", "other"] (spF K mg 2 M__law_common)) : FnOk P w K mg base (L2.CX P w) 4 f fd ["text"] (spF K mg 1 M__law_fraction_due) :=
  fn_q F sc__law_fraction_due fun cdv A outer s H E hr tk => b__law_fraction_due G c__law_numbers c__law_common f cdv A outer s H E hr tk
theorem sc__law_right : FnScope N__law_right ["stream", "alphabet"] (defScope (top 59)) := ⟨rfl, rfl, rfl, by decide +kernel, rfl, by decide +kernel, by decide +kernel⟩
theorem b__law_right (G : Gf K mg) (c__law_word : Cal P w K mg base "_law_word" 4 ["stream", "alphabet", "high"] (spL K T 3 M__law_word)) (c__law_draw : Cal P w K mg base "_law_draw" 2 ["stream", "total"] (spL K T 2 M__law_draw)) (c__law_integer : Cal P w K mg base "_law_integer" 4 ["stream"] (spL K T 1 M__law_integer)) (c__law_lowest : Cal P w K mg base "_law_lowest" 3 ["top", "below"] (spF K mg 2 M__law_lowest)) (c_format_fraction : Cal P w K mg base "format_fraction" 5 ["fraction"] (spF K mg 1 M_format_fraction)) (c_format_vector : Cal P w K mg base "format_vector" 5 ["vector"] (spF K mg 1 M_format_vector)) (c_format_word : Cal P w K mg base "format_word" 5 ["alphabet", "word"] (spF K mg 2 M_format_word)) (c_parse_fraction : Cal P w K mg base "parse_fraction" 4 ["text"] (spF K mg 1 M_parse_fraction)) (c_parse_vector : Cal P w K mg base "parse_vector" 5 ["text"] (spF K mg 1 M_parse_vector)) (c_parse_word : Cal P w K mg base "parse_word" 5 ["alphabet", "text"] (spF K mg 2 M_parse_word)) (c__law_spoilt : Cal P w K mg base "_law_spoilt" 4 ["stream", "text"] (spL K T 2 M__law_spoilt)) (c__law_word_due : Cal P w K mg base "_law_word_due" 3 ["alphabet", "text"] (spF K mg 2 M__law_word_due)) (c__law_vector_due : Cal P w K mg base "_law_vector_due" 4 ["text"] (spF K mg 1 M__law_vector_due)) (c__law_fraction_due : Cal P w K mg base "_law_fraction_due" 4 ["text"] (spF K mg 1 M__law_fraction_due)) (c__law_no_text : Cal P w K mg base "_law_no_text" 4 ["stream"] (spL K T 1 M__law_no_text)) (tol : Tol K mg "_law_told" "call" "ParseError" (top 50) isPE) {cc Pt : Addr} (TB : TabB base mg cc Pt) (hmT : (Pt, ("_law_right" : Str) ++ ".<locals>." ++ "<lambda>") ∈ T) (hu : ∀ p ∈ T, p.1 = Pt → p.2 = ("_law_right" : Str) ++ ".<locals>." ++ "<lambda>") (f : Addr) (A : Around) (outer : List PySem.Env) (s : Shared) (H : Hp) (E : XK) (hgd : (Xb P w K mg base N__law_right "_law_right" (top 59) f (.ref cc) A outer s H E).A.guards = some []) (hr : Room 8 (Xb P w K mg base N__law_right "_law_right" (top 59) f (.ref cc) A outer s H E).A) (tk : Takes (Xb P w K mg base N__law_right "_law_right" (top 59) f (.ref cc) A outer s H E) (We E)) :
    SDs (Xb P w K mg base N__law_right "_law_right" (top 59) f (.ref cc) A outer s H E) (We E) T (defBody (top 59)) m__law_right :=
  (k_seq (sd_set (i := 2) (x_s (z_callL (i := 0) c__law_word mirL_len (pas_of tk) (hr.mono (by decide)) (zs_cons (z_q (W := We E) (q_var 1)) (zs_cons (z_q (W := We E) q_int) zs_nil)))) sc__law_right.nd rfl (by first | exact Or.inl rfl | exact Or.inr rfl))
  (k_seq (sd_set (i := 3) (x_s (z_ty s_tuple call_tuple_of G.b_tuple (zs_cons (z_lc (own := [("turn", 7)]) rfl sc__law_right.nd (zi_rng (zs_cons (z_op s_add op_addAll (z_q (W := We E) q_int) (z_callL (i := 0) c__law_draw mirL_len (pas_of tk) (hr.mono (by decide)) (zs_cons (z_q (W := We E) q_int) zs_nil))) zs_nil) G.b_range) (by first | rfl | kernel_rfl) (wr_n (by decide)) (fun _ _ _ _ _ => (g_n sc__law_right.nd rfl (by first | exact Or.inl rfl | exact Or.inr rfl))) (fun Y hY => by obtain ⟨s1, H1, C1, cl1, fp1, rfl⟩ := hY; exact ys_nil) (fun Y hY => by obtain ⟨s1, H1, C1, cl1, fp1, rfl⟩ := hY; exact (z_callL (i := 0) c__law_integer mirL_len pasF (hr.mono (by decide)) zs_nil))) zs_nil))) sc__law_right.nd rfl (by first | exact Or.inl rfl | exact Or.inr rfl))
  (k_seq (sd_set (i := 4) (x_s (z_call c__law_lowest mir_len (pas_of tk) (hr.mono (by decide)) (zs_cons (z_callL (i := 0) c__law_integer mirL_len (pas_of tk) (hr.mono (by decide)) zs_nil) (zs_cons (z_bi s_max2 (call_max2 rfl) G.b_max (zs_cons (z_q (W := We E) q_int) (zs_cons (z_callL (i := 0) c__law_integer mirL_len (pas_of tk) (hr.mono (by decide)) zs_nil) zs_nil))) zs_nil)))) sc__law_right.nd rfl (by first | exact Or.inl rfl | exact Or.inr rfl))
  (k_seq (sd_new (i := 5) (by decide) (n_lst (zs_cons (z_q (W := We E) (q_if (b_cmp s_ne (op_neD hr.units) (vq (q_var 2)) (vq (q_tup qs_nil))) (q_m1 s_join PySem.F.slot_str_join PySem.F.type_str_join mt_join (vq q_str) (vq (q_var 2))) q_str)) (zs_cons (z_q (W := We E) (q_m1 s_join PySem.F.slot_str_join PySem.F.type_str_join mt_join (vq q_str) (vq (q_lc (own := [("number", 13)]) rfl rfl rfl tk sc__law_right.nd (iv (i_any (q_var 3))) (by first | rfl | kernel_rfl) (wr_n (by decide)) (fun _ _ _ _ _ _ => (g_n sc__law_right.nd rfl (by first | exact Or.inl rfl | exact Or.inr rfl))) (fun Y V hY pas => by obtain ⟨s1, H1, C1, cl1, fp1, xe1, rfl⟩ := hY; exact bs_nil) (fun Y V hY pas => by obtain ⟨s1, H1, C1, cl1, fp1, xe1, rfl⟩ := hY; exact (q_ty s_str call_str_int G.b_str (vs_cons (vq (q_var 13)) vs_nil))))))) zs_nil))) sc__law_right.nd rfl (by first | exact Or.inl rfl | exact Or.inr rfl))
  (k_seq (sd_drop (x_s (z_own (i := 5) ms_append PySem.F.plainAttrs_list PySem.F.slot_list_append PySem.F.type_list_append mt_append (zs_cons (z_q (W := We E) (q_if (b_cmp s_eq (op_eqD hr.units) (vq (q_ix s_ix ix_seq (vq (q_var 4)) (vq q_int))) (vq q_int)) (q_ty s_str call_str_int G.b_str (vs_cons (vq (q_ix s_ix ix_seq (vq (q_var 4)) (vq q_int))) vs_nil)) (q_op s_add op_addAll (vq (q_op s_add op_addAll (vq (q_ty s_str call_str_int G.b_str (vs_cons (vq (q_ix s_ix ix_seq (vq (q_var 4)) (vq q_int))) vs_nil))) (vq q_str))) (vq (q_ty s_str call_str_int G.b_str (vs_cons (vq (q_ix s_ix ix_seq (vq (q_var 4)) (vq q_int))) vs_nil)))))) zs_nil))))
  (k_frz (i := 5) (by decide) (k_seq (sd_if (xt_q (b_cmp s_ne (op_neD hr.units) (vq (q_lst (qs_cons (q_call c_format_word mir_len (pas_of tk) (hr.mono (by decide)) (qs_cons (q_var 1) (qs_cons (q_var 2) qs_nil))) (qs_cons (q_call c_format_vector mir_len (pas_of tk) (hr.mono (by decide)) (qs_cons (q_var 3) qs_nil)) (qs_cons (q_call c_format_fraction mir_len (pas_of tk) (hr.mono (by decide)) (qs_cons (q_var 4) qs_nil)) qs_nil))))) (vq (q_var 5))))
  (k_seq (sd_ret (x_q q_bl))
  k_nil)
  k_nil)
  (k_seq (sd_set (i := 6) (x_q (q_lst (qs_cons (q_call c_parse_word mir_len (pas_of tk) (hr.mono (by decide)) (qs_cons (q_var 1) (qs_cons (q_ix s_ix ix_seq (vq (q_var 5)) (vq q_int)) qs_nil))) (qs_cons (q_call c_parse_vector mir_len (pas_of tk) (hr.mono (by decide)) (qs_cons (q_ix s_ix ix_seq (vq (q_var 5)) (vq q_int)) qs_nil)) (qs_cons (q_call c_parse_fraction mir_len (pas_of tk) (hr.mono (by decide)) (qs_cons (q_ix s_ix ix_seq (vq (q_var 5)) (vq q_int)) qs_nil)) qs_nil))))) sc__law_right.nd rfl (by first | exact Or.inl rfl | exact Or.inr rfl))
  (k_seq (sd_if (xt_q (b_cmp s_ne (op_neD hr.units) (vq (q_bi s_repr (call_reprD hgd hr.units) G.b_repr (vs_cons (vq (q_var 6)) vs_nil))) (vq (q_bi s_repr (call_reprD hgd hr.units) G.b_repr (vs_cons (vq (q_lst (qs_cons (q_var 2) (qs_cons (q_var 3) (qs_cons (q_var 4) qs_nil))))) vs_nil)))))
  (k_seq (sd_ret (x_q q_bl))
  k_nil)
  k_nil)
  (k_seq (sd_for (passes_of rfl) rfl (xi_q (i_rng (qs_cons q_int qs_nil) G.b_range)) (g_n sc__law_right.nd rfl (by first | exact Or.inl rfl | exact Or.inr rfl))
  (k_seq (sd_asg (x_s (z_lc (own := [("text", 12)]) rfl sc__law_right.nd (zi_q (W := We E) (i_any (q_var 5))) (by first | rfl | kernel_rfl) (wr_n (by decide)) (fun _ _ _ _ _ => (g_n sc__law_right.nd rfl (by first | exact Or.inl rfl | exact Or.inr rfl))) (fun Y hY => by obtain ⟨s1, H1, C1, cl1, fp1, rfl⟩ := hY; exact ys_nil) (fun Y hY => by obtain ⟨s1, H1, C1, cl1, fp1, rfl⟩ := hY; exact (z_callL (i := 0) c__law_spoilt mirL_len pasF (hr.mono (by decide)) (zs_cons (z_q (W := (fun _ _ _ _ => False)) (q_var 12)) zs_nil))))) (g_tup (n := 3) rfl (gs_cons (g_n sc__law_right.nd rfl (by first | exact Or.inl rfl | exact Or.inr rfl)) (gs_cons (g_n sc__law_right.nd rfl (by first | exact Or.inl rfl | exact Or.inr rfl)) (gs_cons (g_n sc__law_right.nd rfl (by first | exact Or.inl rfl | exact Or.inr rfl)) gs_nil)))))
  (k_seq (sd_if (xt_s (y_cmp s_ne (op_neD hr.units) (z_bi s_repr (call_reprD hgd hr.units) G.b_repr (zs_cons (z_told (k := 5) tol sc__law_told (by rfl) (by rfl) (Or.inl rfl) (by decide) (by decide) (by decide) (by decide) TB (by rfl) rfl hmT hu (hr.mono (by decide)) (lamS_by (by first | rfl | kernel_rfl)) (by rfl) (fun _ _ _ _ _ => rfl) (fun Y V hY pas2 => by obtain ⟨A2, outer2, s2, H2, E2, f2, c2, rfl, hr⟩ := hY; exact (q_call c_parse_word mir_len pas2 (hr.mono (by decide)) (qs_cons (q_var 1) (qs_cons (q_var 9) qs_nil))))) zs_nil)) (z_q (W := We E) (q_bi s_repr (call_reprD hgd hr.units) G.b_repr (vs_cons (vq (q_call c__law_word_due mir_len (pas_of tk) (hr.mono (by decide)) (qs_cons (q_var 1) (qs_cons (q_var 9) qs_nil)))) vs_nil)))))
  (k_seq (sd_ret (x_q q_bl))
  k_nil)
  k_nil)
  (k_seq (sd_if (xt_s (y_cmp s_ne (op_neD hr.units) (z_bi s_repr (call_reprD hgd hr.units) G.b_repr (zs_cons (z_told (k := 5) tol sc__law_told (by rfl) (by rfl) (Or.inl rfl) (by decide) (by decide) (by decide) (by decide) TB (by rfl) rfl hmT hu (hr.mono (by decide)) (lamS_by (by first | rfl | kernel_rfl)) (by rfl) (fun _ _ _ _ _ => rfl) (fun Y V hY pas2 => by obtain ⟨A2, outer2, s2, H2, E2, f2, c2, rfl, hr⟩ := hY; exact (q_call c_parse_vector mir_len pas2 (hr.mono (by decide)) (qs_cons (q_var 10) qs_nil)))) zs_nil)) (z_q (W := We E) (q_bi s_repr (call_reprD hgd hr.units) G.b_repr (vs_cons (vq (q_call c__law_vector_due mir_len (pas_of tk) (hr.mono (by decide)) (qs_cons (q_var 10) qs_nil))) vs_nil)))))
  (k_seq (sd_ret (x_q q_bl))
  k_nil)
  k_nil)
  (k_seq (sd_if (xt_s (y_cmp s_ne (op_neD hr.units) (z_bi s_repr (call_reprD hgd hr.units) G.b_repr (zs_cons (z_told (k := 5) tol sc__law_told (by rfl) (by rfl) (Or.inl rfl) (by decide) (by decide) (by decide) (by decide) TB (by rfl) rfl hmT hu (hr.mono (by decide)) (lamS_by (by first | rfl | kernel_rfl)) (by rfl) (fun _ _ _ _ _ => rfl) (fun Y V hY pas2 => by obtain ⟨A2, outer2, s2, H2, E2, f2, c2, rfl, hr⟩ := hY; exact (q_call c_parse_fraction mir_len pas2 (hr.mono (by decide)) (qs_cons (q_var 11) qs_nil)))) zs_nil)) (z_q (W := We E) (q_bi s_repr (call_reprD hgd hr.units) G.b_repr (vs_cons (vq (q_call c__law_fraction_due mir_len (pas_of tk) (hr.mono (by decide)) (qs_cons (q_var 11) qs_nil))) vs_nil)))))
  (k_seq (sd_ret (x_q q_bl))
  k_nil)
  k_nil)
  k_nil)))))
  (k_seq (sd_set (i := 8) (x_s (z_callL (i := 0) c__law_no_text mirL_len (pas_of tk) (hr.mono (by decide)) zs_nil)) sc__law_right.nd rfl (by first | exact Or.inl rfl | exact Or.inr rfl))
  (k_seq (sd_new (i := 6) (by decide) (n_lst (zs_cons (z_told (k := 5) tol sc__law_told (by rfl) (by rfl) (Or.inl rfl) (by decide) (by decide) (by decide) (by decide) TB (by rfl) rfl hmT hu (hr.mono (by decide)) (lamS_by (by first | rfl | kernel_rfl)) (by rfl) (fun _ _ _ _ _ => rfl) (fun Y V hY pas2 => by obtain ⟨A2, outer2, s2, H2, E2, f2, c2, rfl, hr⟩ := hY; exact (q_call c_parse_word mir_len pas2 (hr.mono (by decide)) (qs_cons (q_var 1) (qs_cons (q_var 8) qs_nil))))) zs_nil)) sc__law_right.nd rfl (by first | exact Or.inl rfl | exact Or.inr rfl))
  (k_seq (sd_drop (x_s (z_own (i := 6) ms_append PySem.F.plainAttrs_list PySem.F.slot_list_append PySem.F.type_list_append mt_append (zs_cons (z_told (k := 5) tol sc__law_told (by rfl) (by rfl) (Or.inl rfl) (by decide) (by decide) (by decide) (by decide) TB (by rfl) rfl hmT hu (hr.mono (by decide)) (lamS_by (by first | rfl | kernel_rfl)) (by rfl) (fun _ _ _ _ _ => rfl) (fun Y V hY pas2 => by obtain ⟨A2, outer2, s2, H2, E2, f2, c2, rfl, hr⟩ := hY; exact (q_call c_parse_vector mir_len pas2 (hr.mono (by decide)) (qs_cons (q_var 8) qs_nil)))) zs_nil))))
  (k_frz (i := 6) (by decide) (k_seq (sd_ret (x_s (z_cmp s_eq (op_eqD hr.units) (z_op s_add op_addAll (z_q (W := We E) (q_var 6)) (z_lst (zs_cons (z_told (k := 5) tol sc__law_told (by rfl) (by rfl) (Or.inl rfl) (by decide) (by decide) (by decide) (by decide) TB (by rfl) rfl hmT hu (hr.mono (by decide)) (lamS_by (by first | rfl | kernel_rfl)) (by rfl) (fun _ _ _ _ _ => rfl) (fun Y V hY pas2 => by obtain ⟨A2, outer2, s2, H2, E2, f2, c2, rfl, hr⟩ := hY; exact (q_call c_parse_fraction mir_len pas2 (hr.mono (by decide)) (qs_cons (q_var 8) qs_nil)))) zs_nil))) (z_q (W := We E) (q_rep (qs_cons q_non qs_nil) q_int)))))
  k_nil)))))))))))))))
theorem ok__law_right {f : Addr} {fd : FuncData} (tol : Tol K mg "_law_told" "call" "ParseError" (top 50) isPE) {cc Pt : Addr} (TB : TabB base mg cc Pt) (hmT : (Pt, ("_law_right" : Str) ++ ".<locals>." ++ "<lambda>") ∈ T) (hu : ∀ p ∈ T, p.1 = Pt → p.2 = ("_law_right" : Str) ++ ".<locals>." ++ "<lambda>") (F : FunC K "_law_right" (top 59) f cc fd) (G : Gf K mg) (c__law_word : Cal P w K mg base "_law_word" 4 ["stream", "alphabet", "high"] (spL K T 3 M__law_word)) (c__law_draw : Cal P w K mg base "_law_draw" 2 ["stream", "total"] (spL K T 2 M__law_draw)) (c__law_integer : Cal P w K mg base "_law_integer" 4 ["stream"] (spL K T 1 M__law_integer)) (c__law_lowest : Cal P w K mg base "_law_lowest" 3 ["top", "below"] (spF K mg 2 M__law_lowest)) (c_format_fraction : Cal P w K mg base "format_fraction" 5 ["fraction"] (spF K mg 1 M_format_fraction)) (c_format_vector : Cal P w K mg base "format_vector" 5 ["vector"] (spF K mg 1 M_format_vector)) (c_format_word : Cal P w K mg base "format_word" 5 ["alphabet", "word"] (spF K mg 2 M_format_word)) (c_parse_fraction : Cal P w K mg base "parse_fraction" 4 ["text"] (spF K mg 1 M_parse_fraction)) (c_parse_vector : Cal P w K mg base "parse_vector" 5 ["text"] (spF K mg 1 M_parse_vector)) (c_parse_word : Cal P w K mg base "parse_word" 5 ["alphabet", "text"] (spF K mg 2 M_parse_word)) (c__law_spoilt : Cal P w K mg base "_law_spoilt" 4 ["stream", "text"] (spL K T 2 M__law_spoilt)) (c__law_word_due : Cal P w K mg base "_law_word_due" 3 ["alphabet", "text"] (spF K mg 2 M__law_word_due)) (c__law_vector_due : Cal P w K mg base "_law_vector_due" 4 ["text"] (spF K mg 1 M__law_vector_due)) (c__law_fraction_due : Cal P w K mg base "_law_fraction_due" 4 ["text"] (spF K mg 1 M__law_fraction_due)) (c__law_no_text : Cal P w K mg base "_law_no_text" 4 ["stream"] (spL K T 1 M__law_no_text)) : FnG P w K mg base 9 f fd ["stream", "alphabet"] (spL K T 2 M__law_right) :=
  fnG_l F sc__law_right fun A outer s H E hgd hr tk => b__law_right G c__law_word c__law_draw c__law_integer c__law_lowest c_format_fraction c_format_vector c_format_word c_parse_fraction c_parse_vector c_parse_word c__law_spoilt c__law_word_due c__law_vector_due c__law_fraction_due c__law_no_text tol TB hmT hu f A outer s H E hgd hr tk
theorem sc_law : FnScope N_law ["script"] (defScope (top 60)) := ⟨rfl, rfl, rfl, by decide +kernel, rfl, by decide +kernel, by decide +kernel⟩
theorem b_law (G : Gf K mg) (c__law_stream : Cal P w K mg base "_law_stream" 2 ["script", "at"] (spN K 2 M__law_stream)) (c__law_alphabet : Cal P w K mg base "_law_alphabet" 4 ["stream", "total"] (spL K T 2 M__law_alphabet)) (c__law_draw : Cal P w K mg base "_law_draw" 2 ["stream", "total"] (spL K T 2 M__law_draw)) (c__law_right : CalG P w K mg base "_law_right" 9 ["stream", "alphabet"] (spL K T 2 M__law_right)) (c_parse_word : Cal P w K mg base "parse_word" 5 ["alphabet", "text"] (spF K mg 2 M_parse_word)) (c_parse_vector : Cal P w K mg base "parse_vector" 5 ["text"] (spF K mg 1 M_parse_vector)) (c_parse_fraction : Cal P w K mg base "parse_fraction" 4 ["text"] (spF K mg 1 M_parse_fraction)) (c_format_fraction : Cal P w K mg base "format_fraction" 5 ["fraction"] (spF K mg 1 M_format_fraction)) (c_format_vector : Cal P w K mg base "format_vector" 5 ["vector"] (spF K mg 1 M_format_vector)) (tol : Tol K mg "_law_told" "call" "ParseError" (top 50) isPE) {cc Pt : Addr} (TB : TabB base mg cc Pt) (hmT : (Pt, ("law" : Str) ++ ".<locals>." ++ "<lambda>") ∈ T) (hu : ∀ p ∈ T, p.1 = Pt → p.2 = ("law" : Str) ++ ".<locals>." ++ "<lambda>") (f : Addr) (A : Around) (outer : List PySem.Env) (s : Shared) (H : Hp) (E : XK) (hgd : (Xb P w K mg base N_law "law" (top 60) f (.ref cc) A outer s H E).A.guards = some []) (hr : Room 12 (Xb P w K mg base N_law "law" (top 60) f (.ref cc) A outer s H E).A) (tk : Takes (Xb P w K mg base N_law "law" (top 60) f (.ref cc) A outer s H E) (We E)) :
    SDs (Xb P w K mg base N_law "law" (top 60) f (.ref cc) A outer s H E) (We E) T (defBody (top 60)) m_law :=
  (k_seq (sd_for (passes_of rfl) rfl (xi_q (i_rng (qs_cons (q_bi s_max2 (call_max2 rfl) G.b_max (vs_cons (vq q_int) (vs_cons (vq (q_bi s_min2 (call_min2 rfl) G.b_min (vs_cons (vq q_int) (vs_cons (vq (q_bi s_len call_lenAll G.b_len (vs_cons (vq (q_var 0)) vs_nil))) vs_nil)))) vs_nil))) qs_nil) G.b_range)) (g_n sc_law.nd rfl (by first | exact Or.inl rfl | exact Or.inr rfl))
  (k_seq (sd_new (i := 4) (by decide) (n_call c__law_stream mirN_len (pas_of tk) (hr.mono (by decide)) (zs_cons (z_q (W := We E) (q_var 0)) (zs_cons (z_q (W := We E) (q_var 1)) zs_nil))) sc_law.nd rfl (by first | exact Or.inl rfl | exact Or.inr rfl))
  (k_seq (sd_set (i := 5) (x_s (z_callL (i := 4) c__law_alphabet mirL_len (pas_of tk) (hr.mono (by decide)) (zs_cons (z_op s_add op_addAll (z_q (W := We E) q_int) (z_callL (i := 4) c__law_draw mirL_len (pas_of tk) (hr.mono (by decide)) (zs_cons (z_q (W := We E) q_int) zs_nil))) zs_nil))) sc_law.nd rfl (by first | exact Or.inl rfl | exact Or.inr rfl))
  (k_seq (sd_for (passes_of rfl) rfl (xi_q (i_rng (qs_cons q_int qs_nil) G.b_range)) (g_n sc_law.nd rfl (by first | exact Or.inl rfl | exact Or.inr rfl))
  (k_seq (sd_if (xt_s (y_not (y_val (z_callLG (i := 4) c__law_right hgd mirL_len (pas_of tk) (hr.mono (by decide)) (zs_cons (z_q (W := We E) (q_var 5)) zs_nil)))))
  (k_seq (sd_ret (x_q q_bl))
  k_nil)
  k_nil)
  k_nil))
  k_nil))))
  (k_seq (sd_set (i := 2) (x_q (q_tup (qs_cons q_str (qs_cons q_str qs_nil)))) sc_law.nd rfl (by first | exact Or.inl rfl | exact Or.inr rfl))
  (k_seq (sd_if (xt_q (b_cmp s_ne (op_neD hr.units) (vq (q_call c_parse_word mir_len (pas_of tk) (hr.mono (by decide)) (qs_cons (q_var 2) (qs_cons (q_m1 s_join PySem.F.slot_str_join PySem.F.type_str_join mt_join (vq q_str) (vq (q_rep (qs_cons q_str qs_nil) q_int))) qs_nil)))) (vq (q_op s_mul op_mulAll (vq (q_tup (qs_cons q_str qs_nil))) (vq q_int)))))
  (k_seq (sd_ret (x_q q_bl))
  k_nil)
  k_nil)
  (k_seq (sd_if (xt_s (y_cmp s_notN op_notN (z_told (k := 9) tol sc__law_told (by rfl) (by rfl) (Or.inl rfl) (by decide) (by decide) (by decide) (by decide) TB (by rfl) rfl hmT hu (hr.mono (by decide)) (lamS_by (by first | rfl | kernel_rfl)) (by rfl) (fun _ _ _ _ _ => rfl) (fun Y V hY pas2 => by obtain ⟨A2, outer2, s2, H2, E2, f2, c2, rfl, hr⟩ := hY; exact (q_call c_parse_word mir_len pas2 (hr.mono (by decide)) (qs_cons (q_var 2) (qs_cons (q_m1 s_join PySem.F.slot_str_join PySem.F.type_str_join mt_join (vq q_str) (vq (q_rep (qs_cons q_str qs_nil) q_int))) qs_nil))))) (z_q (W := We E) q_non)))
  (k_seq (sd_ret (x_q q_bl))
  k_nil)
  k_nil)
  (k_seq (sd_set (i := 3) (x_q (q_lst (qs_cons (q_op s_add op_addAll (vq q_str) (vq (q_op s_mul op_mulAll (vq q_str) (vq q_int)))) (qs_cons (q_op s_add op_addAll (vq q_str) (vq (q_op s_mul op_mulAll (vq q_str) (vq q_int)))) (qs_cons (q_op s_mul op_mulAll (vq q_str) (vq q_int)) (qs_cons (q_op s_add op_addAll (vq q_str) (vq (q_op s_mul op_mulAll (vq q_str) (vq q_int)))) (qs_cons (q_op s_add op_addAll (vq q_str) (vq (q_op s_mul op_mulAll (vq q_str) (vq q_int)))) qs_nil))))))) sc_law.nd rfl (by first | exact Or.inl rfl | exact Or.inr rfl))
  (k_seq (sd_if (xt_s (y_cmp s_ne (op_neD hr.units) (z_lc (own := [("text", 9)]) rfl sc_law.nd (zi_q (W := We E) (i_any (q_var 3))) (by first | rfl | kernel_rfl) (wr_n (by decide)) (fun _ _ _ _ _ => (g_n sc_law.nd rfl (by first | exact Or.inl rfl | exact Or.inr rfl))) (fun Y hY => by obtain ⟨s1, H1, C1, cl1, fp1, rfl⟩ := hY; exact (ys_one (y_cmp s_notN op_notN (z_told (k := 9) tol sc__law_told (by rfl) (by rfl) (Or.inl rfl) (by decide) (by decide) (by decide) (by decide) TB (by rfl) rfl hmT hu (hr.mono (by decide)) (lamS_by (by first | rfl | kernel_rfl)) (by rfl) (fun _ _ _ _ _ => rfl) (fun Y V hY pas2 => by obtain ⟨A2, outer2, s2, H2, E2, f2, c2, rfl, hr⟩ := hY; exact (q_call c_parse_vector mir_len pas2 (hr.mono (by decide)) (qs_cons (q_var 9) qs_nil)))) (z_q (W := (fun _ _ _ _ => False)) q_non)))) (fun Y hY => by obtain ⟨s1, H1, C1, cl1, fp1, rfl⟩ := hY; exact (z_q (W := (fun _ _ _ _ => False)) (q_var 9)))) (z_q (W := We E) (q_lst qs_nil))))
  (k_seq (sd_ret (x_q q_bl))
  k_nil)
  k_nil)
  (k_seq (sd_set (i := 3) (x_q (q_lst (qs_cons (q_op s_add op_addAll (vq q_str) (vq (q_op s_mul op_mulAll (vq q_str) (vq q_int)))) (qs_cons (q_op s_mul op_mulAll (vq q_str) (vq q_int)) (qs_cons (q_op s_add op_addAll (vq (q_op s_mul op_mulAll (vq q_str) (vq q_int))) (vq q_str)) (qs_cons (q_op s_add op_addAll (vq q_str) (vq (q_op s_mul op_mulAll (vq q_str) (vq q_int)))) (qs_cons (q_op s_add op_addAll (vq q_str) (vq (q_op s_mul op_mulAll (vq q_str) (vq q_int)))) qs_nil))))))) sc_law.nd rfl (by first | exact Or.inl rfl | exact Or.inr rfl))
  (k_seq (sd_if (xt_s (y_cmp s_ne (op_neD hr.units) (z_lc (own := [("text", 9)]) rfl sc_law.nd (zi_q (W := We E) (i_any (q_var 3))) (by first | rfl | kernel_rfl) (wr_n (by decide)) (fun _ _ _ _ _ => (g_n sc_law.nd rfl (by first | exact Or.inl rfl | exact Or.inr rfl))) (fun Y hY => by obtain ⟨s1, H1, C1, cl1, fp1, rfl⟩ := hY; exact (ys_one (y_cmp s_notN op_notN (z_told (k := 9) tol sc__law_told (by rfl) (by rfl) (Or.inl rfl) (by decide) (by decide) (by decide) (by decide) TB (by rfl) rfl hmT hu (hr.mono (by decide)) (lamS_by (by first | rfl | kernel_rfl)) (by rfl) (fun _ _ _ _ _ => rfl) (fun Y V hY pas2 => by obtain ⟨A2, outer2, s2, H2, E2, f2, c2, rfl, hr⟩ := hY; exact (q_call c_parse_fraction mir_len pas2 (hr.mono (by decide)) (qs_cons (q_var 9) qs_nil)))) (z_q (W := (fun _ _ _ _ => False)) q_non)))) (fun Y hY => by obtain ⟨s1, H1, C1, cl1, fp1, rfl⟩ := hY; exact (z_q (W := (fun _ _ _ _ => False)) (q_var 9)))) (z_q (W := We E) (q_lst qs_nil))))
  (k_seq (sd_ret (x_q q_bl))
  k_nil)
  k_nil)
  (k_seq (sd_asg (x_q (q_tup (qs_cons (q_op s_mul op_mulAll (vq q_str) (vq q_int)) (qs_cons (q_op s_sub op_sub (vq (q_op s_pow op_powG (vq q_int) (vq q_int))) (vq q_int)) qs_nil)))) (g_tup (n := 2) rfl (gs_cons (g_n sc_law.nd rfl (by first | exact Or.inl rfl | exact Or.inr rfl)) (gs_cons (g_n sc_law.nd rfl (by first | exact Or.inl rfl | exact Or.inr rfl)) gs_nil))))
  (k_seq (sd_if (xt_q (b_cmp s_ne (op_neD hr.units) (vq (q_lst (qs_cons (q_call c_parse_vector mir_len (pas_of tk) (hr.mono (by decide)) (qs_cons (q_op s_add op_addAll (vq q_str) (vq (q_var 7))) qs_nil)) (qs_cons (q_call c_parse_fraction mir_len (pas_of tk) (hr.mono (by decide)) (qs_cons (q_op s_add op_addAll (vq (q_var 7)) (vq q_str)) qs_nil)) qs_nil)))) (vq (q_lst (qs_cons (q_tup (qs_cons q_int (qs_cons (q_op s_sub op_sub (vq q_int) (vq (q_var 8))) qs_nil))) (qs_cons (q_tup (qs_cons (q_var 8) (qs_cons q_int qs_nil))) qs_nil))))))
  (k_seq (sd_ret (x_q q_bl))
  k_nil)
  k_nil)
  (k_seq (sd_if (xt_q (b_cmp s_ne (op_neD hr.units) (vq (q_lst (qs_cons (q_call c_format_vector mir_len (pas_of tk) (hr.mono (by decide)) (qs_cons (q_tup (qs_cons (q_var 8) (qs_cons q_int qs_nil))) qs_nil)) (qs_cons (q_call c_format_fraction mir_len (pas_of tk) (hr.mono (by decide)) (qs_cons (q_tup (qs_cons q_int (qs_cons (q_var 8) qs_nil))) qs_nil)) qs_nil)))) (vq (q_lst (qs_cons (q_op s_add op_addAll (vq (q_var 7)) (vq q_str)) (qs_cons (q_op s_add op_addAll (vq q_str) (vq (q_var 7))) qs_nil))))))
  (k_seq (sd_ret (x_q q_bl))
  k_nil)
  k_nil)
  (k_seq (sd_if (xt_s (y_cmp s_notN op_notN (z_told (k := 9) tol sc__law_told (by rfl) (by rfl) (Or.inl rfl) (by decide) (by decide) (by decide) (by decide) TB (by rfl) rfl hmT hu (hr.mono (by decide)) (lamS_by (by first | rfl | kernel_rfl)) (by rfl) (fun _ _ _ _ _ => rfl) (fun Y V hY pas2 => by obtain ⟨A2, outer2, s2, H2, E2, f2, c2, rfl, hr⟩ := hY; exact (q_call c_parse_vector mir_len pas2 (hr.mono (by decide)) (qs_cons (q_op s_add op_addAll (vq q_str) (vq (q_var 7))) qs_nil)))) (z_q (W := We E) q_non)))
  (k_seq (sd_ret (x_q q_bl))
  k_nil)
  k_nil)
  (k_seq (sd_if (xt_s (y_cmp s_notN op_notN (z_told (k := 9) tol sc__law_told (by rfl) (by rfl) (Or.inl rfl) (by decide) (by decide) (by decide) (by decide) TB (by rfl) rfl hmT hu (hr.mono (by decide)) (lamS_by (by first | rfl | kernel_rfl)) (by rfl) (fun _ _ _ _ _ => rfl) (fun Y V hY pas2 => by obtain ⟨A2, outer2, s2, H2, E2, f2, c2, rfl, hr⟩ := hY; exact (q_call c_parse_fraction mir_len pas2 (hr.mono (by decide)) (qs_cons (q_op s_add op_addAll (vq (q_op s_add op_addAll (vq (q_var 7)) (vq q_str))) (vq (q_var 7))) qs_nil)))) (z_q (W := We E) q_non)))
  (k_seq (sd_ret (x_q q_bl))
  k_nil)
  k_nil)
  (k_seq (sd_ret (x_q (q_and (q_cmp s_eq (op_eqD hr.units) (vq (q_call c_format_fraction mir_len (pas_of tk) (hr.mono (by decide)) (qs_cons (q_tup (qs_cons (q_neg q_int) (qs_cons q_int qs_nil))) qs_nil))) (vq q_str)) (q_and (q_cmp s_eq (op_eqD hr.units) (vq (q_call c_parse_fraction mir_len (pas_of tk) (hr.mono (by decide)) (qs_cons q_str qs_nil))) (vq (q_tup (qs_cons q_int (qs_cons q_int qs_nil))))) (q_one (q_cmp s_eq (op_eqD hr.units) (vq (q_call c_parse_vector mir_len (pas_of tk) (hr.mono (by decide)) (qs_cons q_str qs_nil))) (vq (q_tup (qs_cons q_int (qs_cons (q_neg q_int) qs_nil))))))))))
  k_nil))))))))))))))
theorem ok_law {f : Addr} {fd : FuncData} (tol : Tol K mg "_law_told" "call" "ParseError" (top 50) isPE) {cc Pt : Addr} (TB : TabB base mg cc Pt) (hmT : (Pt, ("law" : Str) ++ ".<locals>." ++ "<lambda>") ∈ T) (hu : ∀ p ∈ T, p.1 = Pt → p.2 = ("law" : Str) ++ ".<locals>." ++ "<lambda>") (F : FunC K "law" (top 60) f cc fd) (G : Gf K mg) (c__law_stream : Cal P w K mg base "_law_stream" 2 ["script", "at"] (spN K 2 M__law_stream)) (c__law_alphabet : Cal P w K mg base "_law_alphabet" 4 ["stream", "total"] (spL K T 2 M__law_alphabet)) (c__law_draw : Cal P w K mg base "_law_draw" 2 ["stream", "total"] (spL K T 2 M__law_draw)) (c__law_right : CalG P w K mg base "_law_right" 9 ["stream", "alphabet"] (spL K T 2 M__law_right)) (c_parse_word : Cal P w K mg base "parse_word" 5 ["alphabet", "text"] (spF K mg 2 M_parse_word)) (c_parse_vector : Cal P w K mg base "parse_vector" 5 ["text"] (spF K mg 1 M_parse_vector)) (c_parse_fraction : Cal P w K mg base "parse_fraction" 4 ["text"] (spF K mg 1 M_parse_fraction)) (c_format_fraction : Cal P w K mg base "format_fraction" 5 ["fraction"] (spF K mg 1 M_format_fraction)) (c_format_vector : Cal P w K mg base "format_vector" 5 ["vector"] (spF K mg 1 M_format_vector)) : FnG P w K mg base 13 f fd ["script"] (spT K T 1 M_law) :=
  fnG_t F sc_law fun A outer s H E hgd hr tk => b_law G c__law_stream c__law_alphabet c__law_draw c__law_right c_parse_word c_parse_vector c_parse_fraction c_format_fraction c_format_vector tol TB hmT hu f A outer s H E hgd hr tk
end
end K77
end

section
set_option Elab.async false
set_option linter.all false
set_option maxRecDepth 100000
set_option maxHeartbeats 4000000
namespace K77
open D PySem L2 LamX
section
open PySem L2 LamX
/-- a def as the written part has it -/
def DefIn (K : Frag) (x : Str) (st : Stmt) : Prop := ∃ (f : Addr) (oc : Value) (od : Option Addr) (kV dc pm : Value) (an : Option Addr) (cd ct : Value) (sl : Array (Option Value)), PySem.W.nsIn K mainGlobals x = some (some (.ref f)) ∧
  K.lookup f = some ⟨oc, od, .func (PySem.W.fnOf x x (defArgs st) (defBody st) (defScope st) .none kV dc pm an cd ct), sl⟩ ∧ PySem.W.codeIn K cd x = true ∧ PySem.W.keepIn K (.ref f) = true
/-- a def that makes lambdas: its code object c, its table P -/
def DefInC (K : Frag) (x : Str) (st : Stmt) (f c P : Addr) : Prop := ∃ (oc : Value) (od : Option Addr) (kV dc pm : Value) (an : Option Addr) (ct : Value) (sl : Array (Option Value)) (e : Value) (dd : Option Addr) (vs : Array Value) (sl2 : Array (Option Value)), PySem.W.nsIn K mainGlobals x = some (some (.ref f)) ∧
  K.lookup f = some ⟨oc, od, .func (PySem.W.fnOf x x (defArgs st) (defBody st) (defScope st) .none kV dc pm an (.ref c) ct), sl⟩ ∧ PySem.W.codeIn K (.ref c) x = true ∧ PySem.W.keepIn K (.ref f) = true ∧ K.lookup c = some ⟨e, dd, .fields vs, sl2⟩ ∧ vs[11]? = some (.ref P) ∧ K.lookup P = none
def ExcIn (K : Frag) (x : Str) : Prop := ∃ C : Addr, PySem.W.nsIn K mainGlobals x = some (some (.ref C)) ∧ PySem.W.excIn K C [.type "ValueError", .type "Exception", .type "BaseException", .type "object"] "ValueError.__new__" = true ∧ PySem.W.keepIn K (.ref C) = true ∧
  PySem.W.subIn K (.ref C) (.type "BaseException") = some true ∧ PySem.W.typeIn K (.ref C) = some (.type "type") ∧ PySem.W.isClsIn K C = true ∧ PySem.W.subIn K (.ref C) (.ref C) = some true
theorem defIn {K : Frag} {x : Str} {st : Stmt} {f : Addr} {oc : Value} {od : Option Addr} {kV dc pm : Value} {an : Option Addr} {cd ct : Value} {sl : Array (Option Value)} (a : PySem.W.nsIn K mainGlobals x = some (some (.ref f)))
  (b : K.lookup f = some ⟨oc, od, .func (PySem.W.fnOf x x (defArgs st) (defBody st) (defScope st) .none kV dc pm an cd ct), sl⟩) (c : PySem.W.codeIn K cd x = true) (d : PySem.W.keepIn K (.ref f) = true) : DefIn K x st := ⟨f, oc, od, kV, dc, pm, an, cd, ct, sl, a, b, c, d⟩
theorem defInC {K : Frag} {x : Str} {st : Stmt} {f cc P : Addr} {oc : Value} {od : Option Addr} {kV dc pm : Value} {an : Option Addr} {ct : Value} {sl : Array (Option Value)} {e : Value} {dd : Option Addr} {vs : Array Value} {sl2 : Array (Option Value)} (a : PySem.W.nsIn K mainGlobals x = some (some (.ref f)))
  (b : K.lookup f = some ⟨oc, od, .func (PySem.W.fnOf x x (defArgs st) (defBody st) (defScope st) .none kV dc pm an (.ref cc) ct), sl⟩) (c : PySem.W.codeIn K (.ref cc) x = true) (d : PySem.W.keepIn K (.ref f) = true) (o : K.lookup cc = some ⟨e, dd, .fields vs, sl2⟩) (v : vs[11]? = some (.ref P)) (n : K.lookup P = none) : DefInC K x st f cc P :=
  ⟨oc, od, kV, dc, pm, an, ct, sl, e, dd, vs, sl2, a, b, c, d, o, v, n⟩
theorem excIn_mk {K : Frag} {x : Str} {C : Addr} (a : PySem.W.nsIn K mainGlobals x = some (some (.ref C))) (b : PySem.W.excIn K C [.type "ValueError", .type "Exception", .type "BaseException", .type "object"] "ValueError.__new__" = true) (c : PySem.W.keepIn K (.ref C) = true)
  (d : PySem.W.subIn K (.ref C) (.type "BaseException") = some true) (e : PySem.W.typeIn K (.ref C) = some (.type "type")) (f : PySem.W.isClsIn K C = true) (g : PySem.W.subIn K (.ref C) (.ref C) = some true) : ExcIn K x := ⟨C, a, b, c, d, e, f, g⟩
theorem conI {K : Frag} {x : Str} {i : Int} {t : Tok} (a : PySem.W.nsIn K mainGlobals x = some (some (.int i t))) : ∃ t, PySem.W.nsIn K mainGlobals x = some (some (.int i t)) := ⟨t, a⟩
theorem conS {K : Frag} {x : Str} {i : Str} {t : Tok} (a : PySem.W.nsIn K mainGlobals x = some (some (.str i t))) : ∃ t, PySem.W.nsIn K mainGlobals x = some (some (.str i t)) := ⟨t, a⟩
theorem all_mk {l : PySem.W.OpenLaw} {w : World} {K : Frag} {h : Heap} {mg : Str → Option Value} {fa : Addr} {f__law_right cc__law_right pt__law_right : Addr} {f_law cc_law pt_law : Addr} (X : K.In h) (G : h.Ns mainGlobals mg) (hfa : mg "law" = some (.ref fa)) (tabs : ∀ nm ∈ (["_law_right", "law"] : List Str), TabOf K mg h nm)
    (d_is_integer : DefIn K "is_integer" (top 12))
    (d_is_action : DefIn K "is_action" (top 13))
    (d_is_alphabet : DefIn K "is_alphabet" (top 14))
    (d_is_word_of : DefIn K "is_word_of" (top 15))
    (d_is_vector_of : DefIn K "is_vector_of" (top 16))
    (d_require_alphabet : DefIn K "require_alphabet" (top 17))
    (d_require_word : DefIn K "require_word" (top 18))
    (d_is_vector : DefIn K "is_vector" (top 19))
    (d_common_in : DefIn K "common_in" (top 21))
    (d_is_fraction : DefIn K "is_fraction" (top 22))
    (d_require_fraction : DefIn K "require_fraction" (top 23))
    (d_number_in : DefIn K "number_in" (top 28))
    (d_require_text : DefIn K "require_text" (top 29))
    (d_numbers_text : DefIn K "numbers_text" (top 30))
    (d_word_text : DefIn K "word_text" (top 31))
    (d_word_in : DefIn K "word_in" (top 32))
    (d_format_word : DefIn K "format_word" (top 33))
    (d_parse_word : DefIn K "parse_word" (top 34))
    (d_format_vector : DefIn K "format_vector" (top 35))
    (d_parse_vector : DefIn K "parse_vector" (top 36))
    (d_fraction_text : DefIn K "fraction_text" (top 37))
    (d_format_fraction : DefIn K "format_fraction" (top 38))
    (d_parse_fraction : DefIn K "parse_fraction" (top 39))
    (d__law_stream : DefIn K "_law_stream" (top 41))
    (d__law_draw : DefIn K "_law_draw" (top 42))
    (d__law_pick : DefIn K "_law_pick" (top 43))
    (d__law_mixed : DefIn K "_law_mixed" (top 44))
    (d__law_alphabet : DefIn K "_law_alphabet" (top 45))
    (d__law_word : DefIn K "_law_word" (top 46))
    (d__law_is_word : DefIn K "_law_is_word" (top 47))
    (d__law_common : DefIn K "_law_common" (top 48))
    (d__law_spoilt : DefIn K "_law_spoilt" (top 49))
    (d__law_number : DefIn K "_law_number" (top 51))
    (d__law_numbers : DefIn K "_law_numbers" (top 52))
    (d__law_no_text : DefIn K "_law_no_text" (top 53))
    (d__law_integer : DefIn K "_law_integer" (top 54))
    (d__law_lowest : DefIn K "_law_lowest" (top 55))
    (d__law_word_due : DefIn K "_law_word_due" (top 56))
    (d__law_vector_due : DefIn K "_law_vector_due" (top 57))
    (d__law_fraction_due : DefIn K "_law_fraction_due" (top 58))
    (d__law_told : DefIn K "_law_told" (top 50))
    (d__law_right : DefInC K "_law_right" (top 59) f__law_right cc__law_right pt__law_right)
    (d_law : DefInC K "law" (top 60) f_law cc_law pt_law)
    (z_abs : PySem.W.nsIn K mainGlobals "abs" = some none)
    (z_all : PySem.W.nsIn K mainGlobals "all" = some none)
    (z_bool : PySem.W.nsIn K mainGlobals "bool" = some none)
    (z_int : PySem.W.nsIn K mainGlobals "int" = some none)
    (z_isinstance : PySem.W.nsIn K mainGlobals "isinstance" = some none)
    (z_len : PySem.W.nsIn K mainGlobals "len" = some none)
    (z_list : PySem.W.nsIn K mainGlobals "list" = some none)
    (z_max : PySem.W.nsIn K mainGlobals "max" = some none)
    (z_min : PySem.W.nsIn K mainGlobals "min" = some none)
    (z_range : PySem.W.nsIn K mainGlobals "range" = some none)
    (z_repr : PySem.W.nsIn K mainGlobals "repr" = some none)
    (z_sorted : PySem.W.nsIn K mainGlobals "sorted" = some none)
    (z_str : PySem.W.nsIn K mainGlobals "str" = some none)
    (z_tuple : PySem.W.nsIn K mainGlobals "tuple" = some none)
    (z_zip : PySem.W.nsIn K mainGlobals "zip" = some none)
    (k_DIGITS : ∃ t, PySem.W.nsIn K mainGlobals "DIGITS" = some (some (.str "0123456789" t)))
    (k_LETTERS : ∃ t, PySem.W.nsIn K mainGlobals "LETTERS" = some (some (.str "abcdefghijklmnopqrstuvwxyz" t)))
    (k_MAX_ACTIONS : ∃ t, PySem.W.nsIn K mainGlobals "MAX_ACTIONS" = some (some (.int 5 t)))
    (k_MAX_DIGITS : ∃ t, PySem.W.nsIn K mainGlobals "MAX_DIGITS" = some (some (.int 40 t)))
    (k_MAX_LETTERS : ∃ t, PySem.W.nsIn K mainGlobals "MAX_LETTERS" = some (some (.int 8 t)))
    (k_MAX_WORD : ∃ t, PySem.W.nsIn K mainGlobals "MAX_WORD" = some (some (.int 200 t)))
    (k_NOTHING : ∃ t, PySem.W.nsIn K mainGlobals "NOTHING" = some (some (.str "-" t)))
    (x_InvalidAlphabet : ExcIn K "InvalidAlphabet")
    (x_InvalidFraction : ExcIn K "InvalidFraction")
    (x_InvalidVector : ExcIn K "InvalidVector")
    (x_InvalidWord : ExcIn K "InvalidWord")
    (x_ParseError : ExcIn K "ParseError")
    (ne_0_1 : pt__law_right ≠ pt_law)
    (law_is : ∀ ns : List Int, ns.length ≤ 63 → (∀ z ∈ ns, Builtin.Int.intBits z ≤ 1048576) → M_law [.list (ns.map .int)] = .ok (.bool true)) : LawG l w K 13 63 "script" mg fa h := by
  obtain ⟨oc__law_right, od__law_right, kV__law_right, dc__law_right, pm__law_right, an__law_right, ct__law_right, sl__law_right, e__law_right, dd__law_right, vs__law_right, sm__law_right, a__law_right, l__law_right, c__law_right, k__law_right, o__law_right, v__law_right, n__law_right⟩ := d__law_right
  have g__law_right := PySem.W.mg_of X G a__law_right
  obtain ⟨t__law_right, h__law_right⟩ := tabs "_law_right" (by simp) f__law_right cc__law_right pt__law_right _ _ _ _ _ _ _ _ g__law_right l__law_right rfl o__law_right v__law_right
  obtain ⟨oc_law, od_law, kV_law, dc_law, pm_law, an_law, ct_law, sl_law, e_law, dd_law, vs_law, sm_law, a_law, l_law, c_law, k_law, o_law, v_law, n_law⟩ := d_law
  have g_law := PySem.W.mg_of X G a_law
  obtain ⟨t_law, h_law⟩ := tabs "law" (by simp) f_law cc_law pt_law _ _ _ _ _ _ _ _ g_law l_law rfl o_law v_law
  obtain rfl : f_law = fa := by rw [g_law] at hfa; cases hfa; rfl
  obtain ⟨f_is_integer, _, _, _, _, _, _, _, _, _, a_is_integer, l_is_integer, c_is_integer, k_is_integer⟩ := d_is_integer
  have g_is_integer := PySem.W.mg_of X G a_is_integer
  have F_is_integer := fun_mk (st := top 12) l_is_integer c_is_integer k_is_integer
  have b_is_integer := F_is_integer.binds (ps := ["value"]) fun _ _ _ _ _ _ us hl => match us, hl with | [_], _ => rfl
  obtain ⟨f_is_action, _, _, _, _, _, _, _, _, _, a_is_action, l_is_action, c_is_action, k_is_action⟩ := d_is_action
  have g_is_action := PySem.W.mg_of X G a_is_action
  have F_is_action := fun_mk (st := top 13) l_is_action c_is_action k_is_action
  have b_is_action := F_is_action.binds (ps := ["value"]) fun _ _ _ _ _ _ us hl => match us, hl with | [_], _ => rfl
  obtain ⟨f_is_alphabet, _, _, _, _, _, _, _, _, _, a_is_alphabet, l_is_alphabet, c_is_alphabet, k_is_alphabet⟩ := d_is_alphabet
  have g_is_alphabet := PySem.W.mg_of X G a_is_alphabet
  have F_is_alphabet := fun_mk (st := top 14) l_is_alphabet c_is_alphabet k_is_alphabet
  have b_is_alphabet := F_is_alphabet.binds (ps := ["value"]) fun _ _ _ _ _ _ us hl => match us, hl with | [_], _ => rfl
  obtain ⟨f_is_word_of, _, _, _, _, _, _, _, _, _, a_is_word_of, l_is_word_of, c_is_word_of, k_is_word_of⟩ := d_is_word_of
  have g_is_word_of := PySem.W.mg_of X G a_is_word_of
  have F_is_word_of := fun_mk (st := top 15) l_is_word_of c_is_word_of k_is_word_of
  have b_is_word_of := F_is_word_of.binds (ps := ["alphabet", "value"]) fun _ _ _ _ _ _ us hl => match us, hl with | [_, _], _ => rfl
  obtain ⟨f_is_vector_of, _, _, _, _, _, _, _, _, _, a_is_vector_of, l_is_vector_of, c_is_vector_of, k_is_vector_of⟩ := d_is_vector_of
  have g_is_vector_of := PySem.W.mg_of X G a_is_vector_of
  have F_is_vector_of := fun_mk (st := top 16) l_is_vector_of c_is_vector_of k_is_vector_of
  have b_is_vector_of := F_is_vector_of.binds (ps := ["size", "value"]) fun _ _ _ _ _ _ us hl => match us, hl with | [_, _], _ => rfl
  obtain ⟨f_require_alphabet, _, _, _, _, _, _, _, _, _, a_require_alphabet, l_require_alphabet, c_require_alphabet, k_require_alphabet⟩ := d_require_alphabet
  have g_require_alphabet := PySem.W.mg_of X G a_require_alphabet
  have F_require_alphabet := fun_mk (st := top 17) l_require_alphabet c_require_alphabet k_require_alphabet
  have b_require_alphabet := F_require_alphabet.binds (ps := ["value"]) fun _ _ _ _ _ _ us hl => match us, hl with | [_], _ => rfl
  obtain ⟨f_require_word, _, _, _, _, _, _, _, _, _, a_require_word, l_require_word, c_require_word, k_require_word⟩ := d_require_word
  have g_require_word := PySem.W.mg_of X G a_require_word
  have F_require_word := fun_mk (st := top 18) l_require_word c_require_word k_require_word
  have b_require_word := F_require_word.binds (ps := ["alphabet", "word"]) fun _ _ _ _ _ _ us hl => match us, hl with | [_, _], _ => rfl
  obtain ⟨f_is_vector, _, _, _, _, _, _, _, _, _, a_is_vector, l_is_vector, c_is_vector, k_is_vector⟩ := d_is_vector
  have g_is_vector := PySem.W.mg_of X G a_is_vector
  have F_is_vector := fun_mk (st := top 19) l_is_vector c_is_vector k_is_vector
  have b_is_vector := F_is_vector.binds (ps := ["value"]) fun _ _ _ _ _ _ us hl => match us, hl with | [_], _ => rfl
  obtain ⟨f_common_in, _, _, _, _, _, _, _, _, _, a_common_in, l_common_in, c_common_in, k_common_in⟩ := d_common_in
  have g_common_in := PySem.W.mg_of X G a_common_in
  have F_common_in := fun_mk (st := top 21) l_common_in c_common_in k_common_in
  have b_common_in := F_common_in.binds (ps := ["one", "other"]) fun _ _ _ _ _ _ us hl => match us, hl with | [_, _], _ => rfl
  obtain ⟨f_is_fraction, _, _, _, _, _, _, _, _, _, a_is_fraction, l_is_fraction, c_is_fraction, k_is_fraction⟩ := d_is_fraction
  have g_is_fraction := PySem.W.mg_of X G a_is_fraction
  have F_is_fraction := fun_mk (st := top 22) l_is_fraction c_is_fraction k_is_fraction
  have b_is_fraction := F_is_fraction.binds (ps := ["value"]) fun _ _ _ _ _ _ us hl => match us, hl with | [_], _ => rfl
  obtain ⟨f_require_fraction, _, _, _, _, _, _, _, _, _, a_require_fraction, l_require_fraction, c_require_fraction, k_require_fraction⟩ := d_require_fraction
  have g_require_fraction := PySem.W.mg_of X G a_require_fraction
  have F_require_fraction := fun_mk (st := top 23) l_require_fraction c_require_fraction k_require_fraction
  have b_require_fraction := F_require_fraction.binds (ps := ["value"]) fun _ _ _ _ _ _ us hl => match us, hl with | [_], _ => rfl
  obtain ⟨f_number_in, _, _, _, _, _, _, _, _, _, a_number_in, l_number_in, c_number_in, k_number_in⟩ := d_number_in
  have g_number_in := PySem.W.mg_of X G a_number_in
  have F_number_in := fun_mk (st := top 28) l_number_in c_number_in k_number_in
  have b_number_in := F_number_in.binds (ps := ["text"]) fun _ _ _ _ _ _ us hl => match us, hl with | [_], _ => rfl
  obtain ⟨f_require_text, _, _, _, _, _, _, _, _, _, a_require_text, l_require_text, c_require_text, k_require_text⟩ := d_require_text
  have g_require_text := PySem.W.mg_of X G a_require_text
  have F_require_text := fun_mk (st := top 29) l_require_text c_require_text k_require_text
  have b_require_text := F_require_text.binds (ps := ["text"]) fun _ _ _ _ _ _ us hl => match us, hl with | [_], _ => rfl
  obtain ⟨f_numbers_text, _, _, _, _, _, _, _, _, _, a_numbers_text, l_numbers_text, c_numbers_text, k_numbers_text⟩ := d_numbers_text
  have g_numbers_text := PySem.W.mg_of X G a_numbers_text
  have F_numbers_text := fun_mk (st := top 30) l_numbers_text c_numbers_text k_numbers_text
  have b_numbers_text := F_numbers_text.binds (ps := ["numbers"]) fun _ _ _ _ _ _ us hl => match us, hl with | [_], _ => rfl
  obtain ⟨f_word_text, _, _, _, _, _, _, _, _, _, a_word_text, l_word_text, c_word_text, k_word_text⟩ := d_word_text
  have g_word_text := PySem.W.mg_of X G a_word_text
  have F_word_text := fun_mk (st := top 31) l_word_text c_word_text k_word_text
  have b_word_text := F_word_text.binds (ps := ["word"]) fun _ _ _ _ _ _ us hl => match us, hl with | [_], _ => rfl
  obtain ⟨f_word_in, _, _, _, _, _, _, _, _, _, a_word_in, l_word_in, c_word_in, k_word_in⟩ := d_word_in
  have g_word_in := PySem.W.mg_of X G a_word_in
  have F_word_in := fun_mk (st := top 32) l_word_in c_word_in k_word_in
  have b_word_in := F_word_in.binds (ps := ["alphabet", "text"]) fun _ _ _ _ _ _ us hl => match us, hl with | [_, _], _ => rfl
  obtain ⟨f_format_word, _, _, _, _, _, _, _, _, _, a_format_word, l_format_word, c_format_word, k_format_word⟩ := d_format_word
  have g_format_word := PySem.W.mg_of X G a_format_word
  have F_format_word := fun_mk (st := top 33) l_format_word c_format_word k_format_word
  have b_format_word := F_format_word.binds (ps := ["alphabet", "word"]) fun _ _ _ _ _ _ us hl => match us, hl with | [_, _], _ => rfl
  obtain ⟨f_parse_word, _, _, _, _, _, _, _, _, _, a_parse_word, l_parse_word, c_parse_word, k_parse_word⟩ := d_parse_word
  have g_parse_word := PySem.W.mg_of X G a_parse_word
  have F_parse_word := fun_mk (st := top 34) l_parse_word c_parse_word k_parse_word
  have b_parse_word := F_parse_word.binds (ps := ["alphabet", "text"]) fun _ _ _ _ _ _ us hl => match us, hl with | [_, _], _ => rfl
  obtain ⟨f_format_vector, _, _, _, _, _, _, _, _, _, a_format_vector, l_format_vector, c_format_vector, k_format_vector⟩ := d_format_vector
  have g_format_vector := PySem.W.mg_of X G a_format_vector
  have F_format_vector := fun_mk (st := top 35) l_format_vector c_format_vector k_format_vector
  have b_format_vector := F_format_vector.binds (ps := ["vector"]) fun _ _ _ _ _ _ us hl => match us, hl with | [_], _ => rfl
  obtain ⟨f_parse_vector, _, _, _, _, _, _, _, _, _, a_parse_vector, l_parse_vector, c_parse_vector, k_parse_vector⟩ := d_parse_vector
  have g_parse_vector := PySem.W.mg_of X G a_parse_vector
  have F_parse_vector := fun_mk (st := top 36) l_parse_vector c_parse_vector k_parse_vector
  have b_parse_vector := F_parse_vector.binds (ps := ["text"]) fun _ _ _ _ _ _ us hl => match us, hl with | [_], _ => rfl
  obtain ⟨f_fraction_text, _, _, _, _, _, _, _, _, _, a_fraction_text, l_fraction_text, c_fraction_text, k_fraction_text⟩ := d_fraction_text
  have g_fraction_text := PySem.W.mg_of X G a_fraction_text
  have F_fraction_text := fun_mk (st := top 37) l_fraction_text c_fraction_text k_fraction_text
  have b_fraction_text := F_fraction_text.binds (ps := ["fraction"]) fun _ _ _ _ _ _ us hl => match us, hl with | [_], _ => rfl
  obtain ⟨f_format_fraction, _, _, _, _, _, _, _, _, _, a_format_fraction, l_format_fraction, c_format_fraction, k_format_fraction⟩ := d_format_fraction
  have g_format_fraction := PySem.W.mg_of X G a_format_fraction
  have F_format_fraction := fun_mk (st := top 38) l_format_fraction c_format_fraction k_format_fraction
  have b_format_fraction := F_format_fraction.binds (ps := ["fraction"]) fun _ _ _ _ _ _ us hl => match us, hl with | [_], _ => rfl
  obtain ⟨f_parse_fraction, _, _, _, _, _, _, _, _, _, a_parse_fraction, l_parse_fraction, c_parse_fraction, k_parse_fraction⟩ := d_parse_fraction
  have g_parse_fraction := PySem.W.mg_of X G a_parse_fraction
  have F_parse_fraction := fun_mk (st := top 39) l_parse_fraction c_parse_fraction k_parse_fraction
  have b_parse_fraction := F_parse_fraction.binds (ps := ["text"]) fun _ _ _ _ _ _ us hl => match us, hl with | [_], _ => rfl
  obtain ⟨f__law_stream, _, _, _, _, _, _, _, _, _, a__law_stream, l__law_stream, c__law_stream, k__law_stream⟩ := d__law_stream
  have g__law_stream := PySem.W.mg_of X G a__law_stream
  have F__law_stream := fun_mk (st := top 41) l__law_stream c__law_stream k__law_stream
  have b__law_stream := F__law_stream.binds (ps := ["script", "at"]) fun _ _ _ _ _ _ us hl => match us, hl with | [_, _], _ => rfl
  obtain ⟨f__law_draw, _, _, _, _, _, _, _, _, _, a__law_draw, l__law_draw, c__law_draw, k__law_draw⟩ := d__law_draw
  have g__law_draw := PySem.W.mg_of X G a__law_draw
  have F__law_draw := fun_mk (st := top 42) l__law_draw c__law_draw k__law_draw
  have b__law_draw := F__law_draw.binds (ps := ["stream", "total"]) fun _ _ _ _ _ _ us hl => match us, hl with | [_, _], _ => rfl
  obtain ⟨f__law_pick, _, _, _, _, _, _, _, _, _, a__law_pick, l__law_pick, c__law_pick, k__law_pick⟩ := d__law_pick
  have g__law_pick := PySem.W.mg_of X G a__law_pick
  have F__law_pick := fun_mk (st := top 43) l__law_pick c__law_pick k__law_pick
  have b__law_pick := F__law_pick.binds (ps := ["stream", "items"]) fun _ _ _ _ _ _ us hl => match us, hl with | [_, _], _ => rfl
  obtain ⟨f__law_mixed, _, _, _, _, _, _, _, _, _, a__law_mixed, l__law_mixed, c__law_mixed, k__law_mixed⟩ := d__law_mixed
  have g__law_mixed := PySem.W.mg_of X G a__law_mixed
  have F__law_mixed := fun_mk (st := top 44) l__law_mixed c__law_mixed k__law_mixed
  have b__law_mixed := F__law_mixed.binds (ps := ["stream", "items"]) fun _ _ _ _ _ _ us hl => match us, hl with | [_, _], _ => rfl
  obtain ⟨f__law_alphabet, _, _, _, _, _, _, _, _, _, a__law_alphabet, l__law_alphabet, c__law_alphabet, k__law_alphabet⟩ := d__law_alphabet
  have g__law_alphabet := PySem.W.mg_of X G a__law_alphabet
  have F__law_alphabet := fun_mk (st := top 45) l__law_alphabet c__law_alphabet k__law_alphabet
  have b__law_alphabet := F__law_alphabet.binds (ps := ["stream", "total"]) fun _ _ _ _ _ _ us hl => match us, hl with | [_, _], _ => rfl
  obtain ⟨f__law_word, _, _, _, _, _, _, _, _, _, a__law_word, l__law_word, c__law_word, k__law_word⟩ := d__law_word
  have g__law_word := PySem.W.mg_of X G a__law_word
  have F__law_word := fun_mk (st := top 46) l__law_word c__law_word k__law_word
  have b__law_word := F__law_word.binds (ps := ["stream", "alphabet", "high"]) fun _ _ _ _ _ _ us hl => match us, hl with | [_, _, _], _ => rfl
  obtain ⟨f__law_is_word, _, _, _, _, _, _, _, _, _, a__law_is_word, l__law_is_word, c__law_is_word, k__law_is_word⟩ := d__law_is_word
  have g__law_is_word := PySem.W.mg_of X G a__law_is_word
  have F__law_is_word := fun_mk (st := top 47) l__law_is_word c__law_is_word k__law_is_word
  have b__law_is_word := F__law_is_word.binds (ps := ["alphabet", "value"]) fun _ _ _ _ _ _ us hl => match us, hl with | [_, _], _ => rfl
  obtain ⟨f__law_common, _, _, _, _, _, _, _, _, _, a__law_common, l__law_common, c__law_common, k__law_common⟩ := d__law_common
  have g__law_common := PySem.W.mg_of X G a__law_common
  have F__law_common := fun_mk (st := top 48) l__law_common c__law_common k__law_common
  have b__law_common := F__law_common.binds (ps := ["one", "other"]) fun _ _ _ _ _ _ us hl => match us, hl with | [_, _], _ => rfl
  obtain ⟨f__law_spoilt, _, _, _, _, _, _, _, _, _, a__law_spoilt, l__law_spoilt, c__law_spoilt, k__law_spoilt⟩ := d__law_spoilt
  have g__law_spoilt := PySem.W.mg_of X G a__law_spoilt
  have F__law_spoilt := fun_mk (st := top 49) l__law_spoilt c__law_spoilt k__law_spoilt
  have b__law_spoilt := F__law_spoilt.binds (ps := ["stream", "text"]) fun _ _ _ _ _ _ us hl => match us, hl with | [_, _], _ => rfl
  obtain ⟨f__law_number, _, _, _, _, _, _, _, _, _, a__law_number, l__law_number, c__law_number, k__law_number⟩ := d__law_number
  have g__law_number := PySem.W.mg_of X G a__law_number
  have F__law_number := fun_mk (st := top 51) l__law_number c__law_number k__law_number
  have b__law_number := F__law_number.binds (ps := ["text"]) fun _ _ _ _ _ _ us hl => match us, hl with | [_], _ => rfl
  obtain ⟨f__law_numbers, _, _, _, _, _, _, _, _, _, a__law_numbers, l__law_numbers, c__law_numbers, k__law_numbers⟩ := d__law_numbers
  have g__law_numbers := PySem.W.mg_of X G a__law_numbers
  have F__law_numbers := fun_mk (st := top 52) l__law_numbers c__law_numbers k__law_numbers
  have b__law_numbers := F__law_numbers.binds (ps := ["texts"]) fun _ _ _ _ _ _ us hl => match us, hl with | [_], _ => rfl
  obtain ⟨f__law_no_text, _, _, _, _, _, _, _, _, _, a__law_no_text, l__law_no_text, c__law_no_text, k__law_no_text⟩ := d__law_no_text
  have g__law_no_text := PySem.W.mg_of X G a__law_no_text
  have F__law_no_text := fun_mk (st := top 53) l__law_no_text c__law_no_text k__law_no_text
  have b__law_no_text := F__law_no_text.binds (ps := ["stream"]) fun _ _ _ _ _ _ us hl => match us, hl with | [_], _ => rfl
  obtain ⟨f__law_integer, _, _, _, _, _, _, _, _, _, a__law_integer, l__law_integer, c__law_integer, k__law_integer⟩ := d__law_integer
  have g__law_integer := PySem.W.mg_of X G a__law_integer
  have F__law_integer := fun_mk (st := top 54) l__law_integer c__law_integer k__law_integer
  have b__law_integer := F__law_integer.binds (ps := ["stream"]) fun _ _ _ _ _ _ us hl => match us, hl with | [_], _ => rfl
  obtain ⟨f__law_lowest, _, _, _, _, _, _, _, _, _, a__law_lowest, l__law_lowest, c__law_lowest, k__law_lowest⟩ := d__law_lowest
  have g__law_lowest := PySem.W.mg_of X G a__law_lowest
  have F__law_lowest := fun_mk (st := top 55) l__law_lowest c__law_lowest k__law_lowest
  have b__law_lowest := F__law_lowest.binds (ps := ["top", "below"]) fun _ _ _ _ _ _ us hl => match us, hl with | [_, _], _ => rfl
  obtain ⟨f__law_word_due, _, _, _, _, _, _, _, _, _, a__law_word_due, l__law_word_due, c__law_word_due, k__law_word_due⟩ := d__law_word_due
  have g__law_word_due := PySem.W.mg_of X G a__law_word_due
  have F__law_word_due := fun_mk (st := top 56) l__law_word_due c__law_word_due k__law_word_due
  have b__law_word_due := F__law_word_due.binds (ps := ["alphabet", "text"]) fun _ _ _ _ _ _ us hl => match us, hl with | [_, _], _ => rfl
  obtain ⟨f__law_vector_due, _, _, _, _, _, _, _, _, _, a__law_vector_due, l__law_vector_due, c__law_vector_due, k__law_vector_due⟩ := d__law_vector_due
  have g__law_vector_due := PySem.W.mg_of X G a__law_vector_due
  have F__law_vector_due := fun_mk (st := top 57) l__law_vector_due c__law_vector_due k__law_vector_due
  have b__law_vector_due := F__law_vector_due.binds (ps := ["text"]) fun _ _ _ _ _ _ us hl => match us, hl with | [_], _ => rfl
  obtain ⟨f__law_fraction_due, _, _, _, _, _, _, _, _, _, a__law_fraction_due, l__law_fraction_due, c__law_fraction_due, k__law_fraction_due⟩ := d__law_fraction_due
  have g__law_fraction_due := PySem.W.mg_of X G a__law_fraction_due
  have F__law_fraction_due := fun_mk (st := top 58) l__law_fraction_due c__law_fraction_due k__law_fraction_due
  have b__law_fraction_due := F__law_fraction_due.binds (ps := ["text"]) fun _ _ _ _ _ _ us hl => match us, hl with | [_], _ => rfl
  obtain ⟨f__law_told, _, _, _, _, _, _, _, _, _, a__law_told, l__law_told, c__law_told, k__law_told⟩ := d__law_told
  have g__law_told := PySem.W.mg_of X G a__law_told
  have F__law_told := fun_mk (st := top 50) l__law_told c__law_told k__law_told
  have b__law_told := F__law_told.binds (ps := ["call"]) fun _ _ _ _ _ _ us hl => match us, hl with | [_], _ => rfl
  have F__law_right : FunC K "_law_right" (top 59) f__law_right cc__law_right _ := ⟨oc__law_right, od__law_right, kV__law_right, dc__law_right, pm__law_right, an__law_right, ct__law_right, sl__law_right, rfl, l__law_right, c__law_right⟩
  have b__law_right : Binds K (PySem.W.fnOf "_law_right" "_law_right" (defArgs (top 59)) (defBody (top 59)) (defScope (top 59)) .none kV__law_right dc__law_right pm__law_right an__law_right (.ref cc__law_right) ct__law_right) ["stream", "alphabet"] [] := .all fun us hl => match us, hl with | [_, _], _ => rfl
  have F_law : FunC K "law" (top 60) f_law cc_law _ := ⟨oc_law, od_law, kV_law, dc_law, pm_law, an_law, ct_law, sl_law, rfl, l_law, c_law⟩
  have b_law : Binds K (PySem.W.fnOf "law" "law" (defArgs (top 60)) (defBody (top 60)) (defScope (top 60)) .none kV_law dc_law pm_law an_law (.ref cc_law) ct_law) ["script"] [] := .all fun us hl => match us, hl with | [_], _ => rfl
  obtain ⟨C_InvalidAlphabet, xa_InvalidAlphabet, xb_InvalidAlphabet, xc_InvalidAlphabet, xd_InvalidAlphabet, xe_InvalidAlphabet, xf_InvalidAlphabet, xg_InvalidAlphabet⟩ := x_InvalidAlphabet
  obtain ⟨C_InvalidFraction, xa_InvalidFraction, xb_InvalidFraction, xc_InvalidFraction, xd_InvalidFraction, xe_InvalidFraction, xf_InvalidFraction, xg_InvalidFraction⟩ := x_InvalidFraction
  obtain ⟨C_InvalidVector, xa_InvalidVector, xb_InvalidVector, xc_InvalidVector, xd_InvalidVector, xe_InvalidVector, xf_InvalidVector, xg_InvalidVector⟩ := x_InvalidVector
  obtain ⟨C_InvalidWord, xa_InvalidWord, xb_InvalidWord, xc_InvalidWord, xd_InvalidWord, xe_InvalidWord, xf_InvalidWord, xg_InvalidWord⟩ := x_InvalidWord
  obtain ⟨C_ParseError, xa_ParseError, xb_ParseError, xc_ParseError, xd_ParseError, xe_ParseError, xf_ParseError, xg_ParseError⟩ := x_ParseError
  obtain ⟨t_DIGITS, k_DIGITS⟩ := k_DIGITS
  obtain ⟨t_LETTERS, k_LETTERS⟩ := k_LETTERS
  obtain ⟨t_MAX_ACTIONS, k_MAX_ACTIONS⟩ := k_MAX_ACTIONS
  obtain ⟨t_MAX_DIGITS, k_MAX_DIGITS⟩ := k_MAX_DIGITS
  obtain ⟨t_MAX_LETTERS, k_MAX_LETTERS⟩ := k_MAX_LETTERS
  obtain ⟨t_MAX_WORD, k_MAX_WORD⟩ := k_MAX_WORD
  obtain ⟨t_NOTHING, k_NOTHING⟩ := k_NOTHING
  have G0 : Gf K mg := {
    b_abs := PySem.W.mg_none_of X G z_abs,
    b_all := PySem.W.mg_none_of X G z_all,
    b_bool := PySem.W.mg_none_of X G z_bool,
    b_int := PySem.W.mg_none_of X G z_int,
    b_isinstance := PySem.W.mg_none_of X G z_isinstance,
    b_len := PySem.W.mg_none_of X G z_len,
    b_list := PySem.W.mg_none_of X G z_list,
    b_max := PySem.W.mg_none_of X G z_max,
    b_min := PySem.W.mg_none_of X G z_min,
    b_range := PySem.W.mg_none_of X G z_range,
    b_repr := PySem.W.mg_none_of X G z_repr,
    b_sorted := PySem.W.mg_none_of X G z_sorted,
    b_str := PySem.W.mg_none_of X G z_str,
    b_tuple := PySem.W.mg_none_of X G z_tuple,
    b_zip := PySem.W.mg_none_of X G z_zip,
    c_DIGITS := ⟨t_DIGITS, PySem.W.mg_of X G k_DIGITS⟩,
    c_LETTERS := ⟨t_LETTERS, PySem.W.mg_of X G k_LETTERS⟩,
    c_MAX_ACTIONS := ⟨t_MAX_ACTIONS, PySem.W.mg_of X G k_MAX_ACTIONS⟩,
    c_MAX_DIGITS := ⟨t_MAX_DIGITS, PySem.W.mg_of X G k_MAX_DIGITS⟩,
    c_MAX_LETTERS := ⟨t_MAX_LETTERS, PySem.W.mg_of X G k_MAX_LETTERS⟩,
    c_MAX_WORD := ⟨t_MAX_WORD, PySem.W.mg_of X G k_MAX_WORD⟩,
    c_NOTHING := ⟨t_NOTHING, PySem.W.mg_of X G k_NOTHING⟩,
    e_InvalidAlphabet := excG X G xa_InvalidAlphabet xb_InvalidAlphabet xc_InvalidAlphabet xd_InvalidAlphabet xe_InvalidAlphabet,
    e_InvalidFraction := excG X G xa_InvalidFraction xb_InvalidFraction xc_InvalidFraction xd_InvalidFraction xe_InvalidFraction,
    e_InvalidVector := excG X G xa_InvalidVector xb_InvalidVector xc_InvalidVector xd_InvalidVector xe_InvalidVector,
    e_InvalidWord := excG X G xa_InvalidWord xb_InvalidWord xc_InvalidWord xd_InvalidWord xe_InvalidWord,
    e_ParseError := excG X G xa_ParseError xb_ParseError xc_ParseError xd_ParseError xe_ParseError }
  have tol : Tol K mg "_law_told" "call" "ParseError" (top 50) isPE := ⟨f__law_told, C_ParseError, _, F__law_told, g__law_told, k__law_told, b__law_told, PySem.W.mg_of X G xa_ParseError, fun e C he hm => by
    obtain rfl : e = "ParseError" := by simpa [isPE] using he
    rw [PySem.W.mg_of X G xa_ParseError] at hm
    cases hm
    exact exm_own xd_ParseError xf_ParseError xe_ParseError xg_ParseError⟩
  refine ⟨PySem.W.fnOf "law" "law" (defArgs (top 60)) (defBody (top 60)) (defScope (top 60)) .none kV_law dc_law pm_law an_law (.ref cc_law) ct_law, [(cc__law_right, pt__law_right), (cc_law, pt_law)], spT K [(pt__law_right, ("_law_right" : Str) ++ ".<locals>." ++ "<lambda>"), (pt_law, ("law" : Str) ++ ".<locals>." ++ "<lambda>")] 1 M_law, by
    intro p hp
    simp only [List.mem_cons, List.not_mem_nil, or_false] at hp
    rcases hp with rfl | rfl
    · exact t__law_right
    · exact t_law, by
    intro p hp
    simp only [List.mem_cons, List.not_mem_nil, or_false] at hp
    rcases hp with rfl | rfl
    · exact n__law_right
    · exact n_law, by
    intro p hp
    simp only [List.mem_cons, List.not_mem_nil, or_false] at hp
    rcases hp with rfl | rfl
    · exact h__law_right
    · exact h_law, fun s u => .of_eq rfl, fun H a ns hl hb hT hs => ⟨rfl, _, script_dr hs, tabs_new (cs := [(cc__law_right, pt__law_right), (cc_law, pt_law)]) (fun p hp => ?_) hT, ?_⟩, fun base kb nb tb => ?_⟩
  · simp only [List.mem_cons, List.not_mem_nil, or_false] at hp
    rcases hp with rfl | rfl
    · exact ⟨(cc__law_right, pt__law_right), by simp, rfl⟩
    · exact ⟨(cc_law, pt_law), by simp, rfl⟩
  · rw [law_is ns hl hb]
    intro v H1 r
    cases r
    rfl
  · have q_is_integer : Cal l.prog w K mg base "is_integer" 2 ["value"] (spF K mg 1 M_is_integer) := ⟨f_is_integer, _, ok_is_integer F_is_integer G0 , g_is_integer, k_is_integer, b_is_integer⟩
    have q_is_action : Cal l.prog w K mg base "is_action" 2 ["value"] (spF K mg 1 M_is_action) := ⟨f_is_action, _, ok_is_action F_is_action G0 , g_is_action, k_is_action, b_is_action⟩
    have q_is_alphabet : Cal l.prog w K mg base "is_alphabet" 3 ["value"] (spF K mg 1 M_is_alphabet) := ⟨f_is_alphabet, _, ok_is_alphabet F_is_alphabet G0 q_is_action, g_is_alphabet, k_is_alphabet, b_is_alphabet⟩
    have q_is_word_of : Cal l.prog w K mg base "is_word_of" 2 ["alphabet", "value"] (spF K mg 2 M_is_word_of) := ⟨f_is_word_of, _, ok_is_word_of F_is_word_of G0 , g_is_word_of, k_is_word_of, b_is_word_of⟩
    have q_is_vector_of : Cal l.prog w K mg base "is_vector_of" 3 ["size", "value"] (spF K mg 2 M_is_vector_of) := ⟨f_is_vector_of, _, ok_is_vector_of F_is_vector_of G0 q_is_integer, g_is_vector_of, k_is_vector_of, b_is_vector_of⟩
    have q_require_alphabet : Cal l.prog w K mg base "require_alphabet" 4 ["value"] (spF K mg 1 M_require_alphabet) := ⟨f_require_alphabet, _, ok_require_alphabet F_require_alphabet G0 q_is_alphabet, g_require_alphabet, k_require_alphabet, b_require_alphabet⟩
    have q_require_word : Cal l.prog w K mg base "require_word" 3 ["alphabet", "word"] (spF K mg 2 M_require_word) := ⟨f_require_word, _, ok_require_word F_require_word G0 q_is_word_of, g_require_word, k_require_word, b_require_word⟩
    have q_is_vector : Cal l.prog w K mg base "is_vector" 4 ["value"] (spF K mg 1 M_is_vector) := ⟨f_is_vector, _, ok_is_vector F_is_vector G0 q_is_vector_of, g_is_vector, k_is_vector, b_is_vector⟩
    have q_common_in : Cal l.prog w K mg base "common_in" 2 ["one", "other"] (spF K mg 2 M_common_in) := ⟨f_common_in, _, ok_common_in F_common_in G0 , g_common_in, k_common_in, b_common_in⟩
    have q_is_fraction : Cal l.prog w K mg base "is_fraction" 3 ["value"] (spF K mg 1 M_is_fraction) := ⟨f_is_fraction, _, ok_is_fraction F_is_fraction G0 q_is_integer q_common_in, g_is_fraction, k_is_fraction, b_is_fraction⟩
    have q_require_fraction : Cal l.prog w K mg base "require_fraction" 4 ["value"] (spF K mg 1 M_require_fraction) := ⟨f_require_fraction, _, ok_require_fraction F_require_fraction G0 q_is_fraction, g_require_fraction, k_require_fraction, b_require_fraction⟩
    have q_number_in : Cal l.prog w K mg base "number_in" 2 ["text"] (spF K mg 1 M_number_in) := ⟨f_number_in, _, ok_number_in F_number_in G0 , g_number_in, k_number_in, b_number_in⟩
    have q_require_text : Cal l.prog w K mg base "require_text" 2 ["text"] (spF K mg 1 M_require_text) := ⟨f_require_text, _, ok_require_text F_require_text G0 , g_require_text, k_require_text, b_require_text⟩
    have q_numbers_text : Cal l.prog w K mg base "numbers_text" 2 ["numbers"] (spF K mg 1 M_numbers_text) := ⟨f_numbers_text, _, ok_numbers_text F_numbers_text G0 , g_numbers_text, k_numbers_text, b_numbers_text⟩
    have q_word_text : Cal l.prog w K mg base "word_text" 2 ["word"] (spF K mg 1 M_word_text) := ⟨f_word_text, _, ok_word_text F_word_text G0 , g_word_text, k_word_text, b_word_text⟩
    have q_word_in : Cal l.prog w K mg base "word_in" 3 ["alphabet", "text"] (spF K mg 2 M_word_in) := ⟨f_word_in, _, ok_word_in F_word_in G0 q_is_word_of, g_word_in, k_word_in, b_word_in⟩
    have q_format_word : Cal l.prog w K mg base "format_word" 5 ["alphabet", "word"] (spF K mg 2 M_format_word) := ⟨f_format_word, _, ok_format_word F_format_word G0 q_require_alphabet q_require_word q_word_text, g_format_word, k_format_word, b_format_word⟩
    have q_parse_word : Cal l.prog w K mg base "parse_word" 5 ["alphabet", "text"] (spF K mg 2 M_parse_word) := ⟨f_parse_word, _, ok_parse_word F_parse_word G0 q_require_alphabet q_require_text q_word_in, g_parse_word, k_parse_word, b_parse_word⟩
    have q_format_vector : Cal l.prog w K mg base "format_vector" 5 ["vector"] (spF K mg 1 M_format_vector) := ⟨f_format_vector, _, ok_format_vector F_format_vector G0 q_is_vector q_numbers_text, g_format_vector, k_format_vector, b_format_vector⟩
    have q_parse_vector : Cal l.prog w K mg base "parse_vector" 5 ["text"] (spF K mg 1 M_parse_vector) := ⟨f_parse_vector, _, ok_parse_vector F_parse_vector G0 q_require_text q_number_in q_is_vector, g_parse_vector, k_parse_vector, b_parse_vector⟩
    have q_fraction_text : Cal l.prog w K mg base "fraction_text" 2 ["fraction"] (spF K mg 1 M_fraction_text) := ⟨f_fraction_text, _, ok_fraction_text F_fraction_text G0 , g_fraction_text, k_fraction_text, b_fraction_text⟩
    have q_format_fraction : Cal l.prog w K mg base "format_fraction" 5 ["fraction"] (spF K mg 1 M_format_fraction) := ⟨f_format_fraction, _, ok_format_fraction F_format_fraction G0 q_require_fraction q_fraction_text, g_format_fraction, k_format_fraction, b_format_fraction⟩
    have q_parse_fraction : Cal l.prog w K mg base "parse_fraction" 4 ["text"] (spF K mg 1 M_parse_fraction) := ⟨f_parse_fraction, _, ok_parse_fraction F_parse_fraction G0 q_require_text q_number_in q_is_fraction, g_parse_fraction, k_parse_fraction, b_parse_fraction⟩
    have q__law_stream : Cal l.prog w K mg base "_law_stream" 2 ["script", "at"] (spN K 2 M__law_stream) := ⟨f__law_stream, _, ok__law_stream F__law_stream G0 , g__law_stream, k__law_stream, b__law_stream⟩
    have q__law_draw : Cal l.prog w K mg base "_law_draw" 2 ["stream", "total"] (spL K [(pt__law_right, ("_law_right" : Str) ++ ".<locals>." ++ "<lambda>"), (pt_law, ("law" : Str) ++ ".<locals>." ++ "<lambda>")] 2 M__law_draw) := ⟨f__law_draw, _, ok__law_draw F__law_draw G0 , g__law_draw, k__law_draw, b__law_draw⟩
    have q__law_pick : Cal l.prog w K mg base "_law_pick" 3 ["stream", "items"] (spL K [(pt__law_right, ("_law_right" : Str) ++ ".<locals>." ++ "<lambda>"), (pt_law, ("law" : Str) ++ ".<locals>." ++ "<lambda>")] 2 M__law_pick) := ⟨f__law_pick, _, ok__law_pick F__law_pick G0 q__law_draw, g__law_pick, k__law_pick, b__law_pick⟩
    have q__law_mixed : Cal l.prog w K mg base "_law_mixed" 3 ["stream", "items"] (spL K [(pt__law_right, ("_law_right" : Str) ++ ".<locals>." ++ "<lambda>"), (pt_law, ("law" : Str) ++ ".<locals>." ++ "<lambda>")] 2 M__law_mixed) := ⟨f__law_mixed, _, ok__law_mixed F__law_mixed G0 q__law_draw, g__law_mixed, k__law_mixed, b__law_mixed⟩
    have q__law_alphabet : Cal l.prog w K mg base "_law_alphabet" 4 ["stream", "total"] (spL K [(pt__law_right, ("_law_right" : Str) ++ ".<locals>." ++ "<lambda>"), (pt_law, ("law" : Str) ++ ".<locals>." ++ "<lambda>")] 2 M__law_alphabet) := ⟨f__law_alphabet, _, ok__law_alphabet F__law_alphabet G0 q__law_mixed, g__law_alphabet, k__law_alphabet, b__law_alphabet⟩
    have q__law_word : Cal l.prog w K mg base "_law_word" 4 ["stream", "alphabet", "high"] (spL K [(pt__law_right, ("_law_right" : Str) ++ ".<locals>." ++ "<lambda>"), (pt_law, ("law" : Str) ++ ".<locals>." ++ "<lambda>")] 3 M__law_word) := ⟨f__law_word, _, ok__law_word F__law_word G0 q__law_draw q__law_pick, g__law_word, k__law_word, b__law_word⟩
    have q__law_is_word : Cal l.prog w K mg base "_law_is_word" 2 ["alphabet", "value"] (spF K mg 2 M__law_is_word) := ⟨f__law_is_word, _, ok__law_is_word F__law_is_word G0 , g__law_is_word, k__law_is_word, b__law_is_word⟩
    have q__law_common : Cal l.prog w K mg base "_law_common" 2 ["one", "other"] (spF K mg 2 M__law_common) := ⟨f__law_common, _, ok__law_common F__law_common G0 , g__law_common, k__law_common, b__law_common⟩
    have q__law_spoilt : Cal l.prog w K mg base "_law_spoilt" 4 ["stream", "text"] (spL K [(pt__law_right, ("_law_right" : Str) ++ ".<locals>." ++ "<lambda>"), (pt_law, ("law" : Str) ++ ".<locals>." ++ "<lambda>")] 2 M__law_spoilt) := ⟨f__law_spoilt, _, ok__law_spoilt F__law_spoilt G0 q__law_draw q__law_pick, g__law_spoilt, k__law_spoilt, b__law_spoilt⟩
    have q__law_number : Cal l.prog w K mg base "_law_number" 2 ["text"] (spF K mg 1 M__law_number) := ⟨f__law_number, _, ok__law_number F__law_number G0 , g__law_number, k__law_number, b__law_number⟩
    have q__law_numbers : Cal l.prog w K mg base "_law_numbers" 3 ["texts"] (spF K mg 1 M__law_numbers) := ⟨f__law_numbers, _, ok__law_numbers F__law_numbers G0 q__law_number, g__law_numbers, k__law_numbers, b__law_numbers⟩
    have q__law_no_text : Cal l.prog w K mg base "_law_no_text" 4 ["stream"] (spL K [(pt__law_right, ("_law_right" : Str) ++ ".<locals>." ++ "<lambda>"), (pt_law, ("law" : Str) ++ ".<locals>." ++ "<lambda>")] 1 M__law_no_text) := ⟨f__law_no_text, _, ok__law_no_text F__law_no_text G0 q__law_pick, g__law_no_text, k__law_no_text, b__law_no_text⟩
    have q__law_integer : Cal l.prog w K mg base "_law_integer" 4 ["stream"] (spL K [(pt__law_right, ("_law_right" : Str) ++ ".<locals>." ++ "<lambda>"), (pt_law, ("law" : Str) ++ ".<locals>." ++ "<lambda>")] 1 M__law_integer) := ⟨f__law_integer, _, ok__law_integer F__law_integer G0 q__law_draw q__law_pick, g__law_integer, k__law_integer, b__law_integer⟩
    have q__law_lowest : Cal l.prog w K mg base "_law_lowest" 3 ["top", "below"] (spF K mg 2 M__law_lowest) := ⟨f__law_lowest, _, ok__law_lowest F__law_lowest G0 q__law_common, g__law_lowest, k__law_lowest, b__law_lowest⟩
    have q__law_word_due : Cal l.prog w K mg base "_law_word_due" 3 ["alphabet", "text"] (spF K mg 2 M__law_word_due) := ⟨f__law_word_due, _, ok__law_word_due F__law_word_due G0 q__law_is_word, g__law_word_due, k__law_word_due, b__law_word_due⟩
    have q__law_vector_due : Cal l.prog w K mg base "_law_vector_due" 4 ["text"] (spF K mg 1 M__law_vector_due) := ⟨f__law_vector_due, _, ok__law_vector_due F__law_vector_due G0 q__law_numbers, g__law_vector_due, k__law_vector_due, b__law_vector_due⟩
    have q__law_fraction_due : Cal l.prog w K mg base "_law_fraction_due" 4 ["text"] (spF K mg 1 M__law_fraction_due) := ⟨f__law_fraction_due, _, ok__law_fraction_due F__law_fraction_due G0 q__law_numbers q__law_common, g__law_fraction_due, k__law_fraction_due, b__law_fraction_due⟩
    have hu__law_right : ∀ p ∈ ([(pt__law_right, ("_law_right" : Str) ++ ".<locals>." ++ "<lambda>"), (pt_law, ("law" : Str) ++ ".<locals>." ++ "<lambda>")] : List (Addr × Str)), p.1 = pt__law_right → p.2 = ("_law_right" : Str) ++ ".<locals>." ++ "<lambda>" := by
      intro p hp e
      simp only [List.mem_cons, List.not_mem_nil, or_false] at hp
      rcases hp with rfl | rfl
      · rfl
      · exact absurd e.symm ne_0_1
    have q__law_right : CalG l.prog w K mg base "_law_right" 9 ["stream", "alphabet"] (spL K [(pt__law_right, ("_law_right" : Str) ++ ".<locals>." ++ "<lambda>"), (pt_law, ("law" : Str) ++ ".<locals>." ++ "<lambda>")] 2 M__law_right) := ⟨f__law_right, _, ok__law_right tol (tb (cc__law_right, pt__law_right) (by simp)) (by simp) hu__law_right F__law_right G0 q__law_word q__law_draw q__law_integer q__law_lowest q_format_fraction q_format_vector q_format_word q_parse_fraction q_parse_vector q_parse_word q__law_spoilt q__law_word_due q__law_vector_due q__law_fraction_due q__law_no_text, g__law_right, k__law_right, b__law_right⟩
    have hu_law : ∀ p ∈ ([(pt__law_right, ("_law_right" : Str) ++ ".<locals>." ++ "<lambda>"), (pt_law, ("law" : Str) ++ ".<locals>." ++ "<lambda>")] : List (Addr × Str)), p.1 = pt_law → p.2 = ("law" : Str) ++ ".<locals>." ++ "<lambda>" := by
      intro p hp e
      simp only [List.mem_cons, List.not_mem_nil, or_false] at hp
      rcases hp with rfl | rfl
      · exact absurd e ne_0_1
      · rfl
    exact ok_law tol (tb (cc_law, pt_law) (by simp)) (by simp) hu_law F_law G0 q__law_stream q__law_alphabet q__law_draw q__law_right q_parse_word q_parse_vector q_parse_fraction q_format_fraction q_format_vector
end
end K77
end

section
set_option Elab.async false
set_option linter.all false
set_option maxRecDepth 100000
set_option maxHeartbeats 4000000
/-! The plain law of k77: primitives, numbers as texts. -/
namespace K77
open D PySem L2 TL NumText
/-- a text of small signs, not long -/
structure Gd (z : Str) : Prop where
  asc : ∀ c ∈ tl z, c < 128
  len : z.length ≤ 20000
theorem line_big : 1000000 ≤ sizeLine := by decide
theorem Gd.ok {z : Str} (g : Gd z) : PyData.strOk z = true := by
  unfold PyData.strOk
  rw [Array.all_eq_true']
  intro c hc
  exact decide_eq_true (Nat.lt_trans (g.asc c (Array.mem_toList_iff.mpr hc)) (by decide))
theorem p_len {z : Str} (g : Gd z) : bLen [.str z] = some (.int z.length) := if_pos (Nat.le_trans g.len (Nat.le_trans (by decide) line_big))
theorem p_lenl (l : List PyData) : bLen [.list l] = some (.int l.length) := rfl
theorem p_lent (l : List PyData) : bLen [.tuple l] = some (.int l.length) := rfl
theorem p_le (a b : Int) : oLe (.int a) (.int b) = some (.bool (decide (a ≤ b))) := rfl
theorem p_lt (a b : Int) : oLt (.int a) (.int b) = some (.bool (decide (a < b))) := rfl
theorem p_ge (a b : Int) : oGe (.int a) (.int b) = some (.bool (decide (b ≤ a))) := rfl
theorem p_gt (a b : Int) : oGt (.int a) (.int b) = some (.bool (decide (b < a))) := rfl
theorem p_eq {d e : PyData} (h1 : SeqAt.shaped d = true) (h2 : SeqAt.shaped e = true) : oEq d e = some (.bool (PyData.eqv d e)) := if_pos ⟨h1, h2⟩
theorem p_ne {d e : PyData} (h1 : SeqAt.shaped d = true) (h2 : SeqAt.shaped e = true) : oNe d e = some (.bool (!PyData.eqv d e)) := if_pos ⟨h1, h2⟩
theorem sh_int (i : Int) : SeqAt.shaped (.int i) = true := rfl
theorem sh_str {z : Str} (h : PyData.strOk z = true) : SeqAt.shaped (.str z) = true := by
  unfold SeqAt.shaped
  show (PyData.strOk z && decide (PyData.depth (.str z) ≤ 64)) = true
  rw [h]
  rfl
theorem p_eqS {x y : Str} (hx : PyData.strOk x = true) (hy : PyData.strOk y = true) : oEq (.str x) (.str y) = some (.bool (x == y)) := p_eq (sh_str hx) (sh_str hy)
theorem p_neS {x y : Str} (hx : PyData.strOk x = true) (hy : PyData.strOk y = true) : oNe (.str x) (.str y) = some (.bool (!(x == y))) := p_ne (sh_str hx) (sh_str hy)
theorem p_eqI (i j : Int) : oEq (.int i) (.int j) = some (.bool (i == j)) := p_eq (sh_int i) (sh_int j)
theorem p_neI (i j : Int) : oNe (.int i) (.int j) = some (.bool (!(i == j))) := p_ne (sh_int i) (sh_int j)
theorem i_str (z : Str) : itemsP (.str z) = some ((tl z).map fun c => .str ⟨#[c]⟩) := rfl
theorem i_lst (l : List PyData) : itemsP (.list l) = some l := rfl
theorem i_tup (l : List PyData) : itemsP (.tuple l) = some l := rfl
/-! ### comprehensions -/
def mapR (g : PyData → Res PyData) : List PyData → Res (List PyData)
  | [] => .ok []
  | d :: ds => (g d).bind fun y => (mapR g ds).bind fun ys => .ok (y :: ys)
theorem lc_R (i : Nat) (e : DQ) (ρ : Rho) : ∀ ds, lcL (gtN i) dYes e ρ ds = mapR (fun d => e (ρ.set i (.dat d))) ds
  | [] => rfl
  | d :: ds => by
    unfold lcL mapR
    rw [lc_R i e ρ ds]
    rfl
theorem mapR_ok {g : PyData → Res PyData} {f : PyData → PyData} : ∀ {ds : List PyData}, (∀ d ∈ ds, g d = .ok (f d)) → mapR g ds = .ok (ds.map f)
  | [], _ => rfl
  | d :: ds, h => by
    unfold mapR
    rw [h d List.mem_cons_self, mapR_ok fun e m => h e (List.mem_cons_of_mem _ m)]
    rfl
theorem lc_map {i : Nat} {e : DQ} {ρ : Rho} {f : PyData → PyData} {ds : List PyData} (h : ∀ d ∈ ds, e (ρ.set i (.dat d)) = .ok (f d)) : lcL (gtN i) dYes e ρ ds = .ok (ds.map f) := by rw [lc_R, mapR_ok h]
theorem lc_fil {i : Nat} {t : DT} {e : DQ} {ρ : Rho} {p : PyData → Bool} {f : PyData → PyData} : ∀ {ds : List PyData}, (∀ d ∈ ds, t (ρ.set i (.dat d)) = .ok (p d)) → (∀ d ∈ ds, e (ρ.set i (.dat d)) = .ok (f d)) → lcL (gtN i) t e ρ ds = .ok ((ds.filter p).map f)
  | [], _, _ => rfl
  | d :: ds, h1, h2 => by
    have ih := lc_fil (ds := ds) (fun e m => h1 e (List.mem_cons_of_mem _ m)) (fun e m => h2 e (List.mem_cons_of_mem _ m))
    have a1 : t (setR ρ [(i, d)]) = .ok (p d) := h1 d List.mem_cons_self
    have a2 : e (setR ρ [(i, d)]) = .ok (f d) := h2 d List.mem_cons_self
    unfold lcL
    simp only [gtN, a1, a2, ih, Res.bind]
    cases e1 : p d with
    | true => simp [e1]
    | false => simp [e1]
theorem bools_map (f : PyData → Bool) : ∀ ds : List PyData, boolsOf (ds.map fun d => .bool (f d)) = some (ds.map f)
  | [] => rfl
  | d :: ds => by
    unfold boolsOf
    simp only [List.map_cons, bools_map f ds]
    rfl
theorem p_all (f : PyData → Bool) (ds : List PyData) : bAll [.list (ds.map fun d => .bool (f d))] = some (.bool (ds.all f)) := by
  unfold bAll
  simp only [bools_map, Option.map_some, List.all_map]
  rfl
/-! ### signs -/
theorem startsm (z : Str) : Txt.startswith z "-" = decide ((tl z).head? = some 45) := by
  have h1 : (Txt.startswith z "-" = true) ↔ pre (tl ("-" : Str)) ((tl z).drop 0) = true := by
    rw [← at_iff (by decide)]
    unfold Txt.startswith StrLaws.At
    simp
  have h2 : tl ("-" : Str) = [45] := by decide
  rw [h2, List.drop_zero] at h1
  rw [Bool.eq_iff_iff, h1, decide_eq_true_iff]
  cases tl z with
  | nil => simp [pre]
  | cons c r => simp [pre]
end K77
end

section
set_option Elab.async false
set_option linter.all false
set_option maxRecDepth 100000
set_option maxHeartbeats 4000000
namespace K77
open D PySem L2 TL NumText
theorem tl_cut1 (z : Str) : tl (cutS z (some 1) none) = (tl z).drop 1 := by
  show ((tl z).drop (HT.sIx z.length 0 (some ((1 : Nat) : Int)))).take (HT.sIx z.length z.length none - HT.sIx z.length 0 (some ((1 : Nat) : Int))) = _
  rw [HT.sIx_nat, HT.sIx_none, len_tl]
  cases tl z with
  | nil => rfl
  | cons c r =>
    have e : min 1 (c :: r).length = 1 := by simp
    rw [e]
    simp
theorem Gd.cut {z : Str} (g : Gd z) (lo hi : Option Int) : Gd (cutS z lo hi) := by
  refine ⟨fun c h => g.asc c (List.mem_of_mem_drop (List.mem_of_mem_take h)), Nat.le_trans ?_ g.len⟩
  rw [len_tl, len_tl]
  show (((tl z).drop _).take _).length ≤ _
  rw [List.length_take, List.length_drop]
  omega
theorem p_sl {z : Str} (g : Gd z) (lo hi : Option Int) : oSl (.str z) lo hi = some (.str (cutS z lo hi)) := if_pos (Nat.le_trans g.len (Nat.le_trans (by decide) line_big))
/-- the digits of a number's text -/
def digs (z : Str) : Str := if Txt.startswith z "-" = true then cutS z (some 1) none else z
theorem Gd.digs {z : Str} (g : Gd z) : Gd (digs z) := by
  unfold K77.digs
  split
  · exact g.cut _ _
  · exact g
def isD (c : Nat) : Bool := decide (c ∈ tl ("0123456789" : Str))
theorem isD_iff {c : Nat} : isD c = true ↔ 48 ≤ c ∧ c ≤ 57 := by
  unfold isD
  rw [decide_eq_true_iff, show tl ("0123456789" : Str) = [48, 49, 50, 51, 52, 53, 54, 55, 56, 57] by decide]
  simp only [List.mem_cons, List.not_mem_nil, or_false]
  omega
/-- a text of one to forty digits, a sign ahead of them perhaps, no zero too many -/
def numOk (z : Str) : Bool := decide (1 ≤ (digs z).length) && decide ((digs z).length ≤ 40) && (tl (digs z)).all isD && !(decide ((tl (digs z)).head? = some 48) && !(z == "0"))
def numV (z : Str) : Int := (intText? z).getD 0
theorem ne_nil_of {z : Str} (h : 1 ≤ z.length) : tl z ≠ [] := fun e => by
  rw [len_tl, e] at h
  simp at h
theorem num_some {z : Str} (h : numOk z = true) : intText? z = some (numV z) := by
  unfold numOk at h
  simp only [Bool.and_eq_true, decide_eq_true_eq, List.all_eq_true] at h
  obtain ⟨⟨⟨h1, h2⟩, h3⟩, _⟩ := h
  have ad : AllDigits (tl (digs z)) := fun c hc => isD_iff.mp (h3 c hc)
  have nn := ne_nil_of h1
  have key : ∃ n, intText? z = some n := by
    unfold digs at ad nn h2
    by_cases hs : Txt.startswith z "-" = true
    · rw [if_pos hs] at ad nn h2
      rw [startsm, decide_eq_true_iff] at hs
      rw [tl_cut1] at ad nn
      rw [len_tl, tl_cut1] at h2
      cases e : tl z with
      | nil => rw [e] at hs; cases hs
      | cons c r =>
        rw [e] at hs ad nn h2
        cases hs
        refine ⟨_, intText_neg (cs := r) e ad nn ?_⟩
        rw [len_tl, e]
        simp at h2 ⊢
        omega
    · rw [if_neg hs] at ad nn h2
      exact ⟨_, intText_digits ad nn (Nat.le_trans h2 (by decide))⟩
  obtain ⟨n, e⟩ := key
  unfold numV
  rw [e]
  rfl
theorem num_len {z : Str} (h : numOk z = true) : z.length ≤ 41 := by
  unfold numOk digs at h
  simp only [Bool.and_eq_true, decide_eq_true_eq] at h
  obtain ⟨⟨⟨_, h2⟩, _⟩, _⟩ := h
  split at h2
  · rw [len_tl, tl_cut1, List.length_drop] at h2
    rw [len_tl]
    omega
  · omega
theorem p_int {z : Str} (h : numOk z = true) : bInt [.str z] = some (.int (numV z)) := by
  show (if z.length ≤ 640 then (intText? z).map PyData.int else none) = _
  rw [if_pos (Nat.le_trans (num_len h) (by decide)), num_some h]
  rfl
theorem all_signs (z : Str) : ((tl z).map fun c => PyData.str ⟨#[c]⟩).all (fun d => match d with
  | .str ⟨⟨[c]⟩⟩ => isD c
  | _ => false) = (tl z).all isD := by
  rw [List.all_map]
  rfl
def dg1 (d : PyData) : Bool := match d with
  | .str ⟨⟨[c]⟩⟩ => isD c
  | _ => false
theorem ix0 {z : Str} (g : Gd z) (h : 1 ≤ z.length) : ∃ c, (tl z).head? = some c ∧ oIx (.str z) (.int 0) = some (.str ⟨#[c]⟩) := by
  cases e : tl z with
  | nil => exact absurd e (ne_nil_of h)
  | cons c r =>
    refine ⟨c, rfl, ?_⟩
    have hl : z.length ≤ sizeLine := Nat.le_trans g.len (Nat.le_trans (by decide) line_big)
    unfold oIx
    simp only [if_pos hl]
    have e' : z.cps.toList = c :: r := e
    rw [e']
    simp [atI, ixN]
theorem one_eq (c : Nat) : ((⟨#[c]⟩ : Str) == ("0" : Str)) = decide (c = 48) := by
  rw [Bool.eq_iff_iff, beq_iff_eq, decide_eq_true_iff]
  constructor
  · intro h
    have := congrArg tl h
    rw [show tl ("0" : Str) = [48] by decide] at this
    simpa [tl] using this
  · intro h
    subst h
    decide
theorem strOk1 {c : Nat} (h : c < 128) : PyData.strOk ⟨#[c]⟩ = true := by
  unfold PyData.strOk
  simp
  omega
theorem e_number_in {z : Str} (g : Gd z) : M_number_in [.str z] = if numOk z = true then .ok (.int (numV z)) else .err "ParseError" := by
  have gd := g.digs
  have h0 : mStarts z (.str "-") = some (.bool (Txt.startswith z "-")) := rfl
  have hL : ∀ t, lcL (gtN 2) dYes (dOp oIn (dVar 2) (dC (.str "0123456789"))) [.dat t, .dat (.str (digs z)), .un] ((tl (digs z)).map fun c => .str ⟨#[c]⟩) = .ok (((tl (digs z)).map fun c => PyData.str ⟨#[c]⟩).map fun d => .bool (dg1 d)) := fun t => lc_map fun d hd => by
    obtain ⟨c, hc, rfl⟩ := List.mem_map.mp hd
    rfl
  have hA : ((tl (digs z)).map fun c => PyData.str ⟨#[c]⟩).all dg1 = (tl (digs z)).all isD := all_signs _
  have hz : ((tl (digs z)).map fun c => PyData.str ⟨#[c]⟩).length ≤ 100000 := by
    rw [List.length_map, ← len_tl]
    exact Nat.le_trans gd.len (by decide)
  have body : ∀ ρ, ρ = [Itm.dat (.str z), .dat (.str (digs z)), .un] → outR ((mSeq (mIf (liR (dOr (dNot (dB (dChain oLe oLe (dC (.int 1)) (dBi bLen (dCons (dVar 1) dNil)) (dC (.int 40))))) (dNot (dB (dBi bAll (dCons (dLc (dItems (dVar 1)) (gtN 2) dYes (dOp oIn (dVar 2) (dC (.str "0123456789"))) [2]) dNil))))))
    (mSeq (mRaise "ParseError") mNil) mNil)
    (mSeq (mIf (liR (dAnd (dB (dOp oEq (dOp oIx (dVar 1) (dC (.int 0))) (dC (.str "0")))) (dB (dOp oNe (dVar 0) (dC (.str "0"))))))
    (mSeq (mRaise "ParseError") mNil) mNil)
    (mSeq (mRet (liR (dBi bInt (dCons (dVar 0) dNil)))) mNil))) ρ) = if numOk z = true then .ok (.int (numV z)) else .err "ParseError" := by
    intro ρ e
    subst e
    simp only [mir, mirL, mirN, startR, startL, mSeq, mNil, mFrz, mSet, mAsg, mPar, mNew, mNew2, mDrop, mRet, mRetN, mIf, mRaise, mFor, mWhile, mSetIx, xbind, liR, liO, lS, lST, lSs, Out.thn, outR, own0, dVar, dOwn, dC, dOp, dChain, dB, asB, dAnd, dOr, dNot, dAndV, dOrV, dNotV, dIf, dNeg, dNil, dCons, dTup, dLst, dCall, dBi, dSl, dNo, dSo, dM1, dIsi, dItems, dRng, dZip, dLc, dYes, dFmt, wipeR, setR, gtN, gtSeq, gtCons, gtNil, sNil, sCons, sOp, sB, sNotT, sTup, sLst, sBi, sCall, sSl, sOwn, sCallL, sRng, sItems, sLc, sYes, sTry, nLst, nList, nCall, Res.bind, ofO, frz, List.map_cons, List.map_nil, List.length_cons, List.length_nil, List.replicate, List.cons_append, List.nil_append, List.getElem?_cons_zero, List.getElem?_cons_succ, List.set_cons_zero, List.set_cons_succ, List.foldl_cons, List.foldl_nil, Nat.reduceAdd, Nat.reduceSub, Nat.zero_add, Option.bind_some, Option.map_some, Option.bind_none, Option.map_none, if_true, if_false, reduceIte, Bool.not_true, Bool.not_false, Bool.false_eq_true, p_len gd, p_le, i_str, hL, p_all, hA, if_pos hz]
    by_cases h1 : (1 : Int) ≤ (digs z).length
    · by_cases h2 : ((digs z).length : Int) ≤ 40
      · cases h3 : (tl (digs z)).all isD with
        | false =>
          have hn : numOk z = false := by
            unfold numOk
            rw [h3]
            simp
          simp [h1, h2, h3, hn]
        | true =>
          have h1' : 1 ≤ (digs z).length := by omega
          obtain ⟨c, hc, hi⟩ := ix0 gd h1'
          have hcA : c < 128 := gd.asc c (List.mem_of_mem_head? hc)
          have hE : oEq (.str ⟨#[c]⟩) (.str "0") = some (.bool (decide (c = 48))) := by rw [p_eqS (strOk1 hcA) (by decide +kernel), one_eq]
          have hN : oNe (.str z) (.str "0") = some (.bool (!(z == "0"))) := p_neS g.ok (by decide +kernel)
          simp only [decide_eq_true h1, decide_eq_true h2, h3, if_true, Bool.not_true, Bool.false_eq_true, if_false]
          simp only [mir, mirL, mirN, startR, startL, mSeq, mNil, mFrz, mSet, mAsg, mPar, mNew, mNew2, mDrop, mRet, mRetN, mIf, mRaise, mFor, mWhile, mSetIx, xbind, liR, liO, lS, lST, lSs, Out.thn, outR, own0, dVar, dOwn, dC, dOp, dChain, dB, asB, dAnd, dOr, dNot, dAndV, dOrV, dNotV, dIf, dNeg, dNil, dCons, dTup, dLst, dCall, dBi, dSl, dNo, dSo, dM1, dIsi, dItems, dRng, dZip, dLc, dYes, dFmt, wipeR, setR, gtN, gtSeq, gtCons, gtNil, sNil, sCons, sOp, sB, sNotT, sTup, sLst, sBi, sCall, sSl, sOwn, sCallL, sRng, sItems, sLc, sYes, sTry, nLst, nList, nCall, Res.bind, ofO, frz, List.map_cons, List.map_nil, List.length_cons, List.length_nil, List.replicate, List.cons_append, List.nil_append, List.getElem?_cons_zero, List.getElem?_cons_succ, List.set_cons_zero, List.set_cons_succ, List.foldl_cons, List.foldl_nil, Nat.reduceAdd, Nat.reduceSub, Nat.zero_add, Option.bind_some, Option.map_some, Option.bind_none, Option.map_none, if_true, if_false, reduceIte, Bool.not_true, Bool.not_false, Bool.false_eq_true, hi, hE, hN]
          by_cases h4 : c = 48
          · cases h5 : (z == "0") with
            | false =>
              have hn : numOk z = false := by
                unfold numOk
                rw [hc, h5, h4]
                simp
              simp [h4, hn]
            | true =>
              have hn : numOk z = true := by
                unfold numOk
                rw [h3, h5]
                have : (digs z).length ≤ 40 := by omega
                simp [h1', this]
              have hv := p_int hn
              simp [h4, hn, hv]
          · have hn : numOk z = true := by
              unfold numOk
              rw [h3, hc]
              have : (digs z).length ≤ 40 := by omega
              simp [h1', this, h4]
            have hv := p_int hn
            simp [h4, hn, hv]
      · have hn : numOk z = false := by
          unfold numOk
          have : ¬ (digs z).length ≤ 40 := by omega
          simp [this]
        simp [h1, h2, hn]
    · have hn : numOk z = false := by
        unfold numOk
        have : ¬ 1 ≤ (digs z).length := by omega
        simp [this]
      simp [h1, hn]
  unfold M_number_in m_number_in
  rw [← body [Itm.dat (.str z), .dat (.str (digs z)), .un] rfl]
  unfold digs
  cases hb : Txt.startswith z "-" with
  | true => simp only [mir, mirL, mirN, startR, startL, mSeq, mNil, mFrz, mSet, mAsg, mPar, mNew, mNew2, mDrop, mRet, mRetN, mIf, mRaise, mFor, mWhile, mSetIx, xbind, liR, liO, lS, lST, lSs, Out.thn, outR, own0, dVar, dOwn, dC, dOp, dChain, dB, asB, dAnd, dOr, dNot, dAndV, dOrV, dNotV, dIf, dNeg, dNil, dCons, dTup, dLst, dCall, dBi, dSl, dNo, dSo, dM1, dIsi, dItems, dRng, dZip, dLc, dYes, dFmt, wipeR, setR, gtN, gtSeq, gtCons, gtNil, sNil, sCons, sOp, sB, sNotT, sTup, sLst, sBi, sCall, sSl, sOwn, sCallL, sRng, sItems, sLc, sYes, sTry, nLst, nList, nCall, Res.bind, ofO, frz, List.map_cons, List.map_nil, List.length_cons, List.length_nil, List.replicate, List.cons_append, List.nil_append, List.getElem?_cons_zero, List.getElem?_cons_succ, List.set_cons_zero, List.set_cons_succ, List.foldl_cons, List.foldl_nil, Nat.reduceAdd, Nat.reduceSub, Nat.zero_add, Option.bind_some, Option.map_some, Option.bind_none, Option.map_none, if_true, if_false, reduceIte, Bool.not_true, Bool.not_false, Bool.false_eq_true, h0, hb, p_sl g]
  | false => simp only [mir, mirL, mirN, startR, startL, mSeq, mNil, mFrz, mSet, mAsg, mPar, mNew, mNew2, mDrop, mRet, mRetN, mIf, mRaise, mFor, mWhile, mSetIx, xbind, liR, liO, lS, lST, lSs, Out.thn, outR, own0, dVar, dOwn, dC, dOp, dChain, dB, asB, dAnd, dOr, dNot, dAndV, dOrV, dNotV, dIf, dNeg, dNil, dCons, dTup, dLst, dCall, dBi, dSl, dNo, dSo, dM1, dIsi, dItems, dRng, dZip, dLc, dYes, dFmt, wipeR, setR, gtN, gtSeq, gtCons, gtNil, sNil, sCons, sOp, sB, sNotT, sTup, sLst, sBi, sCall, sSl, sOwn, sCallL, sRng, sItems, sLc, sYes, sTry, nLst, nList, nCall, Res.bind, ofO, frz, List.map_cons, List.map_nil, List.length_cons, List.length_nil, List.replicate, List.cons_append, List.nil_append, List.getElem?_cons_zero, List.getElem?_cons_succ, List.set_cons_zero, List.set_cons_succ, List.foldl_cons, List.foldl_nil, Nat.reduceAdd, Nat.reduceSub, Nat.zero_add, Option.bind_some, Option.map_some, Option.bind_none, Option.map_none, if_true, if_false, reduceIte, Bool.not_true, Bool.not_false, Bool.false_eq_true, h0, hb]
end K77
end

section
set_option Elab.async false
set_option linter.all false
set_option maxRecDepth 100000
set_option maxHeartbeats 4000000
namespace K77
open D PySem L2 TL NumText
theorem depthAll_le {k : Nat} : ∀ {l : List PyData}, (∀ d ∈ l, d.depth ≤ k) → PyData.depthAll l ≤ k
  | [], _ => Nat.zero_le _
  | d :: l, h => by
    show max d.depth (PyData.depthAll l) ≤ k
    exact Nat.max_le.mpr ⟨h d List.mem_cons_self, depthAll_le fun e m => h e (List.mem_cons_of_mem _ m)⟩
theorem canAll {l : List PyData} (h : ∀ d ∈ l, d.canLay0 = true) : PyData.canLayAll0 l = true := by
  induction l with
  | nil => rfl
  | cons d l ih =>
    show (d.canLay0 && PyData.canLayAll0 l) = true
    rw [h d List.mem_cons_self, ih fun e m => h e (List.mem_cons_of_mem _ m)]
    rfl
theorem sh_list {l : List PyData} {k : Nat} (hk : k < 64) (h : ∀ d ∈ l, d.canLay0 = true ∧ d.depth ≤ k) : SeqAt.shaped (.list l) = true := by
  unfold SeqAt.shaped
  rw [Bool.and_eq_true, decide_eq_true_iff]
  exact ⟨canAll fun d m => (h d m).1, by
    show PyData.depthAll l + 1 ≤ 64
    have := depthAll_le (k := k) fun d m => (h d m).2
    omega⟩
theorem sh_tuple {l : List PyData} {k : Nat} (hk : k < 64) (h : ∀ d ∈ l, d.canLay0 = true ∧ d.depth ≤ k) : SeqAt.shaped (.tuple l) = true := by
  unfold SeqAt.shaped
  rw [Bool.and_eq_true, decide_eq_true_iff]
  exact ⟨canAll fun d m => (h d m).1, by
    show PyData.depthAll l + 1 ≤ 64
    have := depthAll_le (k := k) fun d m => (h d m).2
    omega⟩
theorem sh_nil : SeqAt.shaped (.list []) = true := sh_list (k := 0) (by decide) fun d m => (List.not_mem_nil m).elim
theorem sh_nilT : SeqAt.shaped (.tuple []) = true := sh_tuple (k := 0) (by decide) fun d m => (List.not_mem_nil m).elim
theorem eqv_nil (l : List PyData) : PyData.eqv (.list l) (.list []) = l.isEmpty := by
  cases l <;> simp [PyData.eqv, PyData.eqvAll]
theorem eqv_nilT (l : List PyData) : PyData.eqv (.tuple l) (.tuple []) = l.isEmpty := by
  cases l <;> simp [PyData.eqv, PyData.eqvAll]
theorem tl_cut01 (z : Str) : tl (cutS z none (some 1)) = (tl z).take 1 := by
  show ((tl z).drop 0).take (HT.sIx z.length z.length (some ((1 : Nat) : Int)) - 0) = _
  rw [HT.sIx_nat, len_tl, List.drop_zero, Nat.sub_zero]
  cases tl z with
  | nil => rfl
  | cons c r => simp
theorem head_eq (z : Str) : (cutS z none (some 1) == ("-" : Str)) = Txt.startswith z "-" := by
  rw [startsm, Bool.eq_iff_iff, beq_iff_eq, decide_eq_true_iff]
  constructor
  · intro h
    have e := congrArg tl h
    rw [tl_cut01, show tl ("-" : Str) = [45] by decide] at e
    cases q : tl z with
    | nil => rw [q] at e; cases e
    | cons c r =>
      rw [q] at e
      simp at e
      rw [e]
      rfl
  · intro h
    refine ext_tl ?_
    rw [tl_cut01, show tl ("-" : Str) = [45] by decide]
    cases q : tl z with
    | nil => rw [q] at h; cases h
    | cons c r =>
      rw [q] at h
      cases h
      rfl
def signs (z : Str) : List PyData := (tl z).map fun c => PyData.str ⟨#[c]⟩
theorem fil_empty (z : Str) : ((signs z).filter fun d => !dg1 d).isEmpty = (tl z).all isD := by
  unfold signs
  rw [Bool.eq_iff_iff, List.isEmpty_iff, List.filter_eq_nil_iff, List.all_eq_true]
  constructor
  · intro h c hc
    have := h _ (List.mem_map.mpr ⟨c, hc, rfl⟩)
    simpa [dg1] using this
  · intro h d hd
    obtain ⟨c, hc, rfl⟩ := List.mem_map.mp hd
    simpa [dg1] using h c hc
theorem e_law_number {z : Str} (g : Gd z) : M__law_number [.str z] = .ok (if numOk z = true then .list [.int (numV z)] else .none) := by
  have gd := g.digs
  have hS : oSl (.str z) none (some 1) = some (.str (cutS z none (some 1))) := p_sl g _ _
  have hQ : oEq (.str (cutS z none (some 1))) (.str "-") = some (.bool (Txt.startswith z "-")) := by rw [p_eqS (g.cut _ _).ok (by decide +kernel), head_eq]
  have hL : ∀ t, lcL (gtN 2) (dB (dOp oNotIn (dVar 2) (dC (.str "0123456789")))) (dVar 2) [.dat t, .dat (.str (digs z)), .un] (signs (digs z)) = .ok ((signs (digs z)).filter fun d => !dg1 d) := fun t => by
    rw [lc_fil (p := fun d => !dg1 d) (f := id) (fun d hd => ?_) fun d hd => rfl, List.map_id]
    obtain ⟨c, hc, rfl⟩ := List.mem_map.mp hd
    rfl
  have hz : (signs (digs z)).length ≤ 100000 := by
    unfold signs
    rw [List.length_map, ← len_tl]
    exact Nat.le_trans gd.len (by decide)
  have hI : itemsP (.str (digs z)) = some (signs (digs z)) := rfl
  have hNe : oNe (.list ((signs (digs z)).filter fun d => !dg1 d)) (.list []) = some (.bool (!(tl (digs z)).all isD)) := by
    rw [p_ne (sh_list (k := 0) (by decide) fun d hd => ?_) sh_nil, eqv_nil, fil_empty]
    obtain ⟨c, hc, rfl⟩ := List.mem_map.mp (List.mem_filter.mp hd).1
    exact ⟨strOk1 (gd.asc c hc), Nat.le_refl _⟩
  have body : ∀ ρ, ρ = [Itm.dat (.str z), .dat (.str (digs z)), .un] → outR ((mSeq (mIf (liR (dOr (dNot (dB (dChain oLe oLe (dC (.int 1)) (dBi bLen (dCons (dVar 1) dNil)) (dC (.int 40))))) (dB (dOp oNe (dLc (dItems (dVar 1)) (gtN 2) (dB (dOp oNotIn (dVar 2) (dC (.str "0123456789")))) (dVar 2) [2]) (dLst dNil)))))
    (mSeq (mRet (liR (dC .none))) mNil) mNil)
    (mSeq (mRet (liR (dIf (dAnd (dB (dOp oEq (dOp oIx (dVar 1) (dC (.int 0))) (dC (.str "0")))) (dB (dOp oNe (dVar 0) (dC (.str "0"))))) (dC .none) (dLst (dCons (dBi bInt (dCons (dVar 0) dNil)) dNil))))) mNil)) ρ) = .ok (if numOk z = true then .list [.int (numV z)] else .none) := by
    intro ρ e
    subst e
    simp only [mir, mirL, mirN, startR, startL, mSeq, mNil, mFrz, mSet, mAsg, mPar, mNew, mNew2, mDrop, mRet, mRetN, mIf, mRaise, mFor, mWhile, mSetIx, xbind, liR, liO, lS, lST, lSs, Out.thn, outR, own0, dVar, dOwn, dC, dOp, dChain, dB, asB, dAnd, dOr, dNot, dAndV, dOrV, dNotV, dIf, dNeg, dNil, dCons, dTup, dLst, dCall, dBi, dSl, dNo, dSo, dM1, dIsi, dItems, dRng, dZip, dLc, dYes, dFmt, wipeR, setR, gtN, gtSeq, gtCons, gtNil, sNil, sCons, sOp, sB, sNotT, sTup, sLst, sBi, sCall, sSl, sOwn, sCallL, sRng, sItems, sLc, sYes, sTry, nLst, nList, nCall, Res.bind, ofO, frz, List.map_cons, List.map_nil, List.length_cons, List.length_nil, List.replicate, List.cons_append, List.nil_append, List.getElem?_cons_zero, List.getElem?_cons_succ, List.set_cons_zero, List.set_cons_succ, List.foldl_cons, List.foldl_nil, Nat.reduceAdd, Nat.reduceSub, Nat.reduceLeDiff, Nat.zero_le, Nat.zero_add, Option.bind_some, Option.map_some, Option.bind_none, Option.map_none, if_true, if_false, reduceIte, Bool.not_true, Bool.not_false, Bool.false_eq_true, p_len gd, p_le, hI, hL, hNe, if_pos hz]
    by_cases h1 : (1 : Int) ≤ (digs z).length
    · by_cases h2 : ((digs z).length : Int) ≤ 40
      · cases h3 : (tl (digs z)).all isD with
        | false =>
          have hn : numOk z = false := by
            unfold numOk
            rw [h3]
            simp
          simp [h1, h2, h3, hn]
        | true =>
          have h1' : 1 ≤ (digs z).length := by omega
          obtain ⟨c, hc, hi⟩ := ix0 gd h1'
          have hcA : c < 128 := gd.asc c (List.mem_of_mem_head? hc)
          have hE : oEq (.str ⟨#[c]⟩) (.str "0") = some (.bool (decide (c = 48))) := by rw [p_eqS (strOk1 hcA) (by decide +kernel), one_eq]
          have hN : oNe (.str z) (.str "0") = some (.bool (!(z == "0"))) := p_neS g.ok (by decide +kernel)
          simp only [decide_eq_true h1, decide_eq_true h2, h3, if_true, Bool.not_true, Bool.false_eq_true, if_false]
          simp only [mir, mirL, mirN, startR, startL, mSeq, mNil, mFrz, mSet, mAsg, mPar, mNew, mNew2, mDrop, mRet, mRetN, mIf, mRaise, mFor, mWhile, mSetIx, xbind, liR, liO, lS, lST, lSs, Out.thn, outR, own0, dVar, dOwn, dC, dOp, dChain, dB, asB, dAnd, dOr, dNot, dAndV, dOrV, dNotV, dIf, dNeg, dNil, dCons, dTup, dLst, dCall, dBi, dSl, dNo, dSo, dM1, dIsi, dItems, dRng, dZip, dLc, dYes, dFmt, wipeR, setR, gtN, gtSeq, gtCons, gtNil, sNil, sCons, sOp, sB, sNotT, sTup, sLst, sBi, sCall, sSl, sOwn, sCallL, sRng, sItems, sLc, sYes, sTry, nLst, nList, nCall, Res.bind, ofO, frz, List.map_cons, List.map_nil, List.length_cons, List.length_nil, List.replicate, List.cons_append, List.nil_append, List.getElem?_cons_zero, List.getElem?_cons_succ, List.set_cons_zero, List.set_cons_succ, List.foldl_cons, List.foldl_nil, Nat.reduceAdd, Nat.reduceSub, Nat.reduceLeDiff, Nat.zero_le, Nat.zero_add, Option.bind_some, Option.map_some, Option.bind_none, Option.map_none, if_true, if_false, reduceIte, Bool.not_true, Bool.not_false, Bool.false_eq_true, hi, hE, hN]
          by_cases h4 : c = 48
          · cases h5 : (z == "0") with
            | false =>
              have hn : numOk z = false := by
                unfold numOk
                rw [hc, h5, h4]
                simp
              simp [h4, hn]
            | true =>
              have hn : numOk z = true := by
                unfold numOk
                rw [h3, h5]
                have : (digs z).length ≤ 40 := by omega
                simp [h1', this]
              have hv := p_int hn
              simp [h4, hn, hv]
          · have hn : numOk z = true := by
              unfold numOk
              rw [h3, hc]
              have : (digs z).length ≤ 40 := by omega
              simp [h1', this, h4]
            have hv := p_int hn
            simp [h4, hn, hv]
      · have hn : numOk z = false := by
          unfold numOk
          have : ¬ (digs z).length ≤ 40 := by omega
          simp [this]
        simp [h1, h2, hn]
    · have hn : numOk z = false := by
        unfold numOk
        have : ¬ 1 ≤ (digs z).length := by omega
        simp [this]
      simp [h1, hn]
  unfold M__law_number m__law_number
  rw [← body [Itm.dat (.str z), .dat (.str (digs z)), .un] rfl]
  unfold digs
  cases hb : Txt.startswith z "-" with
  | true => simp only [mir, mirL, mirN, startR, startL, mSeq, mNil, mFrz, mSet, mAsg, mPar, mNew, mNew2, mDrop, mRet, mRetN, mIf, mRaise, mFor, mWhile, mSetIx, xbind, liR, liO, lS, lST, lSs, Out.thn, outR, own0, dVar, dOwn, dC, dOp, dChain, dB, asB, dAnd, dOr, dNot, dAndV, dOrV, dNotV, dIf, dNeg, dNil, dCons, dTup, dLst, dCall, dBi, dSl, dNo, dSo, dM1, dIsi, dItems, dRng, dZip, dLc, dYes, dFmt, wipeR, setR, gtN, gtSeq, gtCons, gtNil, sNil, sCons, sOp, sB, sNotT, sTup, sLst, sBi, sCall, sSl, sOwn, sCallL, sRng, sItems, sLc, sYes, sTry, nLst, nList, nCall, Res.bind, ofO, frz, List.map_cons, List.map_nil, List.length_cons, List.length_nil, List.replicate, List.cons_append, List.nil_append, List.getElem?_cons_zero, List.getElem?_cons_succ, List.set_cons_zero, List.set_cons_succ, List.foldl_cons, List.foldl_nil, Nat.reduceAdd, Nat.reduceSub, Nat.reduceLeDiff, Nat.zero_le, Nat.zero_add, Option.bind_some, Option.map_some, Option.bind_none, Option.map_none, if_true, if_false, reduceIte, Bool.not_true, Bool.not_false, Bool.false_eq_true, hS, hQ, hb, p_sl g]
  | false => simp only [mir, mirL, mirN, startR, startL, mSeq, mNil, mFrz, mSet, mAsg, mPar, mNew, mNew2, mDrop, mRet, mRetN, mIf, mRaise, mFor, mWhile, mSetIx, xbind, liR, liO, lS, lST, lSs, Out.thn, outR, own0, dVar, dOwn, dC, dOp, dChain, dB, asB, dAnd, dOr, dNot, dAndV, dOrV, dNotV, dIf, dNeg, dNil, dCons, dTup, dLst, dCall, dBi, dSl, dNo, dSo, dM1, dIsi, dItems, dRng, dZip, dLc, dYes, dFmt, wipeR, setR, gtN, gtSeq, gtCons, gtNil, sNil, sCons, sOp, sB, sNotT, sTup, sLst, sBi, sCall, sSl, sOwn, sCallL, sRng, sItems, sLc, sYes, sTry, nLst, nList, nCall, Res.bind, ofO, frz, List.map_cons, List.map_nil, List.length_cons, List.length_nil, List.replicate, List.cons_append, List.nil_append, List.getElem?_cons_zero, List.getElem?_cons_succ, List.set_cons_zero, List.set_cons_succ, List.foldl_cons, List.foldl_nil, Nat.reduceAdd, Nat.reduceSub, Nat.reduceLeDiff, Nat.zero_le, Nat.zero_add, Option.bind_some, Option.map_some, Option.bind_none, Option.map_none, if_true, if_false, reduceIte, Bool.not_true, Bool.not_false, Bool.false_eq_true, hS, hQ, hb]
/-! ### parts of a text -/
theorem spl_facts (S : List Nat) : ∀ (l : List Nat) (k : Nat) (acc : List Nat), (spl S k acc l ≠ []) ∧ (spl S k acc l).length ≤ l.length + 1 ∧ (∀ p ∈ spl S k acc l, p.length ≤ acc.length + l.length ∧ ∀ c ∈ p, c ∈ acc ∨ c ∈ l)
  | [], k, acc => by
    rw [spl_nil]
    refine ⟨by simp, by simp, fun p hp => ?_⟩
    rw [List.mem_singleton.mp hp]
    exact ⟨by simp, fun c h => .inl h⟩
  | c :: r, 0, acc => by
    unfold spl
    split
    · obtain ⟨h1, h2, h3⟩ := spl_facts S r (S.length - 1) []
      refine ⟨by simp, by simp only [List.length_cons]; omega, fun p hp => ?_⟩
      rcases List.mem_cons.mp hp with e | e
      · rw [e]
        exact ⟨by omega, fun x h => .inl h⟩
      · obtain ⟨q1, q2⟩ := h3 p e
        simp only [List.length_nil] at q1
        exact ⟨by simp only [List.length_cons]; omega, fun x h => .inr (List.mem_cons_of_mem _ ((q2 x h).elim (fun z => (List.not_mem_nil z).elim) id))⟩
    · obtain ⟨h1, h2, h3⟩ := spl_facts S r 0 (acc ++ [c])
      refine ⟨h1, by simp only [List.length_cons]; omega, fun p hp => ?_⟩
      obtain ⟨q1, q2⟩ := h3 p hp
      simp only [List.length_append, List.length_cons, List.length_nil] at q1
      refine ⟨by simp only [List.length_cons]; omega, fun x h => ?_⟩
      rcases q2 x h with z | z
      · rcases List.mem_append.mp z with z | z
        · exact .inl z
        · rw [List.mem_singleton.mp z]; exact .inr List.mem_cons_self
      · exact .inr (List.mem_cons_of_mem _ z)
  | c :: r, k + 1, acc => by
    unfold spl
    obtain ⟨h1, h2, h3⟩ := spl_facts S r k acc
    refine ⟨h1, by simp only [List.length_cons]; omega, fun p hp => ?_⟩
    obtain ⟨q1, q2⟩ := h3 p hp
    exact ⟨by simp only [List.length_cons]; omega, fun x h => (q2 x h).elim .inl fun z => .inr (List.mem_cons_of_mem _ z)⟩
structure Parts (z : Str) (zs : List Str) : Prop where
  ne : zs ≠ []
  len : zs.length ≤ 20001
  gd : ∀ p ∈ zs, Gd p
theorem parts_of {z y : Str} (g : Gd z) (hy : tl y ≠ []) (hk : y.cps.all (· < 256) = true) : Parts z (Txt.split z y) := by
  have e := split_spl z y hy (kind_ok hk)
  obtain ⟨h1, h2, h3⟩ := spl_facts (tl y) (tl z) 0 []
  rw [← e] at h1 h2 h3
  refine ⟨fun q => h1 (by rw [q]; rfl), ?_, fun p hp => ?_⟩
  · rw [List.length_map, ← len_tl] at h2
    exact Nat.le_trans h2 (Nat.succ_le_succ g.len)
  · obtain ⟨q1, q2⟩ := h3 (tl p) (List.mem_map.mpr ⟨p, hp, rfl⟩)
    refine ⟨fun c hc => (q2 c hc).elim (fun z => (List.not_mem_nil z).elim) (g.asc c), ?_⟩
    rw [len_tl]
    simp only [List.length_nil, Nat.zero_add, ← len_tl] at q1
    rw [← len_tl]
    exact Nat.le_trans q1 g.len
theorem p_split {z : Str} (g : Gd z) {y : Str} (hy : y.length ≠ 0) : mSplit z (.str y) = some (.list ((Txt.split z y).map .str)) := by
  have h1 : (1000000 : Nat) ≤ sizeLine := line_big
  have h2 := g.len
  exact if_pos ⟨hy, by omega⟩
end K77
end

section
set_option Elab.async false
set_option linter.all false
set_option maxRecDepth 100000
set_option maxHeartbeats 4000000
namespace K77
open D PySem L2 TL NumText
def isInt (d : PyData) : Bool := match d with
  | .int _ => true
  | _ => false
def nums (zs : List Str) : List PyData := zs.map fun z => .int (numV z)
theorem numbers_R : ∀ {zs : List Str}, (∀ z ∈ zs, Gd z) → mapR (fun d => M_number_in [d]) (zs.map .str) = if zs.all numOk = true then .ok (nums zs) else .err "ParseError"
  | [], _ => rfl
  | z :: zs, h => by
    have ih := numbers_R (zs := zs) fun y m => h y (List.mem_cons_of_mem _ m)
    rw [List.map_cons]
    unfold mapR
    rw [e_number_in (h z List.mem_cons_self), ih, List.all_cons]
    cases h1 : numOk z with
    | false => simp [Res.bind]
    | true =>
      cases h2 : zs.all numOk with
      | false => simp [Res.bind]
      | true => simp [Res.bind, nums]
theorem e_require_text (d : PyData) : M_require_text [d] = match d with
  | .str _ => .ok .none
  | _ => .err "ParseError" := by
  cases d <;> rfl
theorem tup_of (l : List PyData) : bTuple [.list l] = some (.tuple l) := rfl
theorem ints_all (zs : List Str) : (nums zs).all isInt = true := by
  unfold nums
  rw [List.all_map]
  simp [isInt]
theorem e_is_vector_of (n : Int) (l : List PyData) (hl : l.length ≤ 100000) : M_is_vector_of [.int n, .tuple l] = .ok (.bool (((l.length : Int) == n) && l.all isInt)) := by
  have hL : ∀ t, lcL (gtN 2) dYes (dCall M_is_integer (dCons (dVar 2) dNil)) [t, .dat (.tuple l), .un] l = .ok (l.map fun d => .bool (isInt d)) := fun t => lc_map fun d hd => by
      show M_is_integer [d] = _
      cases d <;> rfl
  unfold M_is_vector_of m_is_vector_of
  have hI : kitB (tyName (.tuple l)) "tuple" = some true := by rfl
  simp only [mir, mirL, mirN, startR, startL, mSeq, mNil, mFrz, mSet, mAsg, mPar, mNew, mNew2, mDrop, mRet, mRetN, mIf, mRaise, mFor, mWhile, mSetIx, xbind, liR, liO, lS, lST, lSs, Out.thn, outR, own0, dVar, dOwn, dC, dOp, dChain, dB, asB, dAnd, dOr, dNot, dAndV, dOrV, dNotV, dIf, dNeg, dNil, dCons, dTup, dLst, dCall, dBi, dSl, dNo, dSo, dM1, dIsi, dItems, dRng, dZip, dLc, dYes, dFmt, wipeR, setR, gtN, gtSeq, gtCons, gtNil, sNil, sCons, sOp, sB, sNotT, sTup, sLst, sBi, sCall, sSl, sOwn, sCallL, sRng, sItems, sLc, sYes, sTry, nLst, nList, nCall, Res.bind, ofO, frz, List.map_cons, List.map_nil, List.length_cons, List.length_nil, List.replicate, List.cons_append, List.nil_append, List.getElem?_cons_zero, List.getElem?_cons_succ, List.set_cons_zero, List.set_cons_succ, List.foldl_cons, List.foldl_nil, Nat.reduceAdd, Nat.reduceSub, Nat.reduceLeDiff, Nat.zero_le, Nat.zero_add, Option.bind_some, Option.map_some, Option.bind_none, Option.map_none, if_true, if_false, reduceIte, Bool.not_true, Bool.not_false, Bool.false_eq_true, hI, p_lent, p_eqI, i_tup, if_pos hl, hL, p_all]
  cases ((l.length : Int) == n) <;> simp
theorem e_is_vector (l : List PyData) (hl : l.length ≤ 100000) : M_is_vector [.tuple l] = .ok (.bool (decide (1 ≤ l.length ∧ l.length ≤ 5) && l.all isInt)) := by
  unfold M_is_vector m_is_vector
  have hI : kitB (tyName (.tuple l)) "tuple" = some true := by rfl
  simp only [mir, mirL, mirN, startR, startL, mSeq, mNil, mFrz, mSet, mAsg, mPar, mNew, mNew2, mDrop, mRet, mRetN, mIf, mRaise, mFor, mWhile, mSetIx, xbind, liR, liO, lS, lST, lSs, Out.thn, outR, own0, dVar, dOwn, dC, dOp, dChain, dB, asB, dAnd, dOr, dNot, dAndV, dOrV, dNotV, dIf, dNeg, dNil, dCons, dTup, dLst, dCall, dBi, dSl, dNo, dSo, dM1, dIsi, dItems, dRng, dZip, dLc, dYes, dFmt, wipeR, setR, gtN, gtSeq, gtCons, gtNil, sNil, sCons, sOp, sB, sNotT, sTup, sLst, sBi, sCall, sSl, sOwn, sCallL, sRng, sItems, sLc, sYes, sTry, nLst, nList, nCall, Res.bind, ofO, frz, List.map_cons, List.map_nil, List.length_cons, List.length_nil, List.replicate, List.cons_append, List.nil_append, List.getElem?_cons_zero, List.getElem?_cons_succ, List.set_cons_zero, List.set_cons_succ, List.foldl_cons, List.foldl_nil, Nat.reduceAdd, Nat.reduceSub, Nat.reduceLeDiff, Nat.zero_le, Nat.zero_add, Option.bind_some, Option.map_some, Option.bind_none, Option.map_none, if_true, if_false, reduceIte, Bool.not_true, Bool.not_false, Bool.false_eq_true, hI, p_lent, p_le]
  by_cases h1 : (1 : Int) ≤ l.length
  · by_cases h2 : (l.length : Int) ≤ 5
    · have h1' : 1 ≤ l.length := by omega
      have h2' : l.length ≤ 5 := by omega
      simp only [decide_eq_true h1, decide_eq_true h2, if_true]
      simp only [mir, mirL, mirN, startR, startL, mSeq, mNil, mFrz, mSet, mAsg, mPar, mNew, mNew2, mDrop, mRet, mRetN, mIf, mRaise, mFor, mWhile, mSetIx, xbind, liR, liO, lS, lST, lSs, Out.thn, outR, own0, dVar, dOwn, dC, dOp, dChain, dB, asB, dAnd, dOr, dNot, dAndV, dOrV, dNotV, dIf, dNeg, dNil, dCons, dTup, dLst, dCall, dBi, dSl, dNo, dSo, dM1, dIsi, dItems, dRng, dZip, dLc, dYes, dFmt, wipeR, setR, gtN, gtSeq, gtCons, gtNil, sNil, sCons, sOp, sB, sNotT, sTup, sLst, sBi, sCall, sSl, sOwn, sCallL, sRng, sItems, sLc, sYes, sTry, nLst, nList, nCall, Res.bind, ofO, frz, List.map_cons, List.map_nil, List.length_cons, List.length_nil, List.replicate, List.cons_append, List.nil_append, List.getElem?_cons_zero, List.getElem?_cons_succ, List.set_cons_zero, List.set_cons_succ, List.foldl_cons, List.foldl_nil, Nat.reduceAdd, Nat.reduceSub, Nat.reduceLeDiff, Nat.zero_le, Nat.zero_add, Option.bind_some, Option.map_some, Option.bind_none, Option.map_none, if_true, if_false, reduceIte, Bool.not_true, Bool.not_false, Bool.false_eq_true, e_is_vector_of _ l hl]
      simp [h1', h2']
    · have h2' : ¬ l.length ≤ 5 := by omega
      simp [h1, h2, h2']
  · have h1' : ¬ 1 ≤ l.length := by omega
    simp [h1, h1']
theorem e_parse_vector {z : Str} (g : Gd z) : M_parse_vector [.str z] = if (Txt.split z " ").all numOk && decide ((Txt.split z " ").length ≤ 5) then .ok (.tuple (nums (Txt.split z " "))) else .err "ParseError" := by
  have ps := parts_of g (y := " ") (by decide +kernel) (by decide +kernel)
  have hs := p_split g (y := " ") (by decide +kernel)
  generalize Txt.split z " " = zs at ps hs
  have hL : ∀ t, lcL (gtN 2) dYes (dCall M_number_in (dCons (dVar 2) dNil)) [t, .un, .un] (zs.map .str) = if zs.all numOk = true then .ok (nums zs) else .err "ParseError" := fun t => by
    rw [lc_R, ← numbers_R ps.gd]
    rfl
  have hz : (zs.map PyData.str).length ≤ 100000 := by
    rw [List.length_map]
    exact Nat.le_trans ps.len (by decide)
  have hn : (nums zs).length = zs.length := by
    unfold nums
    rw [List.length_map]
  have h1 : 1 ≤ zs.length := List.length_pos_iff.mpr ps.ne
  unfold M_parse_vector m_parse_vector
  simp only [mir, mirL, mirN, startR, startL, mSeq, mNil, mFrz, mSet, mAsg, mPar, mNew, mNew2, mDrop, mRet, mRetN, mIf, mRaise, mFor, mWhile, mSetIx, xbind, liR, liO, lS, lST, lSs, Out.thn, outR, own0, dVar, dOwn, dC, dOp, dChain, dB, asB, dAnd, dOr, dNot, dAndV, dOrV, dNotV, dIf, dNeg, dNil, dCons, dTup, dLst, dCall, dBi, dSl, dNo, dSo, dM1, dIsi, dItems, dRng, dZip, dLc, dYes, dFmt, wipeR, setR, gtN, gtSeq, gtCons, gtNil, sNil, sCons, sOp, sB, sNotT, sTup, sLst, sBi, sCall, sSl, sOwn, sCallL, sRng, sItems, sLc, sYes, sTry, nLst, nList, nCall, Res.bind, ofO, frz, List.map_cons, List.map_nil, List.length_cons, List.length_nil, List.replicate, List.cons_append, List.nil_append, List.getElem?_cons_zero, List.getElem?_cons_succ, List.set_cons_zero, List.set_cons_succ, List.foldl_cons, List.foldl_nil, Nat.reduceAdd, Nat.reduceSub, Nat.reduceLeDiff, Nat.zero_le, Nat.zero_add, Option.bind_some, Option.map_some, Option.bind_none, Option.map_none, if_true, if_false, reduceIte, Bool.not_true, Bool.not_false, Bool.false_eq_true, e_require_text, hs, i_lst, if_pos hz, hL]
  cases h2 : zs.all numOk with
  | false => simp
  | true =>
    simp only [if_true]
    simp only [mir, mirL, mirN, startR, startL, mSeq, mNil, mFrz, mSet, mAsg, mPar, mNew, mNew2, mDrop, mRet, mRetN, mIf, mRaise, mFor, mWhile, mSetIx, xbind, liR, liO, lS, lST, lSs, Out.thn, outR, own0, dVar, dOwn, dC, dOp, dChain, dB, asB, dAnd, dOr, dNot, dAndV, dOrV, dNotV, dIf, dNeg, dNil, dCons, dTup, dLst, dCall, dBi, dSl, dNo, dSo, dM1, dIsi, dItems, dRng, dZip, dLc, dYes, dFmt, wipeR, setR, gtN, gtSeq, gtCons, gtNil, sNil, sCons, sOp, sB, sNotT, sTup, sLst, sBi, sCall, sSl, sOwn, sCallL, sRng, sItems, sLc, sYes, sTry, nLst, nList, nCall, Res.bind, ofO, frz, List.map_cons, List.map_nil, List.length_cons, List.length_nil, List.replicate, List.cons_append, List.nil_append, List.getElem?_cons_zero, List.getElem?_cons_succ, List.set_cons_zero, List.set_cons_succ, List.foldl_cons, List.foldl_nil, Nat.reduceAdd, Nat.reduceSub, Nat.reduceLeDiff, Nat.zero_le, Nat.zero_add, Option.bind_some, Option.map_some, Option.bind_none, Option.map_none, if_true, if_false, reduceIte, Bool.not_true, Bool.not_false, Bool.false_eq_true, tup_of, e_is_vector (nums zs) (by rw [hn]; exact Nat.le_trans ps.len (by decide)), hn, ints_all]
    by_cases h3 : zs.length ≤ 5
    · simp [h1, h3]
    · simp [h1, h3]
/-! ### the law's own -/
theorem nums_loop {X : PyData} : ∀ {zs : List Str} {acc : List PyData} {t u : Itm}, (∀ z ∈ zs, Gd z) → acc.length + zs.length ≤ 100000 →
    (zs.all numOk = true → ∃ t' u', forL (gtN 2) (mSeq (mSet 3 (liR (dCall M__law_number (dCons (dVar 2) dNil))))
      (mSeq (mIf (liR (dB (dOp oIsN (dVar 3) (dC .none)))) (mSeq (mRet (liR (dC .none))) mNil) mNil)
      (mSeq (mDrop (liO (sOwn 1 mAppend (sCons (lS (dOp oIx (dVar 3) (dC (.int 0)))) sNil)))) mNil))) [.dat X, .own acc, t, u] (zs.map .str) = .nx [.dat X, .own (acc ++ nums zs), t', u']) ∧
    (zs.all numOk = false → ∃ ρ, forL (gtN 2) (mSeq (mSet 3 (liR (dCall M__law_number (dCons (dVar 2) dNil))))
      (mSeq (mIf (liR (dB (dOp oIsN (dVar 3) (dC .none)))) (mSeq (mRet (liR (dC .none))) mNil) mNil)
      (mSeq (mDrop (liO (sOwn 1 mAppend (sCons (lS (dOp oIx (dVar 3) (dC (.int 0)))) sNil)))) mNil))) [.dat X, .own acc, t, u] (zs.map .str) = .ret .none ρ)
  | [], acc, t, u, _, _ => ⟨fun _ => ⟨t, u, by simp [forL, nums]⟩, fun h => by simp at h⟩
  | z :: zs, acc, t, u, hg, hl => by
    have gz := hg z List.mem_cons_self
    have hl' : acc.length < 1000000 := by simp only [List.length_cons] at hl; omega
    rw [List.map_cons]
    unfold forL
    cases hz : numOk z with
    | false =>
      refine ⟨fun h => ?_, fun _ => ?_⟩
      · rw [List.all_cons, hz] at h
        cases h
      · have e := e_law_number gz
        rw [hz] at e
        simp only [Bool.false_eq_true, if_false] at e
        have hI : oIsN .none .none = some (.bool true) := rfl
        simp only [mir, mirL, mirN, startR, startL, mSeq, mNil, mFrz, mSet, mAsg, mPar, mNew, mNew2, mDrop, mRet, mRetN, mIf, mRaise, mFor, mWhile, mSetIx, xbind, liR, liO, lS, lST, lSs, Out.thn, outR, own0, dVar, dOwn, dC, dOp, dChain, dB, asB, dAnd, dOr, dNot, dAndV, dOrV, dNotV, dIf, dNeg, dNil, dCons, dTup, dLst, dCall, dBi, dSl, dNo, dSo, dM1, dIsi, dItems, dRng, dZip, dLc, dYes, dFmt, wipeR, setR, gtN, gtSeq, gtCons, gtNil, sNil, sCons, sOp, sB, sNotT, sTup, sLst, sBi, sCall, sSl, sOwn, sCallL, sRng, sItems, sLc, sYes, sTry, nLst, nList, nCall, Res.bind, ofO, frz, List.map_cons, List.map_nil, List.length_cons, List.length_nil, List.replicate, List.cons_append, List.nil_append, List.getElem?_cons_zero, List.getElem?_cons_succ, List.set_cons_zero, List.set_cons_succ, List.foldl_cons, List.foldl_nil, Nat.reduceAdd, Nat.reduceSub, Nat.reduceLeDiff, Nat.zero_le, Nat.zero_add, Option.bind_some, Option.map_some, Option.bind_none, Option.map_none, if_true, if_false, reduceIte, Bool.not_true, Bool.not_false, Bool.false_eq_true, e, hI]
        exact ⟨_, rfl⟩
    | true =>
      have e := e_law_number gz
      rw [hz] at e
      simp only [if_true] at e
      have hI : ∀ d, oIsN (.list [d]) .none = some (.bool false) := fun d => rfl
      have hX : ∀ d, oIx (.list [d]) (.int 0) = some d := fun d => rfl
      have hA : ∀ d, mAppend acc [d] = some (.none, acc ++ [d]) := fun d => if_pos hl'
      obtain ⟨i1, i2⟩ := nums_loop (X := X) (zs := zs) (acc := acc ++ [.int (numV z)]) (t := .dat (.str z)) (u := .dat (.list [.int (numV z)])) (fun y m => hg y (List.mem_cons_of_mem _ m)) (by
        simp only [List.length_append, List.length_cons, List.length_nil] at hl ⊢
        omega)
      simp only [mir, mirL, mirN, startR, startL, mSeq, mNil, mFrz, mSet, mAsg, mPar, mNew, mNew2, mDrop, mRet, mRetN, mIf, mRaise, mFor, mWhile, mSetIx, xbind, liR, liO, lS, lST, lSs, Out.thn, outR, own0, dVar, dOwn, dC, dOp, dChain, dB, asB, dAnd, dOr, dNot, dAndV, dOrV, dNotV, dIf, dNeg, dNil, dCons, dTup, dLst, dCall, dBi, dSl, dNo, dSo, dM1, dIsi, dItems, dRng, dZip, dLc, dYes, dFmt, wipeR, setR, gtN, gtSeq, gtCons, gtNil, sNil, sCons, sOp, sB, sNotT, sTup, sLst, sBi, sCall, sSl, sOwn, sCallL, sRng, sItems, sLc, sYes, sTry, nLst, nList, nCall, Res.bind, ofO, frz, List.map_cons, List.map_nil, List.length_cons, List.length_nil, List.replicate, List.cons_append, List.nil_append, List.getElem?_cons_zero, List.getElem?_cons_succ, List.set_cons_zero, List.set_cons_succ, List.foldl_cons, List.foldl_nil, Nat.reduceAdd, Nat.reduceSub, Nat.reduceLeDiff, Nat.zero_le, Nat.zero_add, Option.bind_some, Option.map_some, Option.bind_none, Option.map_none, if_true, if_false, reduceIte, Bool.not_true, Bool.not_false, Bool.false_eq_true, e, hI, hX, hA]
      rw [List.all_cons, hz, Bool.true_and]
      refine ⟨fun h => ?_, fun h => ?_⟩
      · obtain ⟨t', u', q⟩ := i1 h
        refine ⟨t', u', ?_⟩
        have e2 : acc ++ nums (z :: zs) = acc ++ [.int (numV z)] ++ nums zs := by simp [nums]
        rw [e2, ← q]
      · obtain ⟨ρ, q⟩ := i2 h
        exact ⟨ρ, q⟩
theorem e_law_numbers {zs : List Str} (hg : ∀ z ∈ zs, Gd z) (hl : zs.length ≤ 20001) : M__law_numbers [.list (zs.map .str)] = .ok (if zs.all numOk = true then .list (nums zs) else .none) := by
  obtain ⟨i1, i2⟩ := nums_loop (X := .list (zs.map .str)) (zs := zs) (acc := []) (t := .un) (u := .un) hg (by simp only [List.length_nil]; omega)
  unfold M__law_numbers m__law_numbers
  cases h : zs.all numOk with
  | true =>
    obtain ⟨t', u', q⟩ := i1 h
    simp only [mir, mirL, mirN, startR, startL, mSeq, mNil, mFrz, mSet, mAsg, mPar, mNew, mNew2, mDrop, mRet, mRetN, mIf, mRaise, mFor, mWhile, mSetIx, xbind, liR, liO, lS, lST, lSs, Out.thn, outR, own0, dVar, dOwn, dC, dOp, dChain, dB, asB, dAnd, dOr, dNot, dAndV, dOrV, dNotV, dIf, dNeg, dNil, dCons, dTup, dLst, dCall, dBi, dSl, dNo, dSo, dM1, dIsi, dItems, dRng, dZip, dLc, dYes, dFmt, wipeR, setR, gtN, gtSeq, gtCons, gtNil, sNil, sCons, sOp, sB, sNotT, sTup, sLst, sBi, sCall, sSl, sOwn, sCallL, sRng, sItems, sLc, sYes, sTry, nLst, nList, nCall, Res.bind, ofO, frz, List.map_cons, List.map_nil, List.length_cons, List.length_nil, List.replicate, List.cons_append, List.nil_append, List.getElem?_cons_zero, List.getElem?_cons_succ, List.set_cons_zero, List.set_cons_succ, List.foldl_cons, List.foldl_nil, Nat.reduceAdd, Nat.reduceSub, Nat.reduceLeDiff, Nat.zero_le, Nat.zero_add, Option.bind_some, Option.map_some, Option.bind_none, Option.map_none, if_true, if_false, reduceIte, Bool.not_true, Bool.not_false, Bool.false_eq_true, i_lst, q]
  | false =>
    obtain ⟨ρ, q⟩ := i2 h
    simp only [mir, mirL, mirN, startR, startL, mSeq, mNil, mFrz, mSet, mAsg, mPar, mNew, mNew2, mDrop, mRet, mRetN, mIf, mRaise, mFor, mWhile, mSetIx, xbind, liR, liO, lS, lST, lSs, Out.thn, outR, own0, dVar, dOwn, dC, dOp, dChain, dB, asB, dAnd, dOr, dNot, dAndV, dOrV, dNotV, dIf, dNeg, dNil, dCons, dTup, dLst, dCall, dBi, dSl, dNo, dSo, dM1, dIsi, dItems, dRng, dZip, dLc, dYes, dFmt, wipeR, setR, gtN, gtSeq, gtCons, gtNil, sNil, sCons, sOp, sB, sNotT, sTup, sLst, sBi, sCall, sSl, sOwn, sCallL, sRng, sItems, sLc, sYes, sTry, nLst, nList, nCall, Res.bind, ofO, frz, List.map_cons, List.map_nil, List.length_cons, List.length_nil, List.replicate, List.cons_append, List.nil_append, List.getElem?_cons_zero, List.getElem?_cons_succ, List.set_cons_zero, List.set_cons_succ, List.foldl_cons, List.foldl_nil, Nat.reduceAdd, Nat.reduceSub, Nat.reduceLeDiff, Nat.zero_le, Nat.zero_add, Option.bind_some, Option.map_some, Option.bind_none, Option.map_none, if_true, if_false, reduceIte, Bool.not_true, Bool.not_false, Bool.false_eq_true, i_lst, q]
theorem e_vector_due {z : Str} (g : Gd z) : M__law_vector_due [.str z] = .ok (if (Txt.split z " ").all numOk && decide ((Txt.split z " ").length ≤ 5) then .list [.tuple (nums (Txt.split z " "))] else .none) := by
  have ps := parts_of g (y := " ") (by decide +kernel) (by decide +kernel)
  have hs := p_split g (y := " ") (by decide +kernel)
  generalize Txt.split z " " = zs at ps hs
  have hn : (nums zs).length = zs.length := by
    unfold nums
    rw [List.length_map]
  unfold M__law_vector_due m__law_vector_due
  simp only [mir, mirL, mirN, startR, startL, mSeq, mNil, mFrz, mSet, mAsg, mPar, mNew, mNew2, mDrop, mRet, mRetN, mIf, mRaise, mFor, mWhile, mSetIx, xbind, liR, liO, lS, lST, lSs, Out.thn, outR, own0, dVar, dOwn, dC, dOp, dChain, dB, asB, dAnd, dOr, dNot, dAndV, dOrV, dNotV, dIf, dNeg, dNil, dCons, dTup, dLst, dCall, dBi, dSl, dNo, dSo, dM1, dIsi, dItems, dRng, dZip, dLc, dYes, dFmt, wipeR, setR, gtN, gtSeq, gtCons, gtNil, sNil, sCons, sOp, sB, sNotT, sTup, sLst, sBi, sCall, sSl, sOwn, sCallL, sRng, sItems, sLc, sYes, sTry, nLst, nList, nCall, Res.bind, ofO, frz, List.map_cons, List.map_nil, List.length_cons, List.length_nil, List.replicate, List.cons_append, List.nil_append, List.getElem?_cons_zero, List.getElem?_cons_succ, List.set_cons_zero, List.set_cons_succ, List.foldl_cons, List.foldl_nil, Nat.reduceAdd, Nat.reduceSub, Nat.reduceLeDiff, Nat.zero_le, Nat.zero_add, Option.bind_some, Option.map_some, Option.bind_none, Option.map_none, if_true, if_false, reduceIte, Bool.not_true, Bool.not_false, Bool.false_eq_true, hs, e_law_numbers ps.gd ps.len]
  cases h2 : zs.all numOk with
  | false =>
    have hI : oIsN .none .none = some (.bool true) := rfl
    simp only [Bool.false_eq_true, if_false]
    simp only [mir, mirL, mirN, startR, startL, mSeq, mNil, mFrz, mSet, mAsg, mPar, mNew, mNew2, mDrop, mRet, mRetN, mIf, mRaise, mFor, mWhile, mSetIx, xbind, liR, liO, lS, lST, lSs, Out.thn, outR, own0, dVar, dOwn, dC, dOp, dChain, dB, asB, dAnd, dOr, dNot, dAndV, dOrV, dNotV, dIf, dNeg, dNil, dCons, dTup, dLst, dCall, dBi, dSl, dNo, dSo, dM1, dIsi, dItems, dRng, dZip, dLc, dYes, dFmt, wipeR, setR, gtN, gtSeq, gtCons, gtNil, sNil, sCons, sOp, sB, sNotT, sTup, sLst, sBi, sCall, sSl, sOwn, sCallL, sRng, sItems, sLc, sYes, sTry, nLst, nList, nCall, Res.bind, ofO, frz, List.map_cons, List.map_nil, List.length_cons, List.length_nil, List.replicate, List.cons_append, List.nil_append, List.getElem?_cons_zero, List.getElem?_cons_succ, List.set_cons_zero, List.set_cons_succ, List.foldl_cons, List.foldl_nil, Nat.reduceAdd, Nat.reduceSub, Nat.reduceLeDiff, Nat.zero_le, Nat.zero_add, Option.bind_some, Option.map_some, Option.bind_none, Option.map_none, if_true, if_false, reduceIte, Bool.not_true, Bool.not_false, Bool.false_eq_true, hI]
    simp
  | true =>
    have hI : ∀ l, oIsN (.list l) .none = some (.bool false) := fun d => rfl
    simp only [if_true]
    simp only [mir, mirL, mirN, startR, startL, mSeq, mNil, mFrz, mSet, mAsg, mPar, mNew, mNew2, mDrop, mRet, mRetN, mIf, mRaise, mFor, mWhile, mSetIx, xbind, liR, liO, lS, lST, lSs, Out.thn, outR, own0, dVar, dOwn, dC, dOp, dChain, dB, asB, dAnd, dOr, dNot, dAndV, dOrV, dNotV, dIf, dNeg, dNil, dCons, dTup, dLst, dCall, dBi, dSl, dNo, dSo, dM1, dIsi, dItems, dRng, dZip, dLc, dYes, dFmt, wipeR, setR, gtN, gtSeq, gtCons, gtNil, sNil, sCons, sOp, sB, sNotT, sTup, sLst, sBi, sCall, sSl, sOwn, sCallL, sRng, sItems, sLc, sYes, sTry, nLst, nList, nCall, Res.bind, ofO, frz, List.map_cons, List.map_nil, List.length_cons, List.length_nil, List.replicate, List.cons_append, List.nil_append, List.getElem?_cons_zero, List.getElem?_cons_succ, List.set_cons_zero, List.set_cons_succ, List.foldl_cons, List.foldl_nil, Nat.reduceAdd, Nat.reduceSub, Nat.reduceLeDiff, Nat.zero_le, Nat.zero_add, Option.bind_some, Option.map_some, Option.bind_none, Option.map_none, if_true, if_false, reduceIte, Bool.not_true, Bool.not_false, Bool.false_eq_true, hI, p_lenl, p_gt, hn, tup_of]
    by_cases h3 : zs.length ≤ 5
    · have h3' : ¬ (5 : Int) < zs.length := by omega
      simp [h3, h3']
    · have h3' : (5 : Int) < zs.length := by omega
      simp [h3, h3']
end K77
end

section
set_option Elab.async false
set_option linter.all false
set_option maxRecDepth 100000
set_option maxHeartbeats 4000000
namespace K77
open D PySem L2 TL NumText
/-! ### alphabets -/
def acts : List Str := ["a", "b", "c", "done", "go", "load", "p", "ship", "wait", "x", "eightsgn"]
structure Al (al : List Str) : Prop where
  one : 1 ≤ al.length
  five : al.length ≤ 5
  mem : ∀ a ∈ al, a ∈ acts
  up : al.Pairwise fun x y => PySem.W.dataLt (.str x) (.str y) = true
theorem acts_all {p : Str → Prop} (h : p "a" ∧ p "b" ∧ p "c" ∧ p "done" ∧ p "go" ∧ p "load" ∧ p "p" ∧ p "ship" ∧ p "wait" ∧ p "x" ∧ p "eightsgn") : ∀ a ∈ acts, p a := fun a ha => by
  unfold acts at ha
  simp only [List.mem_cons, List.not_mem_nil, or_false] at ha
  obtain ⟨h1, h2, h3, h4, h5, h6, h7, h8, h9, h10, h11⟩ := h
  rcases ha with rfl | rfl | rfl | rfl | rfl | rfl | rfl | rfl | rfl | rfl | rfl <;> assumption
theorem act_ok : ∀ a ∈ acts, M_is_action [.str a] = .ok (.bool true) := acts_all ⟨by rfl, by rfl, by rfl, by rfl, by rfl, by rfl, by rfl, by rfl, by rfl, by rfl, by rfl⟩
/-- what is needed of the signs of an action -/
theorem act_gd : ∀ a ∈ acts, (∀ c ∈ tl a, 97 ≤ c ∧ c ≤ 122) ∧ 1 ≤ a.length ∧ a.length ≤ 8 := acts_all ⟨by decide +kernel, by decide +kernel, by decide +kernel, by decide +kernel, by decide +kernel, by decide +kernel, by decide +kernel, by decide +kernel, by decide +kernel, by decide +kernel, by decide +kernel⟩
theorem act_ok' {a : Str} (h : a ∈ acts) : PyData.strOk a = true := by
  unfold PyData.strOk
  rw [Array.all_eq_true']
  intro c hc
  have := ((act_gd a h).1 c (Array.mem_toList_iff.mpr hc)).2
  exact decide_eq_true (by omega)
def strsD (zs : List Str) : List PyData := zs.map .str
theorem strs_len (zs : List Str) : (strsD zs).length = zs.length := List.length_map _
theorem lc_T {tgt : Tgt} {e : DQ} {ρ : Rho} {f : PyData → PyData} : ∀ {ds : List PyData}, (∀ d ∈ ds, ∃ l, tgt d = some l ∧ e (setR ρ l) = .ok (f d)) → lcL tgt dYes e ρ ds = .ok (ds.map f)
  | [], _ => rfl
  | d :: ds, h => by
    obtain ⟨l, h1, h2⟩ := h d List.mem_cons_self
    have ih := lc_T (ds := ds) fun e m => h e (List.mem_cons_of_mem _ m)
    unfold lcL
    simp only [h1, dYes, Res.bind, if_true, h2, ih, List.map_cons]
theorem cutP1 (l : List PyData) : cutP l (some 1) none = l.drop 1 := by
  show (l.drop (HT.sIx l.length 0 (some ((1 : Nat) : Int)))).take (HT.sIx l.length l.length none - HT.sIx l.length 0 (some ((1 : Nat) : Int))) = _
  rw [HT.sIx_nat, HT.sIx_none]
  cases l with
  | nil => rfl
  | cons c r =>
    have e : min 1 (c :: r).length = 1 := by simp
    rw [e]
    simp
theorem lt_strs {x y : Str} (hx : PyData.strOk x = true) (hy : PyData.strOk y = true) : oLt (.str x) (.str y) = some (.bool (PySem.W.dataLt (.str x) (.str y))) := by
  have h : cmpable (.str x) (.str y) = true := by
    unfold cmpable
    rw [sh_str hx, sh_str hy]
    rfl
  unfold oLt oCmp
  simp only [h, if_true]
theorem zip_up : ∀ {al : List Str}, al.Pairwise (fun x y => PySem.W.dataLt (.str x) (.str y) = true) → ∀ p ∈ al.zip (al.drop 1), PySem.W.dataLt (.str p.1) (.str p.2) = true
  | [], _, p, hp => by simp at hp
  | [a], _, p, hp => by simp at hp
  | a :: b :: r, h, p, hp => by
    have h1 := List.pairwise_cons.mp h
    have e : (a :: b :: r).zip ((a :: b :: r).drop 1) = (a, b) :: (b :: r).zip ((b :: r).drop 1) := rfl
    rw [e] at hp
    rcases List.mem_cons.mp hp with q | q
    · rw [q]; exact h1.1 b List.mem_cons_self
    · exact zip_up h1.2 p q
theorem e_is_alphabet {al : List Str} (A : Al al) : M_is_alphabet [.tuple (strsD al)] = .ok (.bool true) := by
  have hl : (strsD al).length = al.length := strs_len al
  have hI : kitB (tyName (.tuple (strsD al))) "tuple" = some true := by rfl
  have h5 := A.five
  have h1 := A.one
  have a1 : (1 : Int) ≤ al.length := by omega
  have a5 : (al.length : Int) ≤ 5 := by omega
  have hz : (strsD al).length ≤ 100000 := by omega
  have L1 : ∀ t, lcL (gtN 1) dYes (dCall M_is_action (dCons (dVar 1) dNil)) [t, .un, .un, .un] (strsD al) = .ok ((strsD al).map fun _ => .bool true) := fun t => lc_map fun d hd => by
    obtain ⟨a, ha, rfl⟩ := List.mem_map.mp hd
    exact act_ok a (A.mem a ha)
  have S1 : oSl (.tuple (strsD al)) (some 1) none = some (.tuple (strsD (al.drop 1))) := by
    show some (PyData.tuple (cutP (strsD al) (some 1) none)) = _
    rw [cutP1]
    unfold strsD
    rw [List.map_drop]
  have Z1 : zipP [.tuple (strsD al), .tuple (strsD (al.drop 1))] = some ((al.zip (al.drop 1)).map fun p => PyData.tuple [.str p.1, .str p.2]) := by
    show some (((strsD al).zip (strsD (al.drop 1))).map fun p => PyData.tuple [p.1, p.2]) = _
    unfold strsD
    rw [List.zip_map, List.map_map]
    rfl
  have zl : ((al.zip (al.drop 1)).map fun p => PyData.tuple [.str p.1, .str p.2]).length ≤ 100000 := by
    rw [List.length_map, List.length_zip]
    omega
  have L2' : ∀ t, lcL (gtSeq 2 (gtCons (gtN 2) (gtCons (gtN 3) gtNil))) dYes (dOp oLt (dVar 2) (dVar 3)) [t, .un, .un, .un] ((al.zip (al.drop 1)).map fun p => PyData.tuple [.str p.1, .str p.2]) = .ok (((al.zip (al.drop 1)).map fun p => PyData.tuple [.str p.1, .str p.2]).map fun _ => .bool true) := fun t => lc_T fun d hd => by
    obtain ⟨p, hp, rfl⟩ := List.mem_map.mp hd
    refine ⟨[(2, .str p.1), (3, .str p.2)], rfl, ?_⟩
    obtain ⟨m1, m2⟩ := List.of_mem_zip hp
    have q := lt_strs (act_ok' (A.mem _ m1)) (act_ok' (A.mem _ (List.mem_of_mem_drop m2)))
    rw [zip_up A.up p hp] at q
    simp only [mir, mirL, mirN, startR, startL, mSeq, mNil, mFrz, mSet, mAsg, mPar, mNew, mNew2, mDrop, mRet, mRetN, mIf, mRaise, mFor, mWhile, mSetIx, xbind, liR, liO, lS, lST, lSs, Out.thn, outR, own0, dVar, dOwn, dC, dOp, dChain, dB, asB, dAnd, dOr, dNot, dAndV, dOrV, dNotV, dIf, dNeg, dNil, dCons, dTup, dLst, dCall, dBi, dSl, dNo, dSo, dM1, dIsi, dItems, dRng, dZip, dLc, dYes, dFmt, wipeR, setR, gtN, gtSeq, gtCons, gtNil, sNil, sCons, sOp, sB, sNotT, sTup, sLst, sBi, sCall, sSl, sOwn, sCallL, sRng, sItems, sLc, sYes, sTry, nLst, nList, nCall, Res.bind, ofO, frz, List.map_cons, List.map_nil, List.length_cons, List.length_nil, List.replicate, List.cons_append, List.nil_append, List.getElem?_cons_zero, List.getElem?_cons_succ, List.set_cons_zero, List.set_cons_succ, List.foldl_cons, List.foldl_nil, Nat.reduceAdd, Nat.reduceSub, Nat.reduceLeDiff, Nat.zero_le, Nat.zero_add, Option.bind_some, Option.map_some, Option.bind_none, Option.map_none, if_true, if_false, reduceIte, Bool.not_true, Bool.not_false, Bool.false_eq_true, q]
  have T1 : ∀ ds : List PyData, bAll [.list (ds.map fun _ => .bool true)] = some (.bool true) := fun ds => by
    rw [p_all (fun _ => true)]
    simp
  unfold M_is_alphabet m_is_alphabet
  simp only [mir, mirL, mirN, startR, startL, mSeq, mNil, mFrz, mSet, mAsg, mPar, mNew, mNew2, mDrop, mRet, mRetN, mIf, mRaise, mFor, mWhile, mSetIx, xbind, liR, liO, lS, lST, lSs, Out.thn, outR, own0, dVar, dOwn, dC, dOp, dChain, dB, asB, dAnd, dOr, dNot, dAndV, dOrV, dNotV, dIf, dNeg, dNil, dCons, dTup, dLst, dCall, dBi, dSl, dNo, dSo, dM1, dIsi, dItems, dRng, dZip, dLc, dYes, dFmt, wipeR, setR, gtN, gtSeq, gtCons, gtNil, sNil, sCons, sOp, sB, sNotT, sTup, sLst, sBi, sCall, sSl, sOwn, sCallL, sRng, sItems, sLc, sYes, sTry, nLst, nList, nCall, Res.bind, ofO, frz, List.map_cons, List.map_nil, List.length_cons, List.length_nil, List.replicate, List.cons_append, List.nil_append, List.getElem?_cons_zero, List.getElem?_cons_succ, List.set_cons_zero, List.set_cons_succ, List.foldl_cons, List.foldl_nil, Nat.reduceAdd, Nat.reduceSub, Nat.reduceLeDiff, Nat.zero_le, Nat.zero_add, Option.bind_some, Option.map_some, Option.bind_none, Option.map_none, if_true, if_false, reduceIte, Bool.not_true, Bool.not_false, Bool.false_eq_true, hI, p_lent, hl, p_le, decide_eq_true a1, decide_eq_true a5, i_tup, if_pos (show al.length ≤ 100000 by omega), L1, T1, S1, Z1, if_pos zl, L2']
theorem e_require_alphabet {al : List Str} (A : Al al) : M_require_alphabet [.tuple (strsD al)] = .ok .none := by
  unfold M_require_alphabet m_require_alphabet
  simp only [mir, mirL, mirN, startR, startL, mSeq, mNil, mFrz, mSet, mAsg, mPar, mNew, mNew2, mDrop, mRet, mRetN, mIf, mRaise, mFor, mWhile, mSetIx, xbind, liR, liO, lS, lST, lSs, Out.thn, outR, own0, dVar, dOwn, dC, dOp, dChain, dB, asB, dAnd, dOr, dNot, dAndV, dOrV, dNotV, dIf, dNeg, dNil, dCons, dTup, dLst, dCall, dBi, dSl, dNo, dSo, dM1, dIsi, dItems, dRng, dZip, dLc, dYes, dFmt, wipeR, setR, gtN, gtSeq, gtCons, gtNil, sNil, sCons, sOp, sB, sNotT, sTup, sLst, sBi, sCall, sSl, sOwn, sCallL, sRng, sItems, sLc, sYes, sTry, nLst, nList, nCall, Res.bind, ofO, frz, List.map_cons, List.map_nil, List.length_cons, List.length_nil, List.replicate, List.cons_append, List.nil_append, List.getElem?_cons_zero, List.getElem?_cons_succ, List.set_cons_zero, List.set_cons_succ, List.foldl_cons, List.foldl_nil, Nat.reduceAdd, Nat.reduceSub, Nat.reduceLeDiff, Nat.zero_le, Nat.zero_add, Option.bind_some, Option.map_some, Option.bind_none, Option.map_none, if_true, if_false, reduceIte, Bool.not_true, Bool.not_false, Bool.false_eq_true, e_is_alphabet A]
/-! ### words -/
theorem flat_strs (zs : List Str) : (strsD zs).all flatP = true := by
  unfold strsD
  rw [List.all_map]
  simp [flatP]
theorem in_strs (z : Str) (al : List Str) : oIn (.str z) (.tuple (strsD al)) = some (.bool (decide (z ∈ al))) := by
  show (if flatP (.str z) = true ∧ (strsD al).all flatP = true then some ((strsD al).any fun e => PyData.eqv e (.str z)) else none).map PyData.bool = _
  rw [if_pos ⟨rfl, flat_strs al⟩]
  have e : ((strsD al).any fun e => PyData.eqv e (.str z)) = decide (z ∈ al) := by
    unfold strsD
    rw [List.any_map, Bool.eq_iff_iff, List.any_eq_true, decide_eq_true_iff]
    constructor
    · rintro ⟨x, hx, h⟩
      have : x = z := by simpa [PyData.eqv] using h
      rw [← this]
      exact hx
    · intro h
      exact ⟨z, h, by simp [PyData.eqv]⟩
  rw [e]
  rfl
theorem notin_strs (z : Str) (al : List Str) : oNotIn (.str z) (.tuple (strsD al)) = some (.bool (!decide (z ∈ al))) := by
  have h := in_strs z al
  unfold oIn at h
  unfold oNotIn
  cases q : inP (.str z) (.tuple (strsD al)) with
  | none => rw [q] at h; cases h
  | some b =>
    rw [q] at h
    simp only [Option.map_some, Option.some.injEq, PyData.bool.injEq] at h ⊢
    rw [h]
def wOk (al zs : List Str) : Bool := zs.all fun z => decide (z ∈ al)
theorem e_is_word_of {al zs : List Str} (hl : zs.length ≤ 20001) : M_is_word_of [.tuple (strsD al), .tuple (strsD zs)] = .ok (.bool (wOk al zs)) := by
  have hI : kitB (tyName (.tuple (strsD zs))) "tuple" = some true := by rfl
  have hz : (strsD zs).length ≤ 100000 := by rw [strs_len]; omega
  have L1 : ∀ t, lcL (gtN 2) dYes (dAndV (dIsi "str" (dVar 2)) (dOp oIn (dVar 2) (dVar 0))) [.dat (.tuple (strsD al)), t, .un] (strsD zs) = .ok ((strsD zs).map fun d => .bool (match d with
    | .str z => decide (z ∈ al)
    | _ => false)) := fun t => lc_map fun d hd => by
    obtain ⟨z, hz, rfl⟩ := List.mem_map.mp hd
    have hK : kitB (tyName (.str z)) "str" = some true := by rfl
    simp only [mir, mirL, mirN, startR, startL, mSeq, mNil, mFrz, mSet, mAsg, mPar, mNew, mNew2, mDrop, mRet, mRetN, mIf, mRaise, mFor, mWhile, mSetIx, xbind, liR, liO, lS, lST, lSs, Out.thn, outR, own0, dVar, dOwn, dC, dOp, dChain, dB, asB, dAnd, dOr, dNot, dAndV, dOrV, dNotV, dIf, dNeg, dNil, dCons, dTup, dLst, dCall, dBi, dSl, dNo, dSo, dM1, dIsi, dItems, dRng, dZip, dLc, dYes, dFmt, wipeR, setR, gtN, gtSeq, gtCons, gtNil, sNil, sCons, sOp, sB, sNotT, sTup, sLst, sBi, sCall, sSl, sOwn, sCallL, sRng, sItems, sLc, sYes, sTry, nLst, nList, nCall, Res.bind, ofO, frz, List.map_cons, List.map_nil, List.length_cons, List.length_nil, List.replicate, List.cons_append, List.nil_append, List.getElem?_cons_zero, List.getElem?_cons_succ, List.set_cons_zero, List.set_cons_succ, List.foldl_cons, List.foldl_nil, Nat.reduceAdd, Nat.reduceSub, Nat.reduceLeDiff, Nat.zero_le, Nat.zero_add, Option.bind_some, Option.map_some, Option.bind_none, Option.map_none, if_true, if_false, reduceIte, Bool.not_true, Bool.not_false, Bool.false_eq_true, hK, in_strs]
  have W : ((strsD zs).all fun d => match d with
    | .str z => decide (z ∈ al)
    | _ => false) = wOk al zs := by
    unfold strsD
    rw [List.all_map]
    rfl
  unfold M_is_word_of m_is_word_of
  simp only [mir, mirL, mirN, startR, startL, mSeq, mNil, mFrz, mSet, mAsg, mPar, mNew, mNew2, mDrop, mRet, mRetN, mIf, mRaise, mFor, mWhile, mSetIx, xbind, liR, liO, lS, lST, lSs, Out.thn, outR, own0, dVar, dOwn, dC, dOp, dChain, dB, asB, dAnd, dOr, dNot, dAndV, dOrV, dNotV, dIf, dNeg, dNil, dCons, dTup, dLst, dCall, dBi, dSl, dNo, dSo, dM1, dIsi, dItems, dRng, dZip, dLc, dYes, dFmt, wipeR, setR, gtN, gtSeq, gtCons, gtNil, sNil, sCons, sOp, sB, sNotT, sTup, sLst, sBi, sCall, sSl, sOwn, sCallL, sRng, sItems, sLc, sYes, sTry, nLst, nList, nCall, Res.bind, ofO, frz, List.map_cons, List.map_nil, List.length_cons, List.length_nil, List.replicate, List.cons_append, List.nil_append, List.getElem?_cons_zero, List.getElem?_cons_succ, List.set_cons_zero, List.set_cons_succ, List.foldl_cons, List.foldl_nil, Nat.reduceAdd, Nat.reduceSub, Nat.reduceLeDiff, Nat.zero_le, Nat.zero_add, Option.bind_some, Option.map_some, Option.bind_none, Option.map_none, if_true, if_false, reduceIte, Bool.not_true, Bool.not_false, Bool.false_eq_true, hI, i_tup, if_pos hz, L1, p_all, W]
def wordsOf (z : Str) : List Str := if (z == ("-" : Str)) = true then [] else Txt.split z " "
theorem words_parts {z : Str} (g : Gd z) : (wordsOf z).length ≤ 20001 ∧ ∀ p ∈ wordsOf z, Gd p := by
  unfold wordsOf
  split
  · exact ⟨Nat.zero_le _, fun p hp => (List.not_mem_nil hp).elim⟩
  · have ps := parts_of g (y := " ") (by decide +kernel) (by decide +kernel)
    exact ⟨ps.len, ps.gd⟩
theorem e_word_in {al : List Str} {z : Str} (g : Gd z) : M_word_in [.tuple (strsD al), .str z] = if wOk al (wordsOf z) && decide ((wordsOf z).length ≤ 200) then .ok (.tuple (strsD (wordsOf z))) else .err "ParseError" := by
  have hs := p_split g (y := " ") (by decide +kernel)
  have hE : oEq (.str z) (.str "-") = some (.bool (z == ("-" : Str))) := p_eqS g.ok (by decide +kernel)
  have body : ∀ ρ, ρ = [Itm.dat (.tuple (strsD al)), .dat (.str z), .dat (.tuple (strsD (wordsOf z)))] → outR ((mSeq (mIf (liR (dOr (dNot (dB (dCall M_is_word_of (dCons (dVar 0) (dCons (dVar 2) dNil))))) (dB (dOp oGt (dBi bLen (dCons (dVar 2) dNil)) (dC (.int 200))))))
    (mSeq (mRaise "ParseError") mNil) mNil) (mSeq (mRet (liR (dVar 2))) mNil)) ρ) = if wOk al (wordsOf z) && decide ((wordsOf z).length ≤ 200) then .ok (.tuple (strsD (wordsOf z))) else .err "ParseError" := by
    intro ρ e
    subst e
    simp only [mir, mirL, mirN, startR, startL, mSeq, mNil, mFrz, mSet, mAsg, mPar, mNew, mNew2, mDrop, mRet, mRetN, mIf, mRaise, mFor, mWhile, mSetIx, xbind, liR, liO, lS, lST, lSs, Out.thn, outR, own0, dVar, dOwn, dC, dOp, dChain, dB, asB, dAnd, dOr, dNot, dAndV, dOrV, dNotV, dIf, dNeg, dNil, dCons, dTup, dLst, dCall, dBi, dSl, dNo, dSo, dM1, dIsi, dItems, dRng, dZip, dLc, dYes, dFmt, wipeR, setR, gtN, gtSeq, gtCons, gtNil, sNil, sCons, sOp, sB, sNotT, sTup, sLst, sBi, sCall, sSl, sOwn, sCallL, sRng, sItems, sLc, sYes, sTry, nLst, nList, nCall, Res.bind, ofO, frz, List.map_cons, List.map_nil, List.length_cons, List.length_nil, List.replicate, List.cons_append, List.nil_append, List.getElem?_cons_zero, List.getElem?_cons_succ, List.set_cons_zero, List.set_cons_succ, List.foldl_cons, List.foldl_nil, Nat.reduceAdd, Nat.reduceSub, Nat.reduceLeDiff, Nat.zero_le, Nat.zero_add, Option.bind_some, Option.map_some, Option.bind_none, Option.map_none, if_true, if_false, reduceIte, Bool.not_true, Bool.not_false, Bool.false_eq_true, e_is_word_of (words_parts g).1, p_lent, strs_len, p_gt]
    cases h1 : wOk al (wordsOf z) with
    | false => simp
    | true =>
      by_cases h2 : (wordsOf z).length ≤ 200
      · have h2' : ¬ (200 : Int) < (wordsOf z).length := by omega
        simp [h2, h2']
      · have h2' : (200 : Int) < (wordsOf z).length := by omega
        simp [h2, h2']
  unfold M_word_in m_word_in
  rw [← body _ rfl]
  unfold wordsOf
  cases h : (z == ("-" : Str)) with
  | true => simp only [mir, mirL, mirN, startR, startL, mSeq, mNil, mFrz, mSet, mAsg, mPar, mNew, mNew2, mDrop, mRet, mRetN, mIf, mRaise, mFor, mWhile, mSetIx, xbind, liR, liO, lS, lST, lSs, Out.thn, outR, own0, dVar, dOwn, dC, dOp, dChain, dB, asB, dAnd, dOr, dNot, dAndV, dOrV, dNotV, dIf, dNeg, dNil, dCons, dTup, dLst, dCall, dBi, dSl, dNo, dSo, dM1, dIsi, dItems, dRng, dZip, dLc, dYes, dFmt, wipeR, setR, gtN, gtSeq, gtCons, gtNil, sNil, sCons, sOp, sB, sNotT, sTup, sLst, sBi, sCall, sSl, sOwn, sCallL, sRng, sItems, sLc, sYes, sTry, nLst, nList, nCall, Res.bind, ofO, frz, List.map_cons, List.map_nil, List.length_cons, List.length_nil, List.replicate, List.cons_append, List.nil_append, List.getElem?_cons_zero, List.getElem?_cons_succ, List.set_cons_zero, List.set_cons_succ, List.foldl_cons, List.foldl_nil, Nat.reduceAdd, Nat.reduceSub, Nat.reduceLeDiff, Nat.zero_le, Nat.zero_add, Option.bind_some, Option.map_some, Option.bind_none, Option.map_none, if_true, if_false, reduceIte, Bool.not_true, Bool.not_false, Bool.false_eq_true, hE, h]; simp [strsD]
  | false => simp only [mir, mirL, mirN, startR, startL, mSeq, mNil, mFrz, mSet, mAsg, mPar, mNew, mNew2, mDrop, mRet, mRetN, mIf, mRaise, mFor, mWhile, mSetIx, xbind, liR, liO, lS, lST, lSs, Out.thn, outR, own0, dVar, dOwn, dC, dOp, dChain, dB, asB, dAnd, dOr, dNot, dAndV, dOrV, dNotV, dIf, dNeg, dNil, dCons, dTup, dLst, dCall, dBi, dSl, dNo, dSo, dM1, dIsi, dItems, dRng, dZip, dLc, dYes, dFmt, wipeR, setR, gtN, gtSeq, gtCons, gtNil, sNil, sCons, sOp, sB, sNotT, sTup, sLst, sBi, sCall, sSl, sOwn, sCallL, sRng, sItems, sLc, sYes, sTry, nLst, nList, nCall, Res.bind, ofO, frz, List.map_cons, List.map_nil, List.length_cons, List.length_nil, List.replicate, List.cons_append, List.nil_append, List.getElem?_cons_zero, List.getElem?_cons_succ, List.set_cons_zero, List.set_cons_succ, List.foldl_cons, List.foldl_nil, Nat.reduceAdd, Nat.reduceSub, Nat.reduceLeDiff, Nat.zero_le, Nat.zero_add, Option.bind_some, Option.map_some, Option.bind_none, Option.map_none, if_true, if_false, reduceIte, Bool.not_true, Bool.not_false, Bool.false_eq_true, hE, h, hs, tup_of]; rfl
theorem e_parse_word {al : List Str} (A : Al al) {z : Str} (g : Gd z) : M_parse_word [.tuple (strsD al), .str z] = if wOk al (wordsOf z) && decide ((wordsOf z).length ≤ 200) then .ok (.tuple (strsD (wordsOf z))) else .err "ParseError" := by
  unfold M_parse_word m_parse_word
  simp only [mir, mirL, mirN, startR, startL, mSeq, mNil, mFrz, mSet, mAsg, mPar, mNew, mNew2, mDrop, mRet, mRetN, mIf, mRaise, mFor, mWhile, mSetIx, xbind, liR, liO, lS, lST, lSs, Out.thn, outR, own0, dVar, dOwn, dC, dOp, dChain, dB, asB, dAnd, dOr, dNot, dAndV, dOrV, dNotV, dIf, dNeg, dNil, dCons, dTup, dLst, dCall, dBi, dSl, dNo, dSo, dM1, dIsi, dItems, dRng, dZip, dLc, dYes, dFmt, wipeR, setR, gtN, gtSeq, gtCons, gtNil, sNil, sCons, sOp, sB, sNotT, sTup, sLst, sBi, sCall, sSl, sOwn, sCallL, sRng, sItems, sLc, sYes, sTry, nLst, nList, nCall, Res.bind, ofO, frz, List.map_cons, List.map_nil, List.length_cons, List.length_nil, List.replicate, List.cons_append, List.nil_append, List.getElem?_cons_zero, List.getElem?_cons_succ, List.set_cons_zero, List.set_cons_succ, List.foldl_cons, List.foldl_nil, Nat.reduceAdd, Nat.reduceSub, Nat.reduceLeDiff, Nat.zero_le, Nat.zero_add, Option.bind_some, Option.map_some, Option.bind_none, Option.map_none, if_true, if_false, reduceIte, Bool.not_true, Bool.not_false, Bool.false_eq_true, e_require_alphabet A, e_require_text, e_word_in g]
  cases h : (wOk al (wordsOf z) && decide ((wordsOf z).length ≤ 200)) <;> simp
theorem e_law_is_word {al zs : List Str} (hl : zs.length ≤ 20001) : M__law_is_word [.tuple (strsD al), .tuple (strsD zs)] = .ok (.bool (wOk al zs)) := by
  have hI : kitB (tyName (.tuple (strsD zs))) "tuple" = some true := by rfl
  have hz : (strsD zs).length ≤ 100000 := by rw [strs_len]; omega
  have L1 : ∀ t, lcL (gtN 2) (dOr (dNot (dB (dIsi "str" (dVar 2)))) (dB (dOp oNotIn (dVar 2) (dVar 0)))) (dC (.int 1)) [.dat (.tuple (strsD al)), t, .un] (strsD zs) = .ok (((strsD zs).filter fun d => match d with
    | .str z => !decide (z ∈ al)
    | _ => false).map fun _ => .int 1) := fun t => lc_fil (fun d hd => by
    obtain ⟨z, hz, rfl⟩ := List.mem_map.mp hd
    have hK : kitB (tyName (.str z)) "str" = some true := by rfl
    simp only [mir, mirL, mirN, startR, startL, mSeq, mNil, mFrz, mSet, mAsg, mPar, mNew, mNew2, mDrop, mRet, mRetN, mIf, mRaise, mFor, mWhile, mSetIx, xbind, liR, liO, lS, lST, lSs, Out.thn, outR, own0, dVar, dOwn, dC, dOp, dChain, dB, asB, dAnd, dOr, dNot, dAndV, dOrV, dNotV, dIf, dNeg, dNil, dCons, dTup, dLst, dCall, dBi, dSl, dNo, dSo, dM1, dIsi, dItems, dRng, dZip, dLc, dYes, dFmt, wipeR, setR, gtN, gtSeq, gtCons, gtNil, sNil, sCons, sOp, sB, sNotT, sTup, sLst, sBi, sCall, sSl, sOwn, sCallL, sRng, sItems, sLc, sYes, sTry, nLst, nList, nCall, Res.bind, ofO, frz, List.map_cons, List.map_nil, List.length_cons, List.length_nil, List.replicate, List.cons_append, List.nil_append, List.getElem?_cons_zero, List.getElem?_cons_succ, List.set_cons_zero, List.set_cons_succ, List.foldl_cons, List.foldl_nil, Nat.reduceAdd, Nat.reduceSub, Nat.reduceLeDiff, Nat.zero_le, Nat.zero_add, Option.bind_some, Option.map_some, Option.bind_none, Option.map_none, if_true, if_false, reduceIte, Bool.not_true, Bool.not_false, Bool.false_eq_true, hK, notin_strs]) fun d hd => rfl
  have W : (((strsD zs).filter fun d => match d with
    | .str z => !decide (z ∈ al)
    | _ => false).map fun _ => PyData.int 1).isEmpty = wOk al zs := by
    unfold strsD wOk
    rw [Bool.eq_iff_iff, List.isEmpty_iff, List.map_eq_nil_iff, List.filter_eq_nil_iff, List.all_eq_true]
    constructor
    · intro h z hz
      have := h _ (List.mem_map.mpr ⟨z, hz, rfl⟩)
      simpa using this
    · intro h d hd
      obtain ⟨z, hz, rfl⟩ := List.mem_map.mp hd
      simpa using h z hz
  have E : oEq (.list (((strsD zs).filter fun d => match d with
    | .str z => !decide (z ∈ al)
    | _ => false).map fun _ => .int 1)) (.list []) = some (.bool (wOk al zs)) := by
    rw [p_eq (sh_list (k := 0) (by decide) fun d hd => ?_) sh_nil, eqv_nil, W]
    obtain ⟨x, hx, rfl⟩ := List.mem_map.mp hd
    exact ⟨rfl, Nat.le_refl _⟩
  unfold M__law_is_word m__law_is_word
  simp only [mir, mirL, mirN, startR, startL, mSeq, mNil, mFrz, mSet, mAsg, mPar, mNew, mNew2, mDrop, mRet, mRetN, mIf, mRaise, mFor, mWhile, mSetIx, xbind, liR, liO, lS, lST, lSs, Out.thn, outR, own0, dVar, dOwn, dC, dOp, dChain, dB, asB, dAnd, dOr, dNot, dAndV, dOrV, dNotV, dIf, dNeg, dNil, dCons, dTup, dLst, dCall, dBi, dSl, dNo, dSo, dM1, dIsi, dItems, dRng, dZip, dLc, dYes, dFmt, wipeR, setR, gtN, gtSeq, gtCons, gtNil, sNil, sCons, sOp, sB, sNotT, sTup, sLst, sBi, sCall, sSl, sOwn, sCallL, sRng, sItems, sLc, sYes, sTry, nLst, nList, nCall, Res.bind, ofO, frz, List.map_cons, List.map_nil, List.length_cons, List.length_nil, List.replicate, List.cons_append, List.nil_append, List.getElem?_cons_zero, List.getElem?_cons_succ, List.set_cons_zero, List.set_cons_succ, List.foldl_cons, List.foldl_nil, Nat.reduceAdd, Nat.reduceSub, Nat.reduceLeDiff, Nat.zero_le, Nat.zero_add, Option.bind_some, Option.map_some, Option.bind_none, Option.map_none, if_true, if_false, reduceIte, Bool.not_true, Bool.not_false, Bool.false_eq_true, hI, i_tup, if_pos hz, L1, E]
theorem e_word_due {al : List Str} {z : Str} (g : Gd z) : M__law_word_due [.tuple (strsD al), .str z] = .ok (if wOk al (wordsOf z) && decide ((wordsOf z).length ≤ 200) then .list [.tuple (strsD (wordsOf z))] else .none) := by
  have hs := p_split g (y := " ") (by decide +kernel)
  have hE : oEq (.str z) (.str "-") = some (.bool (z == ("-" : Str))) := p_eqS g.ok (by decide +kernel)
  have body : ∀ ρ, ρ = [Itm.dat (.tuple (strsD al)), .dat (.str z), .dat (.tuple (strsD (wordsOf z)))] → outR ((mSeq (mRet (liR (dIf (dAnd (dB (dOp oLt (dBi bLen (dCons (dVar 2) dNil)) (dC (.int 201)))) (dB (dCall M__law_is_word (dCons (dVar 0) (dCons (dVar 2) dNil))))) (dLst (dCons (dVar 2) dNil)) (dC .none)))) mNil) ρ) = .ok (if wOk al (wordsOf z) && decide ((wordsOf z).length ≤ 200) then .list [.tuple (strsD (wordsOf z))] else .none) := by
    intro ρ e
    subst e
    simp only [mir, mirL, mirN, startR, startL, mSeq, mNil, mFrz, mSet, mAsg, mPar, mNew, mNew2, mDrop, mRet, mRetN, mIf, mRaise, mFor, mWhile, mSetIx, xbind, liR, liO, lS, lST, lSs, Out.thn, outR, own0, dVar, dOwn, dC, dOp, dChain, dB, asB, dAnd, dOr, dNot, dAndV, dOrV, dNotV, dIf, dNeg, dNil, dCons, dTup, dLst, dCall, dBi, dSl, dNo, dSo, dM1, dIsi, dItems, dRng, dZip, dLc, dYes, dFmt, wipeR, setR, gtN, gtSeq, gtCons, gtNil, sNil, sCons, sOp, sB, sNotT, sTup, sLst, sBi, sCall, sSl, sOwn, sCallL, sRng, sItems, sLc, sYes, sTry, nLst, nList, nCall, Res.bind, ofO, frz, List.map_cons, List.map_nil, List.length_cons, List.length_nil, List.replicate, List.cons_append, List.nil_append, List.getElem?_cons_zero, List.getElem?_cons_succ, List.set_cons_zero, List.set_cons_succ, List.foldl_cons, List.foldl_nil, Nat.reduceAdd, Nat.reduceSub, Nat.reduceLeDiff, Nat.zero_le, Nat.zero_add, Option.bind_some, Option.map_some, Option.bind_none, Option.map_none, if_true, if_false, reduceIte, Bool.not_true, Bool.not_false, Bool.false_eq_true, e_law_is_word (words_parts g).1, p_lent, strs_len, p_lt]
    cases h1 : wOk al (wordsOf z) with
    | false =>
      by_cases h2' : ((wordsOf z).length : Int) < 201 <;> simp [h2']
    | true =>
      by_cases h2 : (wordsOf z).length ≤ 200
      · have h2' : ((wordsOf z).length : Int) < 201 := by omega
        simp [h2, h2']
      · have h2' : ¬ ((wordsOf z).length : Int) < 201 := by omega
        simp [h2, h2']
  unfold M__law_word_due m__law_word_due
  rw [← body _ rfl]
  unfold wordsOf
  cases h : (z == ("-" : Str)) with
  | true => simp only [mir, mirL, mirN, startR, startL, mSeq, mNil, mFrz, mSet, mAsg, mPar, mNew, mNew2, mDrop, mRet, mRetN, mIf, mRaise, mFor, mWhile, mSetIx, xbind, liR, liO, lS, lST, lSs, Out.thn, outR, own0, dVar, dOwn, dC, dOp, dChain, dB, asB, dAnd, dOr, dNot, dAndV, dOrV, dNotV, dIf, dNeg, dNil, dCons, dTup, dLst, dCall, dBi, dSl, dNo, dSo, dM1, dIsi, dItems, dRng, dZip, dLc, dYes, dFmt, wipeR, setR, gtN, gtSeq, gtCons, gtNil, sNil, sCons, sOp, sB, sNotT, sTup, sLst, sBi, sCall, sSl, sOwn, sCallL, sRng, sItems, sLc, sYes, sTry, nLst, nList, nCall, Res.bind, ofO, frz, List.map_cons, List.map_nil, List.length_cons, List.length_nil, List.replicate, List.cons_append, List.nil_append, List.getElem?_cons_zero, List.getElem?_cons_succ, List.set_cons_zero, List.set_cons_succ, List.foldl_cons, List.foldl_nil, Nat.reduceAdd, Nat.reduceSub, Nat.reduceLeDiff, Nat.zero_le, Nat.zero_add, Option.bind_some, Option.map_some, Option.bind_none, Option.map_none, if_true, if_false, reduceIte, Bool.not_true, Bool.not_false, Bool.false_eq_true, hE, h]; simp [strsD]
  | false => simp only [mir, mirL, mirN, startR, startL, mSeq, mNil, mFrz, mSet, mAsg, mPar, mNew, mNew2, mDrop, mRet, mRetN, mIf, mRaise, mFor, mWhile, mSetIx, xbind, liR, liO, lS, lST, lSs, Out.thn, outR, own0, dVar, dOwn, dC, dOp, dChain, dB, asB, dAnd, dOr, dNot, dAndV, dOrV, dNotV, dIf, dNeg, dNil, dCons, dTup, dLst, dCall, dBi, dSl, dNo, dSo, dM1, dIsi, dItems, dRng, dZip, dLc, dYes, dFmt, wipeR, setR, gtN, gtSeq, gtCons, gtNil, sNil, sCons, sOp, sB, sNotT, sTup, sLst, sBi, sCall, sSl, sOwn, sCallL, sRng, sItems, sLc, sYes, sTry, nLst, nList, nCall, Res.bind, ofO, frz, List.map_cons, List.map_nil, List.length_cons, List.length_nil, List.replicate, List.cons_append, List.nil_append, List.getElem?_cons_zero, List.getElem?_cons_succ, List.set_cons_zero, List.set_cons_succ, List.foldl_cons, List.foldl_nil, Nat.reduceAdd, Nat.reduceSub, Nat.reduceLeDiff, Nat.zero_le, Nat.zero_add, Option.bind_some, Option.map_some, Option.bind_none, Option.map_none, if_true, if_false, reduceIte, Bool.not_true, Bool.not_false, Bool.false_eq_true, hE, h, hs, tup_of]; rfl
end K77
end

section
set_option Elab.async false
set_option linter.all false
set_option maxRecDepth 100000
set_option maxHeartbeats 4000000
namespace K77
open D PySem L2 TL NumText
/-! ### the common measure -/
theorem abs_eq (i : Int) : bAbs [.int i] = some (.int (i.natAbs : Nat)) := by
  show some (PyData.int (if i < 0 then -i else i)) = _
  congr 2
  split <;> omega
theorem mod_eq (x y : Nat) (h : 0 < y) : oMod (.int x) (.int y) = some (.int ((x % y : Nat) : Int)) := by
  show (if decide ((0 : Int) < y) = true then some (PyData.int ((x : Int) % (y : Int))) else none) = _
  rw [if_pos (by simpa using h)]
  rfl
theorem gcd_loop : ∀ (n x y : Nat), y + 1 ≤ n → whileL (liR (dB (dOp oGt (dVar 1) (dC (.int 0))))) (mSeq (mPar 0 1 (liR (dCons (dVar 1) (dCons (dOp oMod (dVar 0) (dVar 1)) dNil)))) mNil) n [.dat (.int x), .dat (.int y)] = .nx [.dat (.int (Nat.gcd x y)), .dat (.int 0)]
  | 0, x, y, h => by omega
  | n + 1, x, y, h => by
    unfold whileL
    by_cases hy : 0 < y
    · have ih := gcd_loop n y (x % y) (by have := Nat.mod_lt x hy; omega)
      have hy' : (0 : Int) < y := by omega
      simp only [mir, mirL, mirN, startR, startL, mSeq, mNil, mFrz, mSet, mAsg, mPar, mNew, mNew2, mDrop, mRet, mRetN, mIf, mRaise, mFor, mWhile, mSetIx, xbind, liR, liO, lS, lST, lSs, Out.thn, outR, own0, dVar, dOwn, dC, dOp, dChain, dB, asB, dAnd, dOr, dNot, dAndV, dOrV, dNotV, dIf, dNeg, dNil, dCons, dTup, dLst, dCall, dBi, dSl, dNo, dSo, dM1, dIsi, dItems, dRng, dZip, dLc, dYes, dFmt, wipeR, setR, gtN, gtSeq, gtCons, gtNil, sNil, sCons, sOp, sB, sNotT, sTup, sLst, sBi, sCall, sSl, sOwn, sCallL, sRng, sItems, sLc, sYes, sTry, nLst, nList, nCall, Res.bind, ofO, frz, List.map_cons, List.map_nil, List.length_cons, List.length_nil, List.replicate, List.cons_append, List.nil_append, List.getElem?_cons_zero, List.getElem?_cons_succ, List.set_cons_zero, List.set_cons_succ, List.foldl_cons, List.foldl_nil, Nat.reduceAdd, Nat.reduceSub, Nat.reduceLeDiff, Nat.zero_le, Nat.zero_add, Option.bind_some, Option.map_some, Option.bind_none, Option.map_none, if_true, if_false, reduceIte, Bool.not_true, Bool.not_false, Bool.false_eq_true, p_gt, decide_eq_true hy', mod_eq x y hy, ih]
      rw [show Nat.gcd y (x % y) = Nat.gcd x y by rw [Nat.gcd_comm y, ← Nat.gcd_rec, Nat.gcd_comm]]
    · have e : y = 0 := by omega
      subst e
      simp only [mir, mirL, mirN, startR, startL, mSeq, mNil, mFrz, mSet, mAsg, mPar, mNew, mNew2, mDrop, mRet, mRetN, mIf, mRaise, mFor, mWhile, mSetIx, xbind, liR, liO, lS, lST, lSs, Out.thn, outR, own0, dVar, dOwn, dC, dOp, dChain, dB, asB, dAnd, dOr, dNot, dAndV, dOrV, dNotV, dIf, dNeg, dNil, dCons, dTup, dLst, dCall, dBi, dSl, dNo, dSo, dM1, dIsi, dItems, dRng, dZip, dLc, dYes, dFmt, wipeR, setR, gtN, gtSeq, gtCons, gtNil, sNil, sCons, sOp, sB, sNotT, sTup, sLst, sBi, sCall, sSl, sOwn, sCallL, sRng, sItems, sLc, sYes, sTry, nLst, nList, nCall, Res.bind, ofO, frz, List.map_cons, List.map_nil, List.length_cons, List.length_nil, List.replicate, List.cons_append, List.nil_append, List.getElem?_cons_zero, List.getElem?_cons_succ, List.set_cons_zero, List.set_cons_succ, List.foldl_cons, List.foldl_nil, Nat.reduceAdd, Nat.reduceSub, Nat.reduceLeDiff, Nat.zero_le, Nat.zero_add, Option.bind_some, Option.map_some, Option.bind_none, Option.map_none, if_true, if_false, reduceIte, Bool.not_true, Bool.not_false, Bool.false_eq_true, p_gt]
      simp
theorem e_law_common (x y : Nat) : M__law_common [.int x, .int y] = .ok (.int (Nat.gcd x y)) := by
  have q := gcd_loop (y + 1) x y (Nat.le_refl _)
  have f : fu__law_common [.dat (.int x), .dat (.int y)] = y + 1 := by
    show (y : Int).toNat + 1 = y + 1
    rw [Int.toNat_natCast]
  unfold M__law_common m__law_common
  simp only [mir, mirL, mirN, startR, startL, mSeq, mNil, mFrz, mSet, mAsg, mPar, mNew, mNew2, mDrop, mRet, mRetN, mIf, mRaise, mFor, mWhile, mSetIx, xbind, liR, liO, lS, lST, lSs, Out.thn, outR, own0, dVar, dOwn, dC, dOp, dChain, dB, asB, dAnd, dOr, dNot, dAndV, dOrV, dNotV, dIf, dNeg, dNil, dCons, dTup, dLst, dCall, dBi, dSl, dNo, dSo, dM1, dIsi, dItems, dRng, dZip, dLc, dYes, dFmt, wipeR, setR, gtN, gtSeq, gtCons, gtNil, sNil, sCons, sOp, sB, sNotT, sTup, sLst, sBi, sCall, sSl, sOwn, sCallL, sRng, sItems, sLc, sYes, sTry, nLst, nList, nCall, Res.bind, ofO, frz, List.map_cons, List.map_nil, List.length_cons, List.length_nil, List.replicate, List.cons_append, List.nil_append, List.getElem?_cons_zero, List.getElem?_cons_succ, List.set_cons_zero, List.set_cons_succ, List.foldl_cons, List.foldl_nil, Nat.reduceAdd, Nat.reduceSub, Nat.reduceLeDiff, Nat.zero_le, Nat.zero_add, Option.bind_some, Option.map_some, Option.bind_none, Option.map_none, if_true, if_false, reduceIte, Bool.not_true, Bool.not_false, Bool.false_eq_true, f, q]
theorem e_common_in (i j : Int) : M_common_in [.int i, .int j] = .ok (.int (Nat.gcd i.natAbs j.natAbs)) := by
  have q := gcd_loop (j.natAbs + 1) i.natAbs j.natAbs (Nat.le_refl _)
  have f : fu_common_in [.dat (.int i.natAbs), .dat (.int j.natAbs)] = j.natAbs + 1 := by
    show (j.natAbs : Int).toNat + 1 = j.natAbs + 1
    rw [Int.toNat_natCast]
  unfold M_common_in m_common_in
  simp only [mir, mirL, mirN, startR, startL, mSeq, mNil, mFrz, mSet, mAsg, mPar, mNew, mNew2, mDrop, mRet, mRetN, mIf, mRaise, mFor, mWhile, mSetIx, xbind, liR, liO, lS, lST, lSs, Out.thn, outR, own0, dVar, dOwn, dC, dOp, dChain, dB, asB, dAnd, dOr, dNot, dAndV, dOrV, dNotV, dIf, dNeg, dNil, dCons, dTup, dLst, dCall, dBi, dSl, dNo, dSo, dM1, dIsi, dItems, dRng, dZip, dLc, dYes, dFmt, wipeR, setR, gtN, gtSeq, gtCons, gtNil, sNil, sCons, sOp, sB, sNotT, sTup, sLst, sBi, sCall, sSl, sOwn, sCallL, sRng, sItems, sLc, sYes, sTry, nLst, nList, nCall, Res.bind, ofO, frz, List.map_cons, List.map_nil, List.length_cons, List.length_nil, List.replicate, List.cons_append, List.nil_append, List.getElem?_cons_zero, List.getElem?_cons_succ, List.set_cons_zero, List.set_cons_succ, List.foldl_cons, List.foldl_nil, Nat.reduceAdd, Nat.reduceSub, Nat.reduceLeDiff, Nat.zero_le, Nat.zero_add, Option.bind_some, Option.map_some, Option.bind_none, Option.map_none, if_true, if_false, reduceIte, Bool.not_true, Bool.not_false, Bool.false_eq_true, abs_eq, f, q]
theorem e_is_fraction (t b : Int) : M_is_fraction [.tuple [.int t, .int b]] = .ok (.bool (decide (1 ≤ b ∧ Nat.gcd t.natAbs b.natAbs = 1))) := by
  have hI : kitB (tyName (.tuple [.int t, .int b])) "tuple" = some true := by rfl
  have hl : bLen [.tuple [.int t, .int b]] = some (.int 2) := rfl
  have hn : oNe (.int 2) (.int 2) = some (.bool false) := rfl
  have hL : ∀ u, lcL (gtN 1) dYes (dCall M_is_integer (dCons (dVar 1) dNil)) [u, .un] [.int t, .int b] = .ok [.bool true, .bool true] := fun u => rfl
  have hA : bAll [.list [.bool true, .bool true]] = some (.bool true) := rfl
  have h0 : oIx (.tuple [.int t, .int b]) (.int 0) = some (.int t) := rfl
  have h1 : oIx (.tuple [.int t, .int b]) (.int 1) = some (.int b) := rfl
  unfold M_is_fraction m_is_fraction
  simp only [mir, mirL, mirN, startR, startL, mSeq, mNil, mFrz, mSet, mAsg, mPar, mNew, mNew2, mDrop, mRet, mRetN, mIf, mRaise, mFor, mWhile, mSetIx, xbind, liR, liO, lS, lST, lSs, Out.thn, outR, own0, dVar, dOwn, dC, dOp, dChain, dB, asB, dAnd, dOr, dNot, dAndV, dOrV, dNotV, dIf, dNeg, dNil, dCons, dTup, dLst, dCall, dBi, dSl, dNo, dSo, dM1, dIsi, dItems, dRng, dZip, dLc, dYes, dFmt, wipeR, setR, gtN, gtSeq, gtCons, gtNil, sNil, sCons, sOp, sB, sNotT, sTup, sLst, sBi, sCall, sSl, sOwn, sCallL, sRng, sItems, sLc, sYes, sTry, nLst, nList, nCall, Res.bind, ofO, frz, List.map_cons, List.map_nil, List.length_cons, List.length_nil, List.replicate, List.cons_append, List.nil_append, List.getElem?_cons_zero, List.getElem?_cons_succ, List.set_cons_zero, List.set_cons_succ, List.foldl_cons, List.foldl_nil, Nat.reduceAdd, Nat.reduceSub, Nat.reduceLeDiff, Nat.zero_le, Nat.zero_add, Option.bind_some, Option.map_some, Option.bind_none, Option.map_none, if_true, if_false, reduceIte, Bool.not_true, Bool.not_false, Bool.false_eq_true, hI, hl, hn, i_tup, hL, hA, h0, h1, p_ge, e_common_in, p_eqI]
  by_cases hb : 1 ≤ b
  · by_cases hg : Nat.gcd t.natAbs b.natAbs = 1
    · simp [hb, hg]
    · have : ¬ ((Nat.gcd t.natAbs b.natAbs : Nat) : Int) = 1 := by omega
      simp [hb, hg, this]
  · simp [hb]
/-! ### fractions -/
theorem part_cases (z : Str) : 47 ∉ tl z ∨ ∃ a r, z = a ++ ("/" : Str) ++ r ∧ 47 ∉ tl a := by
  have key : ∀ l : List Nat, 47 ∉ l ∨ ∃ p q, l = p ++ 47 :: q ∧ 47 ∉ p := by
    intro l
    induction l with
    | nil => exact .inl (List.not_mem_nil)
    | cons c r ih =>
      by_cases e : c = 47
      · exact .inr ⟨[], r, by rw [e]; rfl, List.not_mem_nil⟩
      · rcases ih with h | ⟨p, q, h1, h2⟩
        · exact .inl fun m => (List.mem_cons.mp m).elim (fun z => e z.symm) h
        · exact .inr ⟨c :: p, q, by rw [h1]; rfl, fun m => (List.mem_cons.mp m).elim (fun z => e z.symm) h2⟩
  rcases key (tl z) with h | ⟨p, q, h1, h2⟩
  · exact .inl h
  · refine .inr ⟨⟨p.toArray⟩, ⟨q.toArray⟩, ext_tl ?_, h2⟩
    rw [tl_append, tl_append, show tl ("/" : Str) = [47] by decide +kernel, h1]
    simp [tl]
theorem slash : tl ("/" : Str) = [47] := by decide +kernel
theorem kind_slash : ("/" : Str).cps.all (· < 256) = true := by decide +kernel
theorem split_one {z : Str} (h : 47 ∉ tl z) : Txt.split z "/" = [z] := by
  refine map_tl_inj ?_
  rw [split_spl z "/" (by rw [slash]; simp) (kind_ok kind_slash), slash, spl_last1 h]
  rfl
theorem split_more {a r : Str} (h : 47 ∉ tl a) : Txt.split (a ++ ("/" : Str) ++ r) "/" = a :: Txt.split r "/" := by
  refine map_tl_inj ?_
  rw [split_spl _ "/" (by rw [slash]; simp) (kind_ok kind_slash), List.map_cons, split_spl r "/" (by rw [slash]; simp) (kind_ok kind_slash), slash, tl_append, tl_append, slash]
  have e : tl a ++ [47] ++ tl r = tl a ++ ([47] ++ tl r) := List.append_assoc ..
  rw [e, spl_part1 h]
  rfl
theorem num_free {z : Str} (h : 47 ∈ tl z) : numOk z = false := by
  cases q : numOk z with
  | false => rfl
  | true =>
    unfold numOk at q
    simp only [Bool.and_eq_true, List.all_eq_true] at q
    obtain ⟨⟨_, h3⟩, _⟩ := q
    have : 47 ∈ tl (digs z) := by
      unfold digs
      split
      · rename_i hs
        rw [startsm, decide_eq_true_iff] at hs
        rw [tl_cut1]
        cases e : tl z with
        | nil => rw [e] at hs; cases hs
        | cons c r =>
          rw [e] at hs h
          cases hs
          exact (List.mem_cons.mp h).elim (fun z => by cases z) id
      · exact h
    have := isD_iff.mp (h3 47 this)
    omega
/-- what a fraction's text tells -/
def fracV (z : Str) : Option (Int × Int) := match Txt.split z "/" with
  | [a] => if numOk a = true then some (numV a, 1) else none
  | [a, b] => if numOk a = true ∧ numOk b = true ∧ 2 ≤ numV b ∧ Nat.gcd (numV a).natAbs (numV b).natAbs = 1 then some (numV a, numV b) else none
  | _ => none
def fracD (p : Int × Int) : PyData := .tuple [.int p.1, .int p.2]
theorem p_part {z : Str} (g : Gd z) : mPart z (.str "/") = some (.tuple [.str (Txt.partition z "/").1, .str (Txt.partition z "/").2.1, .str (Txt.partition z "/").2.2]) :=
  if_pos ⟨by decide +kernel, Nat.le_trans g.len (Nat.le_trans (by decide) line_big)⟩
theorem Gd.sub {z y : Str} (g : Gd z) (h : ∀ c ∈ tl y, c ∈ tl z) (hl : y.length ≤ z.length) : Gd y := ⟨fun c m => g.asc c (h c m), Nat.le_trans hl g.len⟩
theorem Gd.left {a y r : Str} (g : Gd (a ++ y ++ r)) : Gd a := g.sub (fun c h => by rw [tl_append, tl_append]; simp [h]) (by rw [len_tl, len_tl, tl_append, tl_append, List.length_append, List.length_append]; omega)
theorem Gd.right {a y r : Str} (g : Gd (a ++ y ++ r)) : Gd r := g.sub (fun c h => by rw [tl_append, tl_append]; simp [h]) (by rw [len_tl, len_tl, tl_append, tl_append, List.length_append, List.length_append]; omega)
theorem e_parse_fraction {z : Str} (g : Gd z) : M_parse_fraction [.str z] = match fracV z with
  | some p => .ok (fracD p)
  | none => .err "ParseError" := by
  have gz := g
  have hP := p_part g
  have hne : oNe (.str "/") (.str "") = some (.bool true) := by
    rw [p_neS (by decide +kernel) (by decide +kernel)]
    rfl
  have hne0 : oNe (.str "") (.str "") = some (.bool false) := by
    rw [p_neS (by decide +kernel) (by decide +kernel)]
    rfl
  unfold M_parse_fraction m_parse_fraction
  rcases part_cases z with h | ⟨a, r, rfl, h⟩
  · have hs := split_one h
    rw [partition_none slash h] at hP
    have hE : (Str.empty : Str) = ("" : Str) := by decide +kernel
    rw [hE] at hP
    unfold fracV
    rw [hs]
    simp only [mir, mirL, mirN, startR, startL, mSeq, mNil, mFrz, mSet, mAsg, mPar, mNew, mNew2, mDrop, mRet, mRetN, mIf, mRaise, mFor, mWhile, mSetIx, xbind, liR, liO, lS, lST, lSs, Out.thn, outR, own0, dVar, dOwn, dC, dOp, dChain, dB, asB, dAnd, dOr, dNot, dAndV, dOrV, dNotV, dIf, dNeg, dNil, dCons, dTup, dLst, dCall, dBi, dSl, dNo, dSo, dM1, dIsi, dItems, dRng, dZip, dLc, dYes, dFmt, wipeR, setR, gtN, gtSeq, gtCons, gtNil, sNil, sCons, sOp, sB, sNotT, sTup, sLst, sBi, sCall, sSl, sOwn, sCallL, sRng, sItems, sLc, sYes, sTry, nLst, nList, nCall, Res.bind, ofO, frz, List.map_cons, List.map_nil, List.length_cons, List.length_nil, List.replicate, List.cons_append, List.nil_append, List.getElem?_cons_zero, List.getElem?_cons_succ, List.set_cons_zero, List.set_cons_succ, List.foldl_cons, List.foldl_nil, Nat.reduceAdd, Nat.reduceSub, Nat.reduceLeDiff, Nat.zero_le, Nat.zero_add, Option.bind_some, Option.map_some, Option.bind_none, Option.map_none, if_true, if_false, reduceIte, Bool.not_true, Bool.not_false, Bool.false_eq_true, e_require_text, hP, hne0, e_number_in g]
    cases hz : numOk z with
    | false => simp
    | true =>
      simp only [mir, mirL, mirN, startR, startL, mSeq, mNil, mFrz, mSet, mAsg, mPar, mNew, mNew2, mDrop, mRet, mRetN, mIf, mRaise, mFor, mWhile, mSetIx, xbind, liR, liO, lS, lST, lSs, Out.thn, outR, own0, dVar, dOwn, dC, dOp, dChain, dB, asB, dAnd, dOr, dNot, dAndV, dOrV, dNotV, dIf, dNeg, dNil, dCons, dTup, dLst, dCall, dBi, dSl, dNo, dSo, dM1, dIsi, dItems, dRng, dZip, dLc, dYes, dFmt, wipeR, setR, gtN, gtSeq, gtCons, gtNil, sNil, sCons, sOp, sB, sNotT, sTup, sLst, sBi, sCall, sSl, sOwn, sCallL, sRng, sItems, sLc, sYes, sTry, nLst, nList, nCall, Res.bind, ofO, frz, List.map_cons, List.map_nil, List.length_cons, List.length_nil, List.replicate, List.cons_append, List.nil_append, List.getElem?_cons_zero, List.getElem?_cons_succ, List.set_cons_zero, List.set_cons_succ, List.foldl_cons, List.foldl_nil, Nat.reduceAdd, Nat.reduceSub, Nat.reduceLeDiff, Nat.zero_le, Nat.zero_add, Option.bind_some, Option.map_some, Option.bind_none, Option.map_none, if_true, if_false, reduceIte, Bool.not_true, Bool.not_false, Bool.false_eq_true, e_is_fraction, hne0]
      simp [fracD]
  · have hs := split_more (r := r) h
    rw [partition_app slash h] at hP
    simp only [mir, mirL, mirN, startR, startL, mSeq, mNil, mFrz, mSet, mAsg, mPar, mNew, mNew2, mDrop, mRet, mRetN, mIf, mRaise, mFor, mWhile, mSetIx, xbind, liR, liO, lS, lST, lSs, Out.thn, outR, own0, dVar, dOwn, dC, dOp, dChain, dB, asB, dAnd, dOr, dNot, dAndV, dOrV, dNotV, dIf, dNeg, dNil, dCons, dTup, dLst, dCall, dBi, dSl, dNo, dSo, dM1, dIsi, dItems, dRng, dZip, dLc, dYes, dFmt, wipeR, setR, gtN, gtSeq, gtCons, gtNil, sNil, sCons, sOp, sB, sNotT, sTup, sLst, sBi, sCall, sSl, sOwn, sCallL, sRng, sItems, sLc, sYes, sTry, nLst, nList, nCall, Res.bind, ofO, frz, List.map_cons, List.map_nil, List.length_cons, List.length_nil, List.replicate, List.cons_append, List.nil_append, List.getElem?_cons_zero, List.getElem?_cons_succ, List.set_cons_zero, List.set_cons_succ, List.foldl_cons, List.foldl_nil, Nat.reduceAdd, Nat.reduceSub, Nat.reduceLeDiff, Nat.zero_le, Nat.zero_add, Option.bind_some, Option.map_some, Option.bind_none, Option.map_none, if_true, if_false, reduceIte, Bool.not_true, Bool.not_false, Bool.false_eq_true, e_require_text, hP, hne, e_number_in g.left, e_number_in g.right]
    unfold fracV
    rw [hs]
    cases ha : numOk a with
    | false =>
      rcases part_cases r with h2 | ⟨b, r2, rfl, h2⟩
      · rw [split_one h2]
        simp [ha]
      · rw [split_more h2]
        cases q : Txt.split r2 "/" <;> simp [ha]
    | true =>
      cases hr : numOk r with
      | false =>
        rcases part_cases r with h2 | ⟨b, r2, rfl, h2⟩
        · rw [split_one h2]
          simp [ha, hr]
        · rw [split_more h2]
          have ne : Txt.split r2 "/" ≠ [] := (parts_of (g.right.right) (y := "/") (by rw [slash]; simp) kind_slash).ne
          cases q : Txt.split r2 "/" with
          | nil => exact absurd q ne
          | cons x xs => simp
      | true =>
        have h2 : 47 ∉ tl r := fun m => by rw [num_free m] at hr; cases hr
        rw [split_one h2]
        have hX : ∀ t b : Int, oIx (.tuple [.int t, .int b]) (.int 1) = some (.int b) := fun t b => rfl
        simp only [mir, mirL, mirN, startR, startL, mSeq, mNil, mFrz, mSet, mAsg, mPar, mNew, mNew2, mDrop, mRet, mRetN, mIf, mRaise, mFor, mWhile, mSetIx, xbind, liR, liO, lS, lST, lSs, Out.thn, outR, own0, dVar, dOwn, dC, dOp, dChain, dB, asB, dAnd, dOr, dNot, dAndV, dOrV, dNotV, dIf, dNeg, dNil, dCons, dTup, dLst, dCall, dBi, dSl, dNo, dSo, dM1, dIsi, dItems, dRng, dZip, dLc, dYes, dFmt, wipeR, setR, gtN, gtSeq, gtCons, gtNil, sNil, sCons, sOp, sB, sNotT, sTup, sLst, sBi, sCall, sSl, sOwn, sCallL, sRng, sItems, sLc, sYes, sTry, nLst, nList, nCall, Res.bind, ofO, frz, List.map_cons, List.map_nil, List.length_cons, List.length_nil, List.replicate, List.cons_append, List.nil_append, List.getElem?_cons_zero, List.getElem?_cons_succ, List.set_cons_zero, List.set_cons_succ, List.foldl_cons, List.foldl_nil, Nat.reduceAdd, Nat.reduceSub, Nat.reduceLeDiff, Nat.zero_le, Nat.zero_add, Option.bind_some, Option.map_some, Option.bind_none, Option.map_none, if_true, if_false, reduceIte, Bool.not_true, Bool.not_false, Bool.false_eq_true, e_is_fraction, hne, hX, p_eqI]
        by_cases h1 : 1 ≤ numV r ∧ Nat.gcd (numV a).natAbs (numV r).natAbs = 1
        · by_cases h3 : numV r = 1
          · have h4 : ¬ (2 : Int) ≤ 1 := by omega
            simp [h1, h3, ha, hr]
          · have h4 : 2 ≤ numV r := by omega
            simp [h1, h3, h4, ha, hr, fracD]
        · by_cases h3 : 1 ≤ numV r
          · have h4 : ¬ Nat.gcd (numV a).natAbs (numV r).natAbs = 1 := fun z => h1 ⟨h3, z⟩
            simp [h4, ha, hr]
          · have h4 : ¬ 2 ≤ numV r := by omega
            simp [h3, h4, ha, hr]
theorem e_fraction_due {z : Str} (g : Gd z) : M__law_fraction_due [.str z] = .ok (match fracV z with
  | some p => .list [fracD p]
  | none => .none) := by
  have ps := parts_of g (y := "/") (by rw [slash]; simp) kind_slash
  have hs := p_split g (y := "/") (by decide +kernel)
  unfold fracV
  generalize Txt.split z "/" = zs at ps hs
  have hn : (nums zs).length = zs.length := by
    unfold nums
    rw [List.length_map]
  have hI : oIsN .none .none = some (.bool true) := rfl
  have hI2 : ∀ l, oIsN (.list l) .none = some (.bool false) := fun d => rfl
  unfold M__law_fraction_due m__law_fraction_due
  cases h2 : zs.all numOk with
  | false =>
    have e := e_law_numbers ps.gd ps.len
    rw [h2] at e
    simp only [Bool.false_eq_true, if_false] at e
    simp only [mir, mirL, mirN, startR, startL, mSeq, mNil, mFrz, mSet, mAsg, mPar, mNew, mNew2, mDrop, mRet, mRetN, mIf, mRaise, mFor, mWhile, mSetIx, xbind, liR, liO, lS, lST, lSs, Out.thn, outR, own0, dVar, dOwn, dC, dOp, dChain, dB, asB, dAnd, dOr, dNot, dAndV, dOrV, dNotV, dIf, dNeg, dNil, dCons, dTup, dLst, dCall, dBi, dSl, dNo, dSo, dM1, dIsi, dItems, dRng, dZip, dLc, dYes, dFmt, wipeR, setR, gtN, gtSeq, gtCons, gtNil, sNil, sCons, sOp, sB, sNotT, sTup, sLst, sBi, sCall, sSl, sOwn, sCallL, sRng, sItems, sLc, sYes, sTry, nLst, nList, nCall, Res.bind, ofO, frz, List.map_cons, List.map_nil, List.length_cons, List.length_nil, List.replicate, List.cons_append, List.nil_append, List.getElem?_cons_zero, List.getElem?_cons_succ, List.set_cons_zero, List.set_cons_succ, List.foldl_cons, List.foldl_nil, Nat.reduceAdd, Nat.reduceSub, Nat.reduceLeDiff, Nat.zero_le, Nat.zero_add, Option.bind_some, Option.map_some, Option.bind_none, Option.map_none, if_true, if_false, reduceIte, Bool.not_true, Bool.not_false, Bool.false_eq_true, hs, e, hI]
    match zs, ps.ne, h2 with
    | [a], _, h2 =>
      have ha : numOk a = false := by simpa using h2
      simp [ha]
    | [a, b], _, h2 =>
      have hab : ¬ (numOk a = true ∧ numOk b = true) := fun q => by
        simp [q.1, q.2] at h2
      by_cases ha : numOk a = true
      · have hb : numOk b = false := by
          cases q : numOk b with
          | false => rfl
          | true => exact absurd ⟨ha, q⟩ hab
        simp [hb]
      · simp [ha]
    | a :: b :: c :: r, _, _ => simp
  | true =>
    have e := e_law_numbers ps.gd ps.len
    rw [h2] at e
    simp only [if_true] at e
    match zs, ps.ne, h2, e, hs, hn with
    | [a], _, h2, e, hs, hn =>
      have ha : numOk a = true := by simpa using h2
      have hL : bLen [.list (nums [a])] = some (.int 1) := rfl
      have hg1 : oGt (.int 1) (.int 2) = some (.bool false) := rfl
      have hg2 : oEq (.int 1) (.int 1) = some (.bool true) := rfl
      have hX : oIx (.list (nums [a])) (.int 0) = some (.int (numV a)) := rfl
      simp only [List.map_cons, List.map_nil] at e hs
      simp only [mir, mirL, mirN, startR, startL, mSeq, mNil, mFrz, mSet, mAsg, mPar, mNew, mNew2, mDrop, mRet, mRetN, mIf, mRaise, mFor, mWhile, mSetIx, xbind, liR, liO, lS, lST, lSs, Out.thn, outR, own0, dVar, dOwn, dC, dOp, dChain, dB, asB, dAnd, dOr, dNot, dAndV, dOrV, dNotV, dIf, dNeg, dNil, dCons, dTup, dLst, dCall, dBi, dSl, dNo, dSo, dM1, dIsi, dItems, dRng, dZip, dLc, dYes, dFmt, wipeR, setR, gtN, gtSeq, gtCons, gtNil, sNil, sCons, sOp, sB, sNotT, sTup, sLst, sBi, sCall, sSl, sOwn, sCallL, sRng, sItems, sLc, sYes, sTry, nLst, nList, nCall, Res.bind, ofO, frz, List.map_cons, List.map_nil, List.length_cons, List.length_nil, List.replicate, List.cons_append, List.nil_append, List.getElem?_cons_zero, List.getElem?_cons_succ, List.set_cons_zero, List.set_cons_succ, List.foldl_cons, List.foldl_nil, Nat.reduceAdd, Nat.reduceSub, Nat.reduceLeDiff, Nat.zero_le, Nat.zero_add, Option.bind_some, Option.map_some, Option.bind_none, Option.map_none, if_true, if_false, reduceIte, Bool.not_true, Bool.not_false, Bool.false_eq_true, hs, e, hI2, hL, hg1, hg2, hX]
      simp [ha, fracD]
    | [a, b], _, h2, e, hs, hn =>
      have hab : numOk a = true ∧ numOk b = true := by simpa using h2
      have hL : bLen [.list (nums [a, b])] = some (.int 2) := rfl
      have hg1 : oGt (.int 2) (.int 2) = some (.bool false) := rfl
      have hg2 : oEq (.int 2) (.int 1) = some (.bool false) := rfl
      have hT : nums [a, b] = [.int (numV a), .int (numV b)] := rfl
      rw [hT] at hL e
      simp only [List.map_cons, List.map_nil] at e hs
      simp only [mir, mirL, mirN, startR, startL, mSeq, mNil, mFrz, mSet, mAsg, mPar, mNew, mNew2, mDrop, mRet, mRetN, mIf, mRaise, mFor, mWhile, mSetIx, xbind, liR, liO, lS, lST, lSs, Out.thn, outR, own0, dVar, dOwn, dC, dOp, dChain, dB, asB, dAnd, dOr, dNot, dAndV, dOrV, dNotV, dIf, dNeg, dNil, dCons, dTup, dLst, dCall, dBi, dSl, dNo, dSo, dM1, dIsi, dItems, dRng, dZip, dLc, dYes, dFmt, wipeR, setR, gtN, gtSeq, gtCons, gtNil, sNil, sCons, sOp, sB, sNotT, sTup, sLst, sBi, sCall, sSl, sOwn, sCallL, sRng, sItems, sLc, sYes, sTry, nLst, nList, nCall, Res.bind, ofO, frz, List.map_cons, List.map_nil, List.length_cons, List.length_nil, List.replicate, List.cons_append, List.nil_append, List.getElem?_cons_zero, List.getElem?_cons_succ, List.set_cons_zero, List.set_cons_succ, List.foldl_cons, List.foldl_nil, Nat.reduceAdd, Nat.reduceSub, Nat.reduceLeDiff, Nat.zero_le, Nat.zero_add, Option.bind_some, Option.map_some, Option.bind_none, Option.map_none, if_true, if_false, reduceIte, Bool.not_true, Bool.not_false, Bool.false_eq_true, hs, e, hI2, hL, hg1, hg2, p_gt, abs_eq]
      by_cases hb : 1 < numV b
      · have hb2 : 2 ≤ numV b := by omega
        have ec : (numV b) = (((numV b).natAbs : Nat) : Int) := by omega
        have hC : M__law_common [.int ((numV a).natAbs : Nat), .int (numV b)] = .ok (.int (Nat.gcd (numV a).natAbs (numV b).natAbs)) := by
          have q := e_law_common (numV a).natAbs (numV b).natAbs
          rw [← ec] at q
          exact q
        simp only [decide_eq_true hb, if_true]
        simp only [mir, mirL, mirN, startR, startL, mSeq, mNil, mFrz, mSet, mAsg, mPar, mNew, mNew2, mDrop, mRet, mRetN, mIf, mRaise, mFor, mWhile, mSetIx, xbind, liR, liO, lS, lST, lSs, Out.thn, outR, own0, dVar, dOwn, dC, dOp, dChain, dB, asB, dAnd, dOr, dNot, dAndV, dOrV, dNotV, dIf, dNeg, dNil, dCons, dTup, dLst, dCall, dBi, dSl, dNo, dSo, dM1, dIsi, dItems, dRng, dZip, dLc, dYes, dFmt, wipeR, setR, gtN, gtSeq, gtCons, gtNil, sNil, sCons, sOp, sB, sNotT, sTup, sLst, sBi, sCall, sSl, sOwn, sCallL, sRng, sItems, sLc, sYes, sTry, nLst, nList, nCall, Res.bind, ofO, frz, List.map_cons, List.map_nil, List.length_cons, List.length_nil, List.replicate, List.cons_append, List.nil_append, List.getElem?_cons_zero, List.getElem?_cons_succ, List.set_cons_zero, List.set_cons_succ, List.foldl_cons, List.foldl_nil, Nat.reduceAdd, Nat.reduceSub, Nat.reduceLeDiff, Nat.zero_le, Nat.zero_add, Option.bind_some, Option.map_some, Option.bind_none, Option.map_none, if_true, if_false, reduceIte, Bool.not_true, Bool.not_false, Bool.false_eq_true, hC, p_eqI]
        by_cases hg : Nat.gcd (numV a).natAbs (numV b).natAbs = 1
        · simp [hab, hb2, hg, fracD]
        · have : ¬ ((Nat.gcd (numV a).natAbs (numV b).natAbs : Nat) : Int) = 1 := by omega
          simp [hg, this]
      · have hb2 : ¬ 2 ≤ numV b := by omega
        simp [hb, hb2]
    | a :: b :: c :: r, _, h2, e, hs, hn =>
      have hL : (2 : Int) < ((nums (a :: b :: c :: r)).length : Nat) := by
        rw [hn]
        simp only [List.length_cons]
        omega
      simp only [List.map_cons] at e hs
      simp only [mir, mirL, mirN, startR, startL, mSeq, mNil, mFrz, mSet, mAsg, mPar, mNew, mNew2, mDrop, mRet, mRetN, mIf, mRaise, mFor, mWhile, mSetIx, xbind, liR, liO, lS, lST, lSs, Out.thn, outR, own0, dVar, dOwn, dC, dOp, dChain, dB, asB, dAnd, dOr, dNot, dAndV, dOrV, dNotV, dIf, dNeg, dNil, dCons, dTup, dLst, dCall, dBi, dSl, dNo, dSo, dM1, dIsi, dItems, dRng, dZip, dLc, dYes, dFmt, wipeR, setR, gtN, gtSeq, gtCons, gtNil, sNil, sCons, sOp, sB, sNotT, sTup, sLst, sBi, sCall, sSl, sOwn, sCallL, sRng, sItems, sLc, sYes, sTry, nLst, nList, nCall, Res.bind, ofO, frz, List.map_cons, List.map_nil, List.length_cons, List.length_nil, List.replicate, List.cons_append, List.nil_append, List.getElem?_cons_zero, List.getElem?_cons_succ, List.set_cons_zero, List.set_cons_succ, List.foldl_cons, List.foldl_nil, Nat.reduceAdd, Nat.reduceSub, Nat.reduceLeDiff, Nat.zero_le, Nat.zero_add, Option.bind_some, Option.map_some, Option.bind_none, Option.map_none, if_true, if_false, reduceIte, Bool.not_true, Bool.not_false, Bool.false_eq_true, hs, e, hI2, p_lenl, p_gt, decide_eq_true hL]
end K77
end

section
set_option Elab.async false
set_option linter.all false
set_option maxRecDepth 100000
set_option maxHeartbeats 4000000
namespace K77
open D PySem L2 TL NumText
/-! ### the text of a number -/
def nt (i : Int) : Str := toString i
def big : Nat := 10 ^ 40
theorem nt_nat (n : Nat) : tl (nt (n : Int)) = numL n := tl_num n
theorem nt_neg (m : Nat) : tl (nt (Int.negSucc m)) = 45 :: numL (m + 1) := by
  have e : (toString (Int.negSucc m) : String) = "-" ++ Nat.repr (m + 1) := rfl
  show tl (Str.ofString (toString (Int.negSucc m))) = _
  rw [e, tl_ofString, String.toList_append, List.map_append]
  have h1 : (Nat.repr (m + 1)).toList = Nat.toDigits 10 (m + 1) := by
    unfold Nat.repr
    simp
  rw [h1]
  rfl
theorem numL_head : ∀ (k n : Nat), n < k → 0 < n → (numL n).head? ≠ some 48
  | 0, n, h, _ => by omega
  | k + 1, n, h, h0 => by
    by_cases h10 : n < 10
    · rw [numL_lt h10]
      simp
      omega
    · rw [numL_step (by omega)]
      have ih := numL_head k (n / 10) (by omega) (by omega)
      cases e : numL (n / 10) with
      | nil => exact absurd e (numL_ne _)
      | cons c r =>
        rw [e] at ih
        simpa using ih
theorem numL_pos (n : Nat) : 1 ≤ (numL n).length := List.length_pos_iff.mpr (numL_ne n)
theorem nt_starts (n : Nat) : Txt.startswith (nt (n : Int)) "-" = false := by
  rw [startsm, nt_nat]
  refine decide_eq_false fun h => ?_
  cases e : numL n with
  | nil => exact numL_ne n e
  | cons c r =>
    rw [e] at h
    cases h
    have := numL_digits n 45 (by rw [e]; exact List.mem_cons_self)
    omega
theorem nt_startsN (m : Nat) : Txt.startswith (nt (Int.negSucc m)) "-" = true := by
  rw [startsm, nt_neg]
  rfl
theorem digs_nat (n : Nat) : tl (digs (nt (n : Int))) = numL n := by
  unfold digs
  rw [if_neg (by rw [nt_starts]; exact Bool.false_ne_true), nt_nat]
theorem digs_neg (m : Nat) : tl (digs (nt (Int.negSucc m))) = numL (m + 1) := by
  unfold digs
  rw [if_pos (nt_startsN m), tl_cut1, nt_neg]
  rfl
theorem all_dig (n : Nat) : (numL n).all isD = true := List.all_eq_true.mpr fun c h => isD_iff.mpr (numL_digits n c h)
theorem zero_txt : nt 0 = ("0" : Str) := by decide +kernel
theorem nt_ok {i : Int} (h : i.natAbs < big) : numOk (nt i) = true := by
  unfold numOk
  cases i with
  | ofNat n =>
    have hn : n < 10 ^ 40 := h
    have e := digs_nat n
    have hl := numL_len (by decide) hn
    rw [len_tl, show Int.ofNat n = (n : Int) from rfl, e, all_dig]
    have h1 := numL_pos n
    by_cases h0 : n = 0
    · subst h0
      have z : nt ((0 : Nat) : Int) = ("0" : Str) := zero_txt
      rw [z]
      simp [h1, hl]
    · have := numL_head (n + 1) n (by omega) (by omega)
      simp [h1, hl, this]
  | negSucc m =>
    have hn : m + 1 < 10 ^ 40 := h
    have e := digs_neg m
    have hl := numL_len (by decide) hn
    rw [len_tl, e, all_dig]
    have h1 := numL_pos (m + 1)
    have := numL_head (m + 2) (m + 1) (by omega) (by omega)
    simp [h1, hl, this]
theorem nt_val {i : Int} (h : i.natAbs < big) : numV (nt i) = i := by
  unfold numV
  cases i with
  | ofNat n =>
    have hn : n < 10 ^ 40 := h
    have hl := numL_len (by decide) hn
    rw [show Int.ofNat n = (n : Int) from rfl]
    have q : intText? (nt (n : Int)) = some ((digitsVal (tl (nt (n : Int))) : Nat) : Int) := intText_digits (by show AllDigits (tl (nt n)); rw [nt_nat]; exact numL_digits n) (by show tl (nt n) ≠ []; rw [nt_nat]; exact numL_ne n) (by rw [len_tl, nt_nat]; omega)
    rw [q, nt_nat, numL_val]
    rfl
  | negSucc m =>
    have hn : m + 1 < 10 ^ 40 := h
    have hl := numL_len (by decide) hn
    rw [intText_neg (cs := numL (m + 1)) (nt_neg m) (numL_digits _) (numL_ne _) (by rw [len_tl, nt_neg, List.length_cons]; omega), numL_val]
    rfl
theorem nt_chars (i : Int) : ∀ c ∈ tl (nt i), c = 45 ∨ (48 ≤ c ∧ c ≤ 57) := by
  cases i with
  | ofNat n =>
    intro c hc
    rw [show Int.ofNat n = (n : Int) from rfl, nt_nat] at hc
    exact .inr (numL_digits n c hc)
  | negSucc m =>
    intro c hc
    rw [nt_neg] at hc
    exact (List.mem_cons.mp hc).elim .inl fun z => .inr (numL_digits _ c z)
theorem nt_len {i : Int} (h : i.natAbs < big) : (nt i).length ≤ 41 := by
  rw [len_tl]
  cases i with
  | ofNat n =>
    have hl := numL_len (by decide) (show n < 10 ^ 40 from h)
    rw [show Int.ofNat n = (n : Int) from rfl, nt_nat]
    omega
  | negSucc m =>
    have hl := numL_len (by decide) (show m + 1 < 10 ^ 40 from h)
    rw [nt_neg, List.length_cons]
    omega
theorem nt_free {i : Int} {c : Nat} (h : c = 32 ∨ c = 47) : c ∉ tl (nt i) := fun m => by
  have := nt_chars i c m
  omega
theorem nt_gd {i : Int} (h : i.natAbs < big) : Gd (nt i) := ⟨fun c m => by have := nt_chars i c m; omega, Nat.le_trans (nt_len h) (by decide)⟩
theorem log_small {i : Int} (h : i.natAbs < big) : i.natAbs.log2 < 1920 := by
  by_cases h0 : i.natAbs = 0
  · rw [h0]
    decide
  · have : i.natAbs < 2 ^ 1920 := Nat.lt_trans h (by unfold big; decide +kernel)
    exact (Nat.log2_lt h0).mpr this
theorem p_str {i : Int} (h : i.natAbs < big) : bStr [.int i] = some (.str (nt i)) := if_pos (log_small h)
theorem p_fmt {i : Int} (h : i.natAbs < big) : fmtP (.int i) = some (.str (nt i)) := if_pos (log_small h)
/-! ### texts written -/
theorem strsOf_D : ∀ zs : List Str, strsOf (strsD zs) = some zs := fun zs => strsOf_map zs
def joinB (zs : List Str) : Prop := (zs.map (·.length)).sum + zs.length ≤ 1000000
theorem p_joinT {zs : List Str} (h : joinB zs) : mJoin " " (.tuple (strsD zs)) = some (.str (Txt.join " " zs)) := by
  show (strsOf (strsD zs)).bind (joinP " ") = _
  rw [strsOf_D]
  show joinP " " zs = _
  unfold joinP
  have e : (" " : Str).length = 1 := by decide +kernel
  rw [e, Nat.mul_one, if_pos (Nat.le_trans h (by decide))]
theorem p_joinL {zs : List Str} (h : joinB zs) : mJoin " " (.list (strsD zs)) = some (.str (Txt.join " " zs)) := p_joinT h
theorem sum_le {zs : List Str} {k : Nat} (h : ∀ z ∈ zs, z.length ≤ k) : (zs.map (·.length)).sum ≤ zs.length * k := by
  induction zs with
  | nil => simp
  | cons z zs ih =>
    have h1 := h z List.mem_cons_self
    have h2 := ih fun y m => h y (List.mem_cons_of_mem _ m)
    rw [List.map_cons, List.sum_cons, List.length_cons, Nat.succ_mul]
    omega
/-- the text of words -/
def wText (zs : List Str) : Str := if zs.isEmpty = true then "-" else Txt.join " " zs
def vText (is : List Int) : Str := Txt.join " " (is.map nt)
def fText (t b : Int) : Str := if b = 1 then nt t else nt t ++ ("/" : Str) ++ nt b
def intsD (is : List Int) : List PyData := is.map .int
theorem e_numbers_text {is : List Int} (h : ∀ i ∈ is, i.natAbs < big) (hl : is.length ≤ 10) : M_numbers_text [.tuple (intsD is)] = .ok (.str (vText is)) := by
  have L1 : ∀ t, lcL (gtN 1) dYes (dBi bStr (dCons (dVar 1) dNil)) [t, .un] (intsD is) = .ok ((intsD is).map fun d => match d with
    | .int i => .str (nt i)
    | d => d) := fun t => lc_map fun d hd => by
    obtain ⟨i, hi, rfl⟩ := List.mem_map.mp hd
    simp only [mir, mirL, mirN, startR, startL, mSeq, mNil, mFrz, mSet, mAsg, mPar, mNew, mNew2, mDrop, mRet, mRetN, mIf, mRaise, mFor, mWhile, mSetIx, xbind, liR, liO, lS, lST, lSs, Out.thn, outR, own0, dVar, dOwn, dC, dOp, dChain, dB, asB, dAnd, dOr, dNot, dAndV, dOrV, dNotV, dIf, dNeg, dNil, dCons, dTup, dLst, dCall, dBi, dSl, dNo, dSo, dM1, dIsi, dItems, dRng, dZip, dLc, dYes, dFmt, wipeR, setR, gtN, gtSeq, gtCons, gtNil, sNil, sCons, sOp, sB, sNotT, sTup, sLst, sBi, sCall, sSl, sOwn, sCallL, sRng, sItems, sLc, sYes, sTry, nLst, nList, nCall, Res.bind, ofO, frz, List.map_cons, List.map_nil, List.length_cons, List.length_nil, List.replicate, List.cons_append, List.nil_append, List.getElem?_cons_zero, List.getElem?_cons_succ, List.set_cons_zero, List.set_cons_succ, List.foldl_cons, List.foldl_nil, Nat.reduceAdd, Nat.reduceSub, Nat.reduceLeDiff, Nat.zero_le, Nat.zero_add, Option.bind_some, Option.map_some, Option.bind_none, Option.map_none, if_true, if_false, reduceIte, Bool.not_true, Bool.not_false, Bool.false_eq_true, p_str (h i hi)]
  have E : ((intsD is).map fun d => match d with
    | .int i => .str (nt i)
    | d => d) = strsD (is.map nt) := by
    unfold intsD strsD
    rw [List.map_map, List.map_map]
    rfl
  have J : joinB (is.map nt) := by
    unfold joinB
    have := sum_le (zs := is.map nt) (k := 41) fun z hz => by
      obtain ⟨i, hi, rfl⟩ := List.mem_map.mp hz
      exact nt_len (h i hi)
    rw [List.length_map] at this ⊢
    omega
  have hz : (intsD is).length ≤ 100000 := by
    unfold intsD
    rw [List.length_map]
    omega
  unfold M_numbers_text m_numbers_text
  simp only [mir, mirL, mirN, startR, startL, mSeq, mNil, mFrz, mSet, mAsg, mPar, mNew, mNew2, mDrop, mRet, mRetN, mIf, mRaise, mFor, mWhile, mSetIx, xbind, liR, liO, lS, lST, lSs, Out.thn, outR, own0, dVar, dOwn, dC, dOp, dChain, dB, asB, dAnd, dOr, dNot, dAndV, dOrV, dNotV, dIf, dNeg, dNil, dCons, dTup, dLst, dCall, dBi, dSl, dNo, dSo, dM1, dIsi, dItems, dRng, dZip, dLc, dYes, dFmt, wipeR, setR, gtN, gtSeq, gtCons, gtNil, sNil, sCons, sOp, sB, sNotT, sTup, sLst, sBi, sCall, sSl, sOwn, sCallL, sRng, sItems, sLc, sYes, sTry, nLst, nList, nCall, Res.bind, ofO, frz, List.map_cons, List.map_nil, List.length_cons, List.length_nil, List.replicate, List.cons_append, List.nil_append, List.getElem?_cons_zero, List.getElem?_cons_succ, List.set_cons_zero, List.set_cons_succ, List.foldl_cons, List.foldl_nil, Nat.reduceAdd, Nat.reduceSub, Nat.reduceLeDiff, Nat.zero_le, Nat.zero_add, Option.bind_some, Option.map_some, Option.bind_none, Option.map_none, if_true, if_false, reduceIte, Bool.not_true, Bool.not_false, Bool.false_eq_true, i_tup, if_pos hz, L1, E, p_joinL J]
  rfl
theorem e_format_vector {is : List Int} (h : ∀ i ∈ is, i.natAbs < big) (h1 : 1 ≤ is.length) (h5 : is.length ≤ 5) : M_format_vector [.tuple (intsD is)] = .ok (.str (vText is)) := by
  have hl : (intsD is).length = is.length := List.length_map _
  have A : (intsD is).all isInt = true := by
    unfold intsD
    rw [List.all_map]
    simp [isInt]
  have V := e_is_vector (intsD is) (by omega)
  rw [hl, A] at V
  have V' : M_is_vector [.tuple (intsD is)] = .ok (.bool true) := by
    rw [V]
    simp [h1, h5]
  unfold M_format_vector m_format_vector
  simp only [mir, mirL, mirN, startR, startL, mSeq, mNil, mFrz, mSet, mAsg, mPar, mNew, mNew2, mDrop, mRet, mRetN, mIf, mRaise, mFor, mWhile, mSetIx, xbind, liR, liO, lS, lST, lSs, Out.thn, outR, own0, dVar, dOwn, dC, dOp, dChain, dB, asB, dAnd, dOr, dNot, dAndV, dOrV, dNotV, dIf, dNeg, dNil, dCons, dTup, dLst, dCall, dBi, dSl, dNo, dSo, dM1, dIsi, dItems, dRng, dZip, dLc, dYes, dFmt, wipeR, setR, gtN, gtSeq, gtCons, gtNil, sNil, sCons, sOp, sB, sNotT, sTup, sLst, sBi, sCall, sSl, sOwn, sCallL, sRng, sItems, sLc, sYes, sTry, nLst, nList, nCall, Res.bind, ofO, frz, List.map_cons, List.map_nil, List.length_cons, List.length_nil, List.replicate, List.cons_append, List.nil_append, List.getElem?_cons_zero, List.getElem?_cons_succ, List.set_cons_zero, List.set_cons_succ, List.foldl_cons, List.foldl_nil, Nat.reduceAdd, Nat.reduceSub, Nat.reduceLeDiff, Nat.zero_le, Nat.zero_add, Option.bind_some, Option.map_some, Option.bind_none, Option.map_none, if_true, if_false, reduceIte, Bool.not_true, Bool.not_false, Bool.false_eq_true, V', e_numbers_text h (by omega)]
theorem e_fraction_text {t b : Int} (ht : t.natAbs < big) (hb : b.natAbs < big) : M_fraction_text [.tuple [.int t, .int b]] = .ok (.str (fText t b)) := by
  have hj : ∀ x, (Str.empty ++ x : Str) = x := fun x => by
    refine ext_tl ?_
    rw [tl_append]
    rfl
  have l1 := nt_len ht
  have l2 := nt_len hb
  have sl : ("/" : Str).length = 1 := by decide +kernel
  have ll : ∀ x y : Str, (x ++ y).length = x.length + y.length := fun x y => by rw [len_tl, len_tl, len_tl, tl_append, List.length_append]
  have big1 := line_big
  have c1 : (nt t).length ≤ sizeLine := by omega
  have c2 : (nt t ++ ("/" : Str)).length ≤ sizeLine := by rw [ll, sl]; omega
  have c3 : (nt t ++ ("/" : Str) ++ nt b).length ≤ sizeLine := by rw [ll, ll, sl]; omega
  unfold M_fraction_text m_fraction_text
  simp only [mir, mirL, mirN, startR, startL, mSeq, mNil, mFrz, mSet, mAsg, mPar, mNew, mNew2, mDrop, mRet, mRetN, mIf, mRaise, mFor, mWhile, mSetIx, xbind, liR, liO, lS, lST, lSs, Out.thn, outR, own0, dVar, dOwn, dC, dOp, dChain, dB, asB, dAnd, dOr, dNot, dAndV, dOrV, dNotV, dIf, dNeg, dNil, dCons, dTup, dLst, dCall, dBi, dSl, dNo, dSo, dM1, dIsi, dItems, dRng, dZip, dLc, dYes, dFmt, wipeR, setR, gtN, gtSeq, gtCons, gtNil, sNil, sCons, sOp, sB, sNotT, sTup, sLst, sBi, sCall, sSl, sOwn, sCallL, sRng, sItems, sLc, sYes, sTry, nLst, nList, nCall, Res.bind, ofO, frz, List.map_cons, List.map_nil, List.length_cons, List.length_nil, List.replicate, List.cons_append, List.nil_append, List.getElem?_cons_zero, List.getElem?_cons_succ, List.set_cons_zero, List.set_cons_succ, List.foldl_cons, List.foldl_nil, Nat.reduceAdd, Nat.reduceSub, Nat.reduceLeDiff, Nat.zero_le, Nat.zero_add, Option.bind_some, Option.map_some, Option.bind_none, Option.map_none, if_true, if_false, reduceIte, Bool.not_true, Bool.not_false, Bool.false_eq_true, p_eqI]
  by_cases h : b = 1
  · subst h
    simp only [mir, mirL, mirN, startR, startL, mSeq, mNil, mFrz, mSet, mAsg, mPar, mNew, mNew2, mDrop, mRet, mRetN, mIf, mRaise, mFor, mWhile, mSetIx, xbind, liR, liO, lS, lST, lSs, Out.thn, outR, own0, dVar, dOwn, dC, dOp, dChain, dB, asB, dAnd, dOr, dNot, dAndV, dOrV, dNotV, dIf, dNeg, dNil, dCons, dTup, dLst, dCall, dBi, dSl, dNo, dSo, dM1, dIsi, dItems, dRng, dZip, dLc, dYes, dFmt, wipeR, setR, gtN, gtSeq, gtCons, gtNil, sNil, sCons, sOp, sB, sNotT, sTup, sLst, sBi, sCall, sSl, sOwn, sCallL, sRng, sItems, sLc, sYes, sTry, nLst, nList, nCall, Res.bind, ofO, frz, List.map_cons, List.map_nil, List.length_cons, List.length_nil, List.replicate, List.cons_append, List.nil_append, List.getElem?_cons_zero, List.getElem?_cons_succ, List.set_cons_zero, List.set_cons_succ, List.foldl_cons, List.foldl_nil, Nat.reduceAdd, Nat.reduceSub, Nat.reduceLeDiff, Nat.zero_le, Nat.zero_add, Option.bind_some, Option.map_some, Option.bind_none, Option.map_none, if_true, if_false, reduceIte, Bool.not_true, Bool.not_false, Bool.false_eq_true, p_str ht]
    simp [fText]
  · have h' : ((b : Int) == 1) = false := by simpa using h
    simp only [mir, mirL, mirN, startR, startL, mSeq, mNil, mFrz, mSet, mAsg, mPar, mNew, mNew2, mDrop, mRet, mRetN, mIf, mRaise, mFor, mWhile, mSetIx, xbind, liR, liO, lS, lST, lSs, Out.thn, outR, own0, dVar, dOwn, dC, dOp, dChain, dB, asB, dAnd, dOr, dNot, dAndV, dOrV, dNotV, dIf, dNeg, dNil, dCons, dTup, dLst, dCall, dBi, dSl, dNo, dSo, dM1, dIsi, dItems, dRng, dZip, dLc, dYes, dFmt, wipeR, setR, gtN, gtSeq, gtCons, gtNil, sNil, sCons, sOp, sB, sNotT, sTup, sLst, sBi, sCall, sSl, sOwn, sCallL, sRng, sItems, sLc, sYes, sTry, nLst, nList, nCall, Res.bind, ofO, frz, List.map_cons, List.map_nil, List.length_cons, List.length_nil, List.replicate, List.cons_append, List.nil_append, List.getElem?_cons_zero, List.getElem?_cons_succ, List.set_cons_zero, List.set_cons_succ, List.foldl_cons, List.foldl_nil, Nat.reduceAdd, Nat.reduceSub, Nat.reduceLeDiff, Nat.zero_le, Nat.zero_add, Option.bind_some, Option.map_some, Option.bind_none, Option.map_none, if_true, if_false, reduceIte, Bool.not_true, Bool.not_false, Bool.false_eq_true, h', dJoined, joinD, p_fmt ht, p_fmt hb, hj, if_pos c1, if_pos c2, if_pos c3]
    simp [fText, h]
theorem e_format_fraction {t b : Int} (ht : t.natAbs < big) (hb : b.natAbs < big) (h1 : 1 ≤ b) (hg : Nat.gcd t.natAbs b.natAbs = 1) : M_format_fraction [.tuple [.int t, .int b]] = .ok (.str (fText t b)) := by
  have V' : M_is_fraction [.tuple [.int t, .int b]] = .ok (.bool true) := by
    rw [e_is_fraction]
    simp [h1, hg]
  unfold M_format_fraction m_format_fraction M_require_fraction m_require_fraction
  simp only [mir, mirL, mirN, startR, startL, mSeq, mNil, mFrz, mSet, mAsg, mPar, mNew, mNew2, mDrop, mRet, mRetN, mIf, mRaise, mFor, mWhile, mSetIx, xbind, liR, liO, lS, lST, lSs, Out.thn, outR, own0, dVar, dOwn, dC, dOp, dChain, dB, asB, dAnd, dOr, dNot, dAndV, dOrV, dNotV, dIf, dNeg, dNil, dCons, dTup, dLst, dCall, dBi, dSl, dNo, dSo, dM1, dIsi, dItems, dRng, dZip, dLc, dYes, dFmt, wipeR, setR, gtN, gtSeq, gtCons, gtNil, sNil, sCons, sOp, sB, sNotT, sTup, sLst, sBi, sCall, sSl, sOwn, sCallL, sRng, sItems, sLc, sYes, sTry, nLst, nList, nCall, Res.bind, ofO, frz, List.map_cons, List.map_nil, List.length_cons, List.length_nil, List.replicate, List.cons_append, List.nil_append, List.getElem?_cons_zero, List.getElem?_cons_succ, List.set_cons_zero, List.set_cons_succ, List.foldl_cons, List.foldl_nil, Nat.reduceAdd, Nat.reduceSub, Nat.reduceLeDiff, Nat.zero_le, Nat.zero_add, Option.bind_some, Option.map_some, Option.bind_none, Option.map_none, if_true, if_false, reduceIte, Bool.not_true, Bool.not_false, Bool.false_eq_true, V', e_fraction_text ht hb]
theorem e_word_text {zs : List Str} (hj : joinB zs) (ho : ∀ z ∈ zs, PyData.strOk z = true) : M_word_text [.tuple (strsD zs)] = .ok (.str (wText zs)) := by
  have hN : oNe (.tuple (strsD zs)) (.tuple []) = some (.bool (!zs.isEmpty)) := by
    rw [p_ne (sh_tuple (k := 0) (by decide) fun d hd => ?_) sh_nilT, eqv_nilT]
    · cases zs <;> rfl
    · obtain ⟨z, hz, rfl⟩ := List.mem_map.mp hd
      exact ⟨ho z hz, Nat.le_refl _⟩
  unfold M_word_text m_word_text
  simp only [mir, mirL, mirN, startR, startL, mSeq, mNil, mFrz, mSet, mAsg, mPar, mNew, mNew2, mDrop, mRet, mRetN, mIf, mRaise, mFor, mWhile, mSetIx, xbind, liR, liO, lS, lST, lSs, Out.thn, outR, own0, dVar, dOwn, dC, dOp, dChain, dB, asB, dAnd, dOr, dNot, dAndV, dOrV, dNotV, dIf, dNeg, dNil, dCons, dTup, dLst, dCall, dBi, dSl, dNo, dSo, dM1, dIsi, dItems, dRng, dZip, dLc, dYes, dFmt, wipeR, setR, gtN, gtSeq, gtCons, gtNil, sNil, sCons, sOp, sB, sNotT, sTup, sLst, sBi, sCall, sSl, sOwn, sCallL, sRng, sItems, sLc, sYes, sTry, nLst, nList, nCall, Res.bind, ofO, frz, List.map_cons, List.map_nil, List.length_cons, List.length_nil, List.replicate, List.cons_append, List.nil_append, List.getElem?_cons_zero, List.getElem?_cons_succ, List.set_cons_zero, List.set_cons_succ, List.foldl_cons, List.foldl_nil, Nat.reduceAdd, Nat.reduceSub, Nat.reduceLeDiff, Nat.zero_le, Nat.zero_add, Option.bind_some, Option.map_some, Option.bind_none, Option.map_none, if_true, if_false, reduceIte, Bool.not_true, Bool.not_false, Bool.false_eq_true, hN, p_joinT hj]
  cases h : zs.isEmpty <;> simp [wText, h]
theorem e_format_word {al zs : List Str} (A : Al al) (hw : ∀ z ∈ zs, z ∈ al) (hl : zs.length ≤ 200) : M_format_word [.tuple (strsD al), .tuple (strsD zs)] = .ok (.str (wText zs)) := by
  have hj : joinB zs := by
    unfold joinB
    have := sum_le (zs := zs) (k := 8) fun z hz => (act_gd z (A.mem z (hw z hz))).2.2
    omega
  have W : wOk al zs = true := List.all_eq_true.mpr fun z hz => decide_eq_true (hw z hz)
  have hl' : ¬ (200 : Int) < zs.length := by omega
  unfold M_format_word m_format_word M_require_word m_require_word
  simp only [mir, mirL, mirN, startR, startL, mSeq, mNil, mFrz, mSet, mAsg, mPar, mNew, mNew2, mDrop, mRet, mRetN, mIf, mRaise, mFor, mWhile, mSetIx, xbind, liR, liO, lS, lST, lSs, Out.thn, outR, own0, dVar, dOwn, dC, dOp, dChain, dB, asB, dAnd, dOr, dNot, dAndV, dOrV, dNotV, dIf, dNeg, dNil, dCons, dTup, dLst, dCall, dBi, dSl, dNo, dSo, dM1, dIsi, dItems, dRng, dZip, dLc, dYes, dFmt, wipeR, setR, gtN, gtSeq, gtCons, gtNil, sNil, sCons, sOp, sB, sNotT, sTup, sLst, sBi, sCall, sSl, sOwn, sCallL, sRng, sItems, sLc, sYes, sTry, nLst, nList, nCall, Res.bind, ofO, frz, List.map_cons, List.map_nil, List.length_cons, List.length_nil, List.replicate, List.cons_append, List.nil_append, List.getElem?_cons_zero, List.getElem?_cons_succ, List.set_cons_zero, List.set_cons_succ, List.foldl_cons, List.foldl_nil, Nat.reduceAdd, Nat.reduceSub, Nat.reduceLeDiff, Nat.zero_le, Nat.zero_add, Option.bind_some, Option.map_some, Option.bind_none, Option.map_none, if_true, if_false, reduceIte, Bool.not_true, Bool.not_false, Bool.false_eq_true, e_require_alphabet A, e_is_word_of (al := al) (zs := zs) (by omega), W, p_lent, strs_len, p_gt, decide_eq_false hl', e_word_text hj fun z hz => act_ok' (A.mem z (hw z hz))]
end K77
end

section
set_option Elab.async false
set_option linter.all false
set_option maxRecDepth 100000
set_option maxHeartbeats 4000000
namespace K77
open D PySem L2 TL NumText
/-! ### texts joined -/
theorem joinL_mem {S : List Nat} {c : Nat} : ∀ {ps : List (List Nat)}, c ∈ joinL S ps → c ∈ S ∨ ∃ p ∈ ps, c ∈ p
  | [], h => by cases h
  | [p], h => .inr ⟨p, List.mem_cons_self, h⟩
  | p :: q :: r, h => by
    rcases List.mem_append.mp h with h | h
    · exact .inr ⟨p, List.mem_cons_self, h⟩
    · rcases List.mem_append.mp h with h | h
      · exact .inl h
      · rcases joinL_mem h with h | ⟨x, h1, h2⟩
        · exact .inl h
        · exact .inr ⟨x, List.mem_cons_of_mem _ h1, h2⟩
theorem joinL_len {S : List Nat} {k : Nat} : ∀ {ps : List (List Nat)}, (∀ p ∈ ps, p.length ≤ k) → (joinL S ps).length ≤ ps.length * (k + S.length)
  | [], _ => Nat.zero_le _
  | [p], h => by
    have := h p List.mem_cons_self
    show p.length ≤ 1 * _
    omega
  | p :: q :: r, h => by
    have h1 := h p List.mem_cons_self
    have h2 := joinL_len (S := S) (ps := q :: r) fun x m => h x (List.mem_cons_of_mem _ m)
    show (p ++ (S ++ joinL S (q :: r))).length ≤ _
    rw [List.length_append, List.length_append, List.length_cons (a := p), Nat.succ_mul]
    omega
theorem blank : tl (" " : Str) = [32] := by decide +kernel
theorem join_gd {zs : List Str} {k : Nat} (h1 : ∀ z ∈ zs, ∀ c ∈ tl z, c < 128) (h2 : ∀ z ∈ zs, z.length ≤ k) (h3 : zs.length * (k + 1) ≤ 20000) : Gd (Txt.join " " zs) := by
  have e : tl (Txt.join " " zs) = joinL [32] (zs.map tl) := by rw [join_eq, tl_join, blank]
  refine ⟨fun c hc => ?_, ?_⟩
  · rw [e] at hc
    rcases joinL_mem hc with h | ⟨p, hp, h⟩
    · rw [List.mem_singleton.mp h]
      decide
    · obtain ⟨z, hz, rfl⟩ := List.mem_map.mp hp
      exact h1 z hz c h
  · rw [len_tl, e]
    have := joinL_len (S := [32]) (k := k) (ps := zs.map tl) fun p hp => by
      obtain ⟨z, hz, rfl⟩ := List.mem_map.mp hp
      rw [← len_tl]
      exact h2 z hz
    rw [List.length_map] at this
    exact Nat.le_trans this h3
theorem split_words {zs : List Str} (hne : zs ≠ []) (h : ∀ z ∈ zs, 32 ∉ tl z) : Txt.split (Txt.join " " zs) " " = zs := split_join (S := []) blank (by decide +kernel) hne h
theorem dash_gd : Gd ("-" : Str) := ⟨by decide +kernel, by decide +kernel⟩
theorem wText_gd {zs : List Str} (h : ∀ z ∈ zs, z ∈ acts) (hl : zs.length ≤ 200) : Gd (wText zs) := by
  unfold wText
  split
  · exact dash_gd
  · exact join_gd (k := 8) (fun z hz c hc => by have := (act_gd z (h z hz)).1 c hc; omega) (fun z hz => (act_gd z (h z hz)).2.2) (by omega)
theorem words_of {zs : List Str} (h : ∀ z ∈ zs, z ∈ acts) : wordsOf (wText zs) = zs := by
  unfold wText
  cases zs with
  | nil => rfl
  | cons z r =>
    have sp := split_words (zs := z :: r) (by simp) fun y hy m => by
      have := (act_gd y (h y hy)).1 32 m
      omega
    simp only [List.isEmpty_cons, Bool.false_eq_true, if_false]
    unfold wordsOf
    rw [if_neg ?_, sp]
    intro e
    rw [beq_iff_eq] at e
    rw [e] at sp
    have e2 : Txt.split ("-" : Str) " " = [("-" : Str)] := by
      refine map_tl_inj ?_
      rw [split_spl _ " " (by rw [blank]; simp) (kind_ok (by decide +kernel)), blank, spl_last1 (by decide +kernel)]
      rfl
    rw [e2] at sp
    have : z = ("-" : Str) := by
      injection sp with a _
      exact a.symm
    have q := (act_gd z (h z List.mem_cons_self)).1 45 (by rw [this]; decide +kernel)
    omega
theorem back_word {al zs : List Str} (A : Al al) (hw : ∀ z ∈ zs, z ∈ al) (hl : zs.length ≤ 200) : M_parse_word [.tuple (strsD al), .str (wText zs)] = .ok (.tuple (strsD zs)) := by
  have hm : ∀ z ∈ zs, z ∈ acts := fun z hz => A.mem z (hw z hz)
  rw [e_parse_word A (wText_gd hm hl), words_of hm]
  have W : wOk al zs = true := List.all_eq_true.mpr fun z hz => decide_eq_true (hw z hz)
  rw [W]
  simp [hl]
theorem vText_gd {is : List Int} (h : ∀ i ∈ is, i.natAbs < big) (hl : is.length ≤ 10) : Gd (vText is) := join_gd (k := 41) (fun z hz c hc => by
    obtain ⟨i, hi, rfl⟩ := List.mem_map.mp hz
    have := nt_chars i c hc
    omega) (fun z hz => by
    obtain ⟨i, hi, rfl⟩ := List.mem_map.mp hz
    exact nt_len (h i hi)) (by rw [List.length_map]; omega)
theorem nums_nt {is : List Int} (h : ∀ i ∈ is, i.natAbs < big) : nums (is.map nt) = intsD is := by
  unfold nums intsD
  rw [List.map_map]
  exact List.map_congr_left fun i hi => by
    show PyData.int (numV (nt i)) = .int i
    rw [nt_val (h i hi)]
theorem nums_ok {is : List Int} (h : ∀ i ∈ is, i.natAbs < big) : (is.map nt).all numOk = true := List.all_eq_true.mpr fun z hz => by
  obtain ⟨i, hi, rfl⟩ := List.mem_map.mp hz
  exact nt_ok (h i hi)
theorem back_vector {is : List Int} (h : ∀ i ∈ is, i.natAbs < big) (h1 : 1 ≤ is.length) (h5 : is.length ≤ 5) : M_parse_vector [.str (vText is)] = .ok (.tuple (intsD is)) := by
  have sp : Txt.split (vText is) " " = is.map nt := split_words (fun e => by rw [List.map_eq_nil_iff] at e; rw [e] at h1; simp at h1) fun z hz => by
    obtain ⟨i, hi, rfl⟩ := List.mem_map.mp hz
    exact nt_free (.inl rfl)
  rw [e_parse_vector (vText_gd h (by omega)), sp, nums_ok h, nums_nt h, List.length_map]
  simp [h5]
theorem fText_gd {t b : Int} (ht : t.natAbs < big) (hb : b.natAbs < big) : Gd (fText t b) := by
  unfold fText
  split
  · exact nt_gd ht
  · refine ⟨fun c hc => ?_, ?_⟩
    · rw [tl_append, tl_append, slash] at hc
      rcases List.mem_append.mp hc with hc | hc
      · rcases List.mem_append.mp hc with hc | hc
        · exact (nt_gd ht).asc c hc
        · rw [List.mem_singleton.mp hc]
          decide
      · exact (nt_gd hb).asc c hc
    · have l1 := nt_len ht
      have l2 := nt_len hb
      rw [len_tl, tl_append, tl_append, slash, List.length_append, List.length_append, ← len_tl, ← len_tl]
      simp only [List.length_cons, List.length_nil]
      omega
theorem back_frac {t b : Int} (ht : t.natAbs < big) (hb : b.natAbs < big) (h1 : 1 ≤ b) (hg : Nat.gcd t.natAbs b.natAbs = 1) : fracV (fText t b) = some (t, b) := by
  unfold fracV fText
  by_cases h : b = 1
  · subst h
    rw [if_pos rfl, split_one (nt_free (.inr rfl))]
    simp [nt_ok ht, nt_val ht]
  · rw [if_neg h, split_more (nt_free (.inr rfl)), split_one (nt_free (.inr rfl))]
    have h2 : 2 ≤ b := by omega
    simp [nt_ok ht, nt_ok hb, nt_val ht, nt_val hb, h2, hg]
theorem back_fraction {t b : Int} (ht : t.natAbs < big) (hb : b.natAbs < big) (h1 : 1 ≤ b) (hg : Nat.gcd t.natAbs b.natAbs = 1) : M_parse_fraction [.str (fText t b)] = .ok (fracD (t, b)) := by
  rw [e_parse_fraction (fText_gd ht hb), back_frac ht hb h1 hg]
/-! ### what is shown -/
theorem piled_le {k : Nat} : ∀ {ts : List Str}, (∀ t ∈ ts, t.length ≤ k) → (Str.join ", " ts).length ≤ ts.length * (k + 2) := fun {ts} h => by
  have e : tl (", " : Str) = [44, 32] := by decide +kernel
  rw [len_tl, tl_join, e]
  have := joinL_len (S := [44, 32]) (k := k) (ps := ts.map tl) fun p hp => by
    obtain ⟨z, hz, rfl⟩ := List.mem_map.mp hp
    rw [← len_tl]
    exact h z hz
  rw [List.length_map] at this
  exact this
theorem str_len_app (x y : Str) : (x ++ y).length = x.length + y.length := by rw [len_tl, len_tl, len_tl, tl_append, List.length_append]
theorem tuple_len {k : Nat} {ts : List Str} (h : ∀ t ∈ ts, t.length ≤ k) : (tupleText ts).length ≤ ts.length * (k + 2) + 4 := by
  unfold tupleText
  rw [str_len_app, str_len_app]
  have h1 : ("(" : Str).length = 1 := by decide +kernel
  have h2 : ((if ts.length == 1 then ",)" else ")" : String) : Str).length ≤ 2 := by
    split <;> decide +kernel
  have := piled_le h
  omega
theorem list_len1 (t : Str) : (listText [t]).length = t.length + 2 := by
  have h1 : ("[" : Str).length = 1 := by decide +kernel
  have h2 : ("]" : Str).length = 1 := by decide +kernel
  have h3 : ("" : Str).length = 0 := by decide +kernel
  show ((("[" : Str) ++ ("" : Str) ++ t) ++ ("]" : Str)).length = _
  rw [str_len_app, str_len_app, str_len_app, h1, h2, h3]
  omega
theorem list_len3 (t u v : Str) : (listText [t, u, v]).length = t.length + u.length + v.length + 6 := by
  have h1 : ("[" : Str).length = 1 := by decide +kernel
  have h2 : ("]" : Str).length = 1 := by decide +kernel
  have h3 : ("" : Str).length = 0 := by decide +kernel
  have h4 : (", " : Str).length = 2 := by decide +kernel
  show (((((("[" : Str) ++ ("" : Str) ++ t) ++ (", " : Str) ++ u) ++ (", " : Str) ++ v)) ++ ("]" : Str)).length = _
  simp only [str_len_app, h1, h2, h3, h4]
  omega
/-- small data: at most 200 parts, each shown in at most 50 signs -/
structure Small (d : PyData) : Prop where
  sh : d.showable = true
  nd : d.hasDict = false
  dp : d.depth = 1
  len : d.shown.length ≤ 20000
  can : d.canLay0 = true
theorem shown_all {k : Nat} : ∀ {l : List PyData}, (∀ d ∈ l, d.shown.length ≤ k) → ∀ t ∈ PyData.shownAll l, t.length ≤ k
  | [], _, t, ht => by cases ht
  | d :: l, h, t, ht => by
    rcases List.mem_cons.mp ht with e | e
    · rw [e]; exact h d List.mem_cons_self
    · exact shown_all (fun x m => h x (List.mem_cons_of_mem _ m)) t e
theorem shown_cnt : ∀ l : List PyData, (PyData.shownAll l).length = l.length
  | [] => rfl
  | d :: l => by
    show (d.shown :: PyData.shownAll l).length = _
    rw [List.length_cons, List.length_cons, shown_cnt l]
theorem shAll {l : List PyData} (h : ∀ d ∈ l, d.showable = true) : PyData.showableAll l = true := by
  induction l with
  | nil => rfl
  | cons d l ih =>
    show (d.showable && PyData.showableAll l) = true
    rw [h d List.mem_cons_self, ih fun e m => h e (List.mem_cons_of_mem _ m)]
    rfl
theorem ndAll {l : List PyData} (h : ∀ d ∈ l, d.hasDict = false) : PyData.hasDictAll l = false := by
  induction l with
  | nil => rfl
  | cons d l ih =>
    show (d.hasDict || PyData.hasDictAll l) = false
    rw [h d List.mem_cons_self, ih fun e m => h e (List.mem_cons_of_mem _ m)]
    rfl
theorem small_tuple {l : List PyData} (hl : l.length ≤ 200) (h : ∀ d ∈ l, d.showable = true ∧ d.hasDict = false ∧ d.depth = 0 ∧ d.shown.length ≤ 50 ∧ d.canLay0 = true) : Small (.tuple l) := by
  refine ⟨shAll fun d m => (h d m).1, ndAll fun d m => (h d m).2.1, ?_, ?_, canAll fun d m => (h d m).2.2.2.2⟩
  · show PyData.depthAll l + 1 = 1
    have := depthAll_le (k := 0) (l := l) fun d m => by rw [(h d m).2.2.1]; exact Nat.le_refl _
    omega
  · have := tuple_len (shown_all (k := 50) (l := l) fun d m => (h d m).2.2.2.1)
    rw [shown_cnt] at this
    show (tupleText (PyData.shownAll l)).length ≤ 20000
    omega
theorem act_shown : ∀ a ∈ acts, (reprText a).length ≤ 50 := acts_all ⟨by decide +kernel, by decide +kernel, by decide +kernel, by decide +kernel, by decide +kernel, by decide +kernel, by decide +kernel, by decide +kernel, by decide +kernel, by decide +kernel, by decide +kernel⟩
theorem small_word {zs : List Str} (hl : zs.length ≤ 200) (h : ∀ z ∈ zs, z ∈ acts) : Small (.tuple (strsD zs)) := small_tuple (by rw [strs_len]; exact hl) fun d hd => by
  obtain ⟨z, hz, rfl⟩ := List.mem_map.mp hd
  exact ⟨rfl, rfl, rfl, act_shown z (h z hz), act_ok' (h z hz)⟩
theorem small_ints {is : List Int} (hl : is.length ≤ 200) (h : ∀ i ∈ is, i.natAbs < big) : Small (.tuple (intsD is)) := small_tuple (by show (is.map PyData.int).length ≤ 200; rw [List.length_map]; exact hl) fun d hd => by
  obtain ⟨i, hi, rfl⟩ := List.mem_map.mp hd
  exact ⟨decide_eq_true (log_small (h i hi)), rfl, rfl, Nat.le_trans (nt_len (h i hi)) (by decide), rfl⟩
theorem show_one {d : PyData} (s : Small d) : showOkB (.list [d]) = true := by
  unfold showOkB
  have h1 : (PyData.list [d]).showable = true := by show (d.showable && true) = true; rw [s.sh]; rfl
  have h2 : (PyData.list [d]).hasDict = false := by show (d.hasDict || false) = false; rw [s.nd]; rfl
  have h3 : (PyData.list [d]).depth = 2 := by show max d.depth 0 + 1 = 2; rw [s.dp]; rfl
  have h4 : (PyData.list [d]).shown.length = d.shown.length + 2 := list_len1 _
  have := s.len
  rw [h1, h2, h3, h4]
  simp
  omega
theorem show_three {d e f : PyData} (s : Small d) (t : Small e) (u : Small f) : showOkB (.list [d, e, f]) = true := by
  unfold showOkB
  have h1 : (PyData.list [d, e, f]).showable = true := by show (d.showable && (e.showable && (f.showable && true))) = true; rw [s.sh, t.sh, u.sh]; rfl
  have h2 : (PyData.list [d, e, f]).hasDict = false := by show (d.hasDict || (e.hasDict || (f.hasDict || false))) = false; rw [s.nd, t.nd, u.nd]; rfl
  have h3 : (PyData.list [d, e, f]).depth = 2 := by show max d.depth (max e.depth (max f.depth 0)) + 1 = 2; rw [s.dp, t.dp, u.dp]; rfl
  have h4 : (PyData.list [d, e, f]).shown.length = d.shown.length + e.shown.length + f.shown.length + 6 := list_len3 _ _ _
  have := s.len
  have := t.len
  have := u.len
  rw [h1, h2, h3, h4]
  simp
  omega
/-- what is told and what is due are shown alike -/
theorem numV_lt {z : Str} (h : numOk z = true) : (numV z).natAbs < big := by
  unfold numOk at h
  simp only [Bool.and_eq_true, decide_eq_true_eq, List.all_eq_true] at h
  obtain ⟨⟨⟨h1, h2⟩, h3⟩, _⟩ := h
  have ad : AllDigits (tl (digs z)) := fun c hc => isD_iff.mp (h3 c hc)
  have nn := ne_nil_of h1
  rw [len_tl] at h2
  have bound : ∀ l : List Nat, AllDigits l → digitsVal l < 10 ^ l.length := by
    intro l
    unfold digitsVal
    have key : ∀ (l : List Nat) (a k : Nat), AllDigits l → a < 10 ^ k → l.foldl (fun acc c => acc * 10 + (c - 48)) a < 10 ^ (k + l.length) := by
      intro l
      induction l with
      | nil => exact fun a k _ h => h
      | cons c r ih =>
        intro a k hd ha
        have hc := hd.head
        have : a * 10 + (c - 48) < 10 ^ (k + 1) := by
          rw [Nat.pow_succ]
          omega
        have z := ih (a * 10 + (c - 48)) (k + 1) hd.tail this
        rw [List.length_cons, show k + (r.length + 1) = k + 1 + r.length by omega]
        exact z
    intro hd
    have z := key l 0 0 hd (by decide)
    rw [Nat.zero_add] at z
    exact z
  have le40 : ∀ l : List Nat, AllDigits l → l.length ≤ 40 → digitsVal l < big := fun l hd hl => Nat.lt_of_lt_of_le (bound l hd) (Nat.pow_le_pow_right (by decide) hl)
  unfold numV
  unfold digs at ad nn h2
  by_cases hs : Txt.startswith z "-" = true
  · rw [if_pos hs] at ad nn h2
    rw [startsm, decide_eq_true_iff] at hs
    rw [tl_cut1] at ad nn h2
    cases e : tl z with
    | nil => rw [e] at hs; cases hs
    | cons c r =>
      rw [e] at hs ad nn h2
      cases hs
      rw [intText_neg (cs := r) e ad nn (by rw [len_tl, e]; simp at h2 ⊢; omega)]
      have := le40 r ad (by simpa using h2)
      simp only [Option.getD_some, Int.natAbs_neg, Int.natAbs_natCast]
      exact this
  · rw [if_neg hs] at ad nn h2
    rw [intText_digits ad nn (by rw [len_tl]; omega)]
    simp only [Option.getD_some, Int.natAbs_natCast]
    exact le40 _ ad h2
end K77
end

section
set_option Elab.async false
set_option linter.all false
set_option maxRecDepth 100000
set_option maxHeartbeats 4000000
namespace K77
open D PySem L2 TL NumText
/-! ### the stream of draws -/
/-- three numbers; not more than B draws from the last one -/
def Sm (B : Nat) (s : List PyData) : Prop := ∃ a b c : Int, s = [.int a, .int b, .int c] ∧ 0 ≤ a ∧ 0 ≤ b ∧ b < 2 ^ 62 ∧ 0 ≤ c ∧ c ≤ (B : Int)
theorem Sm.up {B C : Nat} {s : List PyData} (h : Sm B s) (l : B ≤ C) : Sm C s := by
  obtain ⟨a, b, c, h1, h2, h3, h4, h5, h6⟩ := h
  exact ⟨a, b, c, h1, h2, h3, h4, h5, by omega⟩
theorem log100 {i : Int} (h : i.natAbs < 2 ^ 1000) : i.natAbs.log2 < 1000 := by
  by_cases h0 : i.natAbs = 0
  · rw [h0]
    decide
  · exact (Nat.log2_lt h0).mpr h
theorem p_mul {i j : Int} (h1 : i.natAbs < 2 ^ 1000) (h2 : j.natAbs < 2 ^ 1000) : oMul (.int i) (.int j) = some (.int (i * j)) := if_pos (by have := log100 h1; have := log100 h2; omega)
theorem p_add (i j : Int) : oAdd (.int i) (.int j) = some (.int (i + j)) := rfl
theorem p_sub (i j : Int) : oSub (.int i) (.int j) = some (.int (i - j)) := rfl
theorem p_mod {i j : Int} (h : 0 < j) : oMod (.int i) (.int j) = some (.int (i % j)) := if_pos (decide_eq_true h)
theorem p_fdiv {i j : Int} (h : 0 < j) (h2 : j.natAbs < 2 ^ 1000) : oFDiv (.int i) (.int j) = some (.int (i / j)) := if_pos (decide_eq_true ⟨h, by have := log100 h2; omega⟩)
theorem small1000 {i : Int} (h0 : 0 ≤ i) (h : i < 2 ^ 200) : i.natAbs < 2 ^ 1000 := by
  have e : (2 : Nat) ^ 200 < 2 ^ 1000 := by decide +kernel
  have : i.natAbs < 2 ^ 200 := by
    have h' : i < ((2 ^ 200 : Nat) : Int) := by exact_mod_cast h
    omega
  omega
theorem ixN30 : ixN 3 0 = some 0 := rfl
theorem ixN32 : ixN 3 2 = some 2 := rfl
theorem e_draw {B : Nat} {s : List PyData} (S : Sm B s) (hB : B ≤ 1000000) {n : Int} (h1 : 1 ≤ n) (h2 : n ≤ 1000000) : ∃ r s', M__law_draw s [.int n] = some (.int r, s') ∧ 0 ≤ r ∧ r < n ∧ Sm (B + 1) s' := by
  obtain ⟨a, b, c, rfl, ha, hb, hb2, hc, hc2⟩ := S
  have x0 : ∀ a b c : Int, oIx (.list [.int a, .int b, .int c]) (.int 0) = some (.int a) := fun _ _ _ => rfl
  have x1 : ∀ a b c : Int, oIx (.list [.int a, .int b, .int c]) (.int 1) = some (.int b) := fun _ _ _ => rfl
  have x2 : ∀ a b c : Int, oIx (.list [.int a, .int b, .int c]) (.int 2) = some (.int c) := fun _ _ _ => rfl
  have n1 : n.natAbs < 2 ^ 1000 := small1000 (by omega) (by omega)
  have M0 : oMod (.int a) (.int n) = some (.int (a % n)) := p_mod (by omega)
  have D0 : oFDiv (.int a) (.int n) = some (.int (a / n)) := p_fdiv (by omega) n1
  by_cases hp : 0 < a
  · refine ⟨a % n, [.int (a / n), .int b, .int c], ?_, Int.emod_nonneg _ (by omega), Int.emod_lt_of_pos _ (by omega), a / n, b, c, rfl, Int.ediv_nonneg ha (by omega), hb, hb2, hc, by omega⟩
    unfold M__law_draw m__law_draw
    simp only [mir, mirL, mirN, startR, startL, mSeq, mNil, mFrz, mSet, mAsg, mPar, mNew, mNew2, mDrop, mRet, mRetN, mIf, mRaise, mFor, mWhile, mSetIx, xbind, liR, liO, lS, lST, lSs, Out.thn, outR, own0, dVar, dOwn, dC, dOp, dChain, dB, asB, dAnd, dOr, dNot, dAndV, dOrV, dNotV, dIf, dNeg, dNil, dCons, dTup, dLst, dCall, dBi, dSl, dNo, dSo, dM1, dIsi, dItems, dRng, dZip, dLc, dYes, dFmt, wipeR, setR, gtN, gtSeq, gtCons, gtNil, sNil, sCons, sOp, sB, sNotT, sTup, sLst, sBi, sCall, sSl, sOwn, sCallL, sRng, sItems, sLc, sYes, sTry, nLst, nList, nCall, Res.bind, ofO, frz, List.map_cons, List.map_nil, List.length_cons, List.length_nil, List.replicate, List.cons_append, List.nil_append, List.getElem?_cons_zero, List.getElem?_cons_succ, List.set_cons_zero, List.set_cons_succ, List.foldl_cons, List.foldl_nil, Nat.reduceAdd, Nat.reduceSub, Nat.reduceLeDiff, Nat.zero_le, Nat.zero_add, Option.bind_some, Option.map_some, Option.bind_none, Option.map_none, if_true, if_false, reduceIte, Bool.not_true, Bool.not_false, Bool.false_eq_true, x0, p_gt, decide_eq_true hp, M0, D0, ixN30]
  · have q1 : (1000037 : Int).natAbs < 2 ^ 1000 := by decide +kernel
    have q2 : (7907 : Int).natAbs < 2 ^ 1000 := by decide +kernel
    have qc : (c + 1).natAbs < 2 ^ 1000 := small1000 (by omega) (by omega)
    generalize e1 : (b + 1000037 * (c + 1)) % 2305843009213693951 = one
    have o1 : 0 ≤ one := by rw [← e1]; exact Int.emod_nonneg _ (by decide)
    have o2 : one < 2305843009213693951 := by rw [← e1]; exact Int.emod_lt_of_pos _ (by decide)
    have qo : one.natAbs < 2 ^ 1000 := small1000 o1 (by omega)
    have MA : oMul (.int 1000037) (.int (c + 1)) = some (.int (1000037 * (c + 1))) := p_mul q1 qc
    have MB : oMul (.int one) (.int one) = some (.int (one * one)) := p_mul qo qo
    have MC : oMul (.int (one * one % 2305843009213693921)) (.int one) = some (.int (one * one % 2305843009213693921 * one)) := p_mul (small1000 (Int.emod_nonneg _ (by decide)) (by have := Int.emod_lt_of_pos (one * one) (show (0 : Int) < 2305843009213693921 by decide); omega)) qo
    have MD : oMul (.int 7907) (.int (c + 1)) = some (.int (7907 * (c + 1))) := p_mul q2 qc
    have R1 : ∀ x, oMod (.int x) (.int 2305843009213693951) = some (.int (x % 2305843009213693951)) := fun x => p_mod (by decide)
    have R2 : ∀ x, oMod (.int x) (.int 2305843009213693921) = some (.int (x % 2305843009213693921)) := fun x => p_mod (by decide)
    have R3 : ∀ x, oMod (.int x) (.int 2305843009213693907) = some (.int (x % 2305843009213693907)) := fun x => p_mod (by decide)
    have R4 : ∀ x, oFDiv (.int x) (.int 4099) = some (.int (x / 4099)) := fun x => p_fdiv (by decide) (by decide +kernel)
    have R5 : ∀ x, oMod (.int x) (.int n) = some (.int (x % n)) := fun x => p_mod (by omega)
    refine ⟨_, [.int a, .int b, .int (c + 1)], ?_, Int.emod_nonneg ((one * one % 2305843009213693921 * one + 7907 * (c + 1)) % 2305843009213693907 / 4099) (show n ≠ 0 by omega), Int.emod_lt_of_pos _ (by omega), a, b, c + 1, rfl, ha, hb, hb2, by omega, by omega⟩
    unfold M__law_draw m__law_draw
    simp only [mir, mirL, mirN, startR, startL, mSeq, mNil, mFrz, mSet, mAsg, mPar, mNew, mNew2, mDrop, mRet, mRetN, mIf, mRaise, mFor, mWhile, mSetIx, xbind, liR, liO, lS, lST, lSs, Out.thn, outR, own0, dVar, dOwn, dC, dOp, dChain, dB, asB, dAnd, dOr, dNot, dAndV, dOrV, dNotV, dIf, dNeg, dNil, dCons, dTup, dLst, dCall, dBi, dSl, dNo, dSo, dM1, dIsi, dItems, dRng, dZip, dLc, dYes, dFmt, wipeR, setR, gtN, gtSeq, gtCons, gtNil, sNil, sCons, sOp, sB, sNotT, sTup, sLst, sBi, sCall, sSl, sOwn, sCallL, sRng, sItems, sLc, sYes, sTry, nLst, nList, nCall, Res.bind, ofO, frz, List.map_cons, List.map_nil, List.length_cons, List.length_nil, List.replicate, List.cons_append, List.nil_append, List.getElem?_cons_zero, List.getElem?_cons_succ, List.set_cons_zero, List.set_cons_succ, List.foldl_cons, List.foldl_nil, Nat.reduceAdd, Nat.reduceSub, Nat.reduceLeDiff, Nat.zero_le, Nat.zero_add, Option.bind_some, Option.map_some, Option.bind_none, Option.map_none, if_true, if_false, reduceIte, Bool.not_true, Bool.not_false, Bool.false_eq_true, x0, x1, x2, p_gt, decide_eq_false hp, p_add, ixN32, MA, R1, e1, MB, R2, MC, MD, R3, R4, R5]
theorem ix_in {l : List PyData} {r : Int} (h0 : 0 ≤ r) (h1 : r < l.length) : ∃ d, oIx (.list l) (.int r) = some d ∧ oIx (.tuple l) (.int r) = some d ∧ d ∈ l := by
  have hn : r.toNat < l.length := by omega
  have e : atI l r = some l[r.toNat] := by
    unfold atI ixN
    rw [if_pos h0, if_pos (by omega)]
    exact List.getElem?_eq_getElem hn
  exact ⟨l[r.toNat], e, e, List.getElem_mem hn⟩
theorem e_pick {B : Nat} {s : List PyData} (S : Sm B s) (hB : B ≤ 1000000) {l : List PyData} (h1 : 1 ≤ l.length) (h2 : l.length ≤ 1000000) : ∃ d s', (M__law_pick s [.list l] = some (d, s') ∧ M__law_pick s [.tuple l] = some (d, s')) ∧ d ∈ l ∧ Sm (B + 1) s' := by
  obtain ⟨r, s', e, r0, r1, S'⟩ := e_draw S hB (n := l.length) (by omega) (by omega)
  obtain ⟨d, e1, e2, hd⟩ := ix_in r0 r1
  refine ⟨d, s', ⟨?_, ?_⟩, hd, S'⟩
  · unfold M__law_pick m__law_pick
    simp only [mir, mirL, mirN, startR, startL, mSeq, mNil, mFrz, mSet, mAsg, mPar, mNew, mNew2, mDrop, mRet, mRetN, mIf, mRaise, mFor, mWhile, mSetIx, xbind, liR, liO, lS, lST, lSs, Out.thn, outR, own0, dVar, dOwn, dC, dOp, dChain, dB, asB, dAnd, dOr, dNot, dAndV, dOrV, dNotV, dIf, dNeg, dNil, dCons, dTup, dLst, dCall, dBi, dSl, dNo, dSo, dM1, dIsi, dItems, dRng, dZip, dLc, dYes, dFmt, wipeR, setR, gtN, gtSeq, gtCons, gtNil, sNil, sCons, sOp, sB, sNotT, sTup, sLst, sBi, sCall, sSl, sOwn, sCallL, sRng, sItems, sLc, sYes, sTry, nLst, nList, nCall, Res.bind, ofO, frz, List.map_cons, List.map_nil, List.length_cons, List.length_nil, List.replicate, List.cons_append, List.nil_append, List.getElem?_cons_zero, List.getElem?_cons_succ, List.set_cons_zero, List.set_cons_succ, List.foldl_cons, List.foldl_nil, Nat.reduceAdd, Nat.reduceSub, Nat.reduceLeDiff, Nat.zero_le, Nat.zero_add, Option.bind_some, Option.map_some, Option.bind_none, Option.map_none, if_true, if_false, reduceIte, Bool.not_true, Bool.not_false, Bool.false_eq_true, p_lenl, e, e1]
  · unfold M__law_pick m__law_pick
    simp only [mir, mirL, mirN, startR, startL, mSeq, mNil, mFrz, mSet, mAsg, mPar, mNew, mNew2, mDrop, mRet, mRetN, mIf, mRaise, mFor, mWhile, mSetIx, xbind, liR, liO, lS, lST, lSs, Out.thn, outR, own0, dVar, dOwn, dC, dOp, dChain, dB, asB, dAnd, dOr, dNot, dAndV, dOrV, dNotV, dIf, dNeg, dNil, dCons, dTup, dLst, dCall, dBi, dSl, dNo, dSo, dM1, dIsi, dItems, dRng, dZip, dLc, dYes, dFmt, wipeR, setR, gtN, gtSeq, gtCons, gtNil, sNil, sCons, sOp, sB, sNotT, sTup, sLst, sBi, sCall, sSl, sOwn, sCallL, sRng, sItems, sLc, sYes, sTry, nLst, nList, nCall, Res.bind, ofO, frz, List.map_cons, List.map_nil, List.length_cons, List.length_nil, List.replicate, List.cons_append, List.nil_append, List.getElem?_cons_zero, List.getElem?_cons_succ, List.set_cons_zero, List.set_cons_succ, List.foldl_cons, List.foldl_nil, Nat.reduceAdd, Nat.reduceSub, Nat.reduceLeDiff, Nat.zero_le, Nat.zero_add, Option.bind_some, Option.map_some, Option.bind_none, Option.map_none, if_true, if_false, reduceIte, Bool.not_true, Bool.not_false, Bool.false_eq_true, p_lent, e, e2]
/-! ### mixing -/
theorem p_pop {l : List PyData} {r : Int} (h0 : 0 ≤ r) (h1 : r < l.length) (h2 : l.length ≤ 1000000) : ∃ k d, mPopAt l [.int r] = some (d, l.eraseIdx k) ∧ l[k]? = some d ∧ k < l.length := by
  have hn : r.toNat < l.length := by omega
  refine ⟨r.toNat, l[r.toNat], ?_, List.getElem?_eq_getElem hn, hn⟩
  show (if -(2 ^ 63) ≤ r ∧ r < 2 ^ 63 then (seqIndex? r l.length).bind fun k => (l[k]?).map fun d => (d, l.eraseIdx k) else none) = _
  rw [if_pos (by omega)]
  have e : seqIndex? r l.length = some r.toNat := by
    unfold seqIndex?
    simp only [show ¬ r < 0 by omega, if_false]
    rw [if_pos]
    rw [Bool.and_eq_true, decide_eq_true_iff, decide_eq_true_iff]
    exact ⟨h0, h1⟩
  rw [e]
  show (l[r.toNat]?).map _ = _
  rw [List.getElem?_eq_getElem hn]
  rfl
theorem erase_map {α β : Type} (f : α → β) : ∀ (l : List α) (k : Nat), (l.map f).eraseIdx k = (l.eraseIdx k).map f
  | [], _ => rfl
  | _ :: _, 0 => rfl
  | a :: l, k + 1 => congrArg (f a :: ·) (erase_map f l k)
theorem erase_perm {α : Type} : ∀ {l : List α} {k : Nat} (h : k < l.length), (l[k] :: l.eraseIdx k).Perm l
  | [], _, h => by simp at h
  | a :: l, 0, _ => List.Perm.refl _
  | a :: l, k + 1, h => by
    have hk : k < l.length := by simpa using h
    have ih := erase_perm hk
    exact (List.Perm.swap a l[k] (l.eraseIdx k)).trans (ih.cons a)
theorem sh_strs {zs : List Str} (h : ∀ z ∈ zs, PyData.strOk z = true) : SeqAt.shaped (.list (strsD zs)) = true := sh_list (k := 0) (by decide) fun d hd => by
  obtain ⟨z, hz, rfl⟩ := List.mem_map.mp hd
  exact ⟨h z hz, Nat.le_refl _⟩
theorem mix_loop {X : PyData} : ∀ (n : Nat) (left found : List Str) (s : List PyData) (B : Nat), left.length + 1 ≤ n → (∀ z ∈ left, PyData.strOk z = true) → Sm B s → B + left.length ≤ 1000000 → left.length + found.length ≤ 1000 →
    ∃ found' s', whileL (liR (dB (dOp oNe (dOwn 2) (dLst dNil)))) (mSeq (mDrop (liO (sOwn 3 mAppend (sCons (sOwn 2 mPopAt (sCons (sOwn 0 M__law_draw (sCons (lS (dBi bLen (dCons (dOwn 2) dNil))) sNil)) sNil)) sNil)))) mNil) n [.own s, .dat X, .own (strsD left), .own (strsD found)] = .nx [.own s', .dat X, .own [], .own (strsD found')] ∧ found'.Perm (left ++ found) ∧ Sm (B + left.length) s'
  | 0, left, found, s, B, h, _, _, _, _ => by omega
  | n + 1, left, found, s, B, h, ho, S, hB, hf => by
    have hN : oNe (.list (strsD left)) (.list []) = some (.bool (!(strsD left).isEmpty)) := by rw [p_ne (sh_strs ho) sh_nil, eqv_nil]
    unfold whileL
    cases left with
    | nil =>
      refine ⟨found, s, ?_, List.Perm.refl _, S⟩
      have hN' : oNe (.list (strsD [])) (.list []) = some (.bool false) := hN
      simp only [mir, mirL, mirN, startR, startL, mSeq, mNil, mFrz, mSet, mAsg, mPar, mNew, mNew2, mDrop, mRet, mRetN, mIf, mRaise, mFor, mWhile, mSetIx, xbind, liR, liO, lS, lST, lSs, Out.thn, outR, own0, dVar, dOwn, dC, dOp, dChain, dB, asB, dAnd, dOr, dNot, dAndV, dOrV, dNotV, dIf, dNeg, dNil, dCons, dTup, dLst, dCall, dBi, dSl, dNo, dSo, dM1, dIsi, dItems, dRng, dZip, dLc, dYes, dFmt, wipeR, setR, gtN, gtSeq, gtCons, gtNil, sNil, sCons, sOp, sB, sNotT, sTup, sLst, sBi, sCall, sSl, sOwn, sCallL, sRng, sItems, sLc, sYes, sTry, nLst, nList, nCall, Res.bind, ofO, frz, List.map_cons, List.map_nil, List.length_cons, List.length_nil, List.replicate, List.cons_append, List.nil_append, List.getElem?_cons_zero, List.getElem?_cons_succ, List.set_cons_zero, List.set_cons_succ, List.foldl_cons, List.foldl_nil, Nat.reduceAdd, Nat.reduceSub, Nat.reduceLeDiff, Nat.zero_le, Nat.zero_add, Option.bind_some, Option.map_some, Option.bind_none, Option.map_none, if_true, if_false, reduceIte, Bool.not_true, Bool.not_false, Bool.false_eq_true, hN']
      rfl
    | cons z r =>
      have hN' : oNe (.list (strsD (z :: r))) (.list []) = some (.bool true) := hN
      have hl : (strsD (z :: r)).length = (z :: r).length := strs_len _
      obtain ⟨q, s1, e1, q0, q1, S1⟩ := e_draw S (by omega) (n := ((strsD (z :: r)).length : Nat)) (by rw [hl]; simp only [List.length_cons]; omega) (by rw [hl]; simp only [List.length_cons] at hB ⊢; omega)
      obtain ⟨k, d, e2, e3, hk⟩ := p_pop q0 q1 (by rw [hl]; simp only [List.length_cons] at hB ⊢; omega)
      rw [hl] at hk
      have hd : d = .str (z :: r)[k] := by
        unfold strsD at e3
        rw [List.getElem?_map, List.getElem?_eq_getElem hk] at e3
        cases e3
        rfl
      have ee : (strsD (z :: r)).eraseIdx k = strsD ((z :: r).eraseIdx k) := by
        unfold strsD
        exact erase_map PyData.str _ _
      have hp : ((z :: r)[k] :: (z :: r).eraseIdx k).Perm (z :: r) := erase_perm hk
      have len' : ((z :: r).eraseIdx k).length + 1 = (z :: r).length := by
        have := hp.length_eq
        simpa using this
      have hA : mAppend (strsD found) [d] = some (.none, strsD (found ++ [(z :: r)[k]])) := by
        show (if (strsD found).length < 1000000 then some (PyData.none, strsD found ++ [d]) else none) = _
        rw [if_pos (by rw [strs_len]; omega), hd]
        unfold strsD
        rw [List.map_append]
        rfl
      rw [ee] at e2
      obtain ⟨found', s', i1, i2, i3⟩ := mix_loop (X := X) n ((z :: r).eraseIdx k) (found ++ [(z :: r)[k]]) s1 (B + 1) (by omega) (fun y hy => ho y (List.mem_of_mem_eraseIdx hy)) S1 (by omega) (by rw [List.length_append, List.length_singleton]; omega)
      refine ⟨found', s', ?_, i2.trans ?_, i3.up (by omega)⟩
      · simp only [mir, mirL, mirN, startR, startL, mSeq, mNil, mFrz, mSet, mAsg, mPar, mNew, mNew2, mDrop, mRet, mRetN, mIf, mRaise, mFor, mWhile, mSetIx, xbind, liR, liO, lS, lST, lSs, Out.thn, outR, own0, dVar, dOwn, dC, dOp, dChain, dB, asB, dAnd, dOr, dNot, dAndV, dOrV, dNotV, dIf, dNeg, dNil, dCons, dTup, dLst, dCall, dBi, dSl, dNo, dSo, dM1, dIsi, dItems, dRng, dZip, dLc, dYes, dFmt, wipeR, setR, gtN, gtSeq, gtCons, gtNil, sNil, sCons, sOp, sB, sNotT, sTup, sLst, sBi, sCall, sSl, sOwn, sCallL, sRng, sItems, sLc, sYes, sTry, nLst, nList, nCall, Res.bind, ofO, frz, List.map_cons, List.map_nil, List.length_cons, List.length_nil, List.replicate, List.cons_append, List.nil_append, List.getElem?_cons_zero, List.getElem?_cons_succ, List.set_cons_zero, List.set_cons_succ, List.foldl_cons, List.foldl_nil, Nat.reduceAdd, Nat.reduceSub, Nat.reduceLeDiff, Nat.zero_le, Nat.zero_add, Option.bind_some, Option.map_some, Option.bind_none, Option.map_none, if_true, if_false, reduceIte, Bool.not_true, Bool.not_false, Bool.false_eq_true, hN', p_lenl, e1, e2, hA, i1]
      · have p2 : ((z :: r).eraseIdx k ++ (found ++ [(z :: r)[k]])).Perm ((z :: r)[k] :: (z :: r).eraseIdx k ++ found) := by
          rw [← List.append_assoc]
          exact List.perm_append_comm.trans (by rw [List.singleton_append]; exact List.Perm.refl _)
        exact p2.trans (hp.append_right found)
theorem e_mixed {B : Nat} {s : List PyData} (S : Sm B s) {zs : List Str} (ho : ∀ z ∈ zs, PyData.strOk z = true) (hl : zs.length ≤ 1000) (hB : B + zs.length ≤ 1000000) : ∃ zs' s', M__law_mixed s [.list (strsD zs)] = some (.list (strsD zs'), s') ∧ zs'.Perm zs ∧ Sm (B + zs.length) s' := by
  obtain ⟨f, s', i1, i2, i3⟩ := mix_loop (X := .list (strsD zs)) (zs.length + 1) zs [] s B (Nat.le_refl _) ho S hB (by simpa using hl)
  have hf : fu__law_mixed [.own s, .dat (.list (strsD zs)), .own (strsD zs), .own []] = zs.length + 1 := by
    show (strsD zs).length + 1 = _
    rw [strs_len]
  have i1' : whileL (liR (dB (dOp oNe (dOwn 2) (dLst dNil)))) (mSeq (mDrop (liO (sOwn 3 mAppend (sCons (sOwn 2 mPopAt (sCons (sOwn 0 M__law_draw (sCons (lS (dBi bLen (dCons (dOwn 2) dNil))) sNil)) sNil)) sNil)))) mNil) (zs.length + 1) [.own s, .dat (.list (strsD zs)), .own (strsD zs), .own []] = .nx [.own s', .dat (.list (strsD zs)), .own [], .own (strsD f)] := i1
  refine ⟨f, s', ?_, by simpa using i2, i3⟩
  unfold M__law_mixed m__law_mixed
  simp only [mir, mirL, mirN, startR, startL, mSeq, mNil, mFrz, mSet, mAsg, mPar, mNew, mNew2, mDrop, mRet, mRetN, mIf, mRaise, mFor, mWhile, mSetIx, xbind, liR, liO, lS, lST, lSs, Out.thn, outR, own0, dVar, dOwn, dC, dOp, dChain, dB, asB, dAnd, dOr, dNot, dAndV, dOrV, dNotV, dIf, dNeg, dNil, dCons, dTup, dLst, dCall, dBi, dSl, dNo, dSo, dM1, dIsi, dItems, dRng, dZip, dLc, dYes, dFmt, wipeR, setR, gtN, gtSeq, gtCons, gtNil, sNil, sCons, sOp, sB, sNotT, sTup, sLst, sBi, sCall, sSl, sOwn, sCallL, sRng, sItems, sLc, sYes, sTry, nLst, nList, nCall, Res.bind, ofO, frz, List.map_cons, List.map_nil, List.length_cons, List.length_nil, List.replicate, List.cons_append, List.nil_append, List.getElem?_cons_zero, List.getElem?_cons_succ, List.set_cons_zero, List.set_cons_succ, List.foldl_cons, List.foldl_nil, Nat.reduceAdd, Nat.reduceSub, Nat.reduceLeDiff, Nat.zero_le, Nat.zero_add, Option.bind_some, Option.map_some, Option.bind_none, Option.map_none, if_true, if_false, reduceIte, Bool.not_true, Bool.not_false, Bool.false_eq_true, hf, i1']
end K77
end

section
set_option Elab.async false
set_option linter.all false
set_option maxRecDepth 100000
set_option maxHeartbeats 4000000
namespace K77
open D PySem L2 TL NumText
/-! ### an alphabet -/
def ten : List Str := ["a", "b", "c", "done", "go", "load", "p", "ship", "wait", "x"]
theorem ten_acts : ∀ a ∈ ten, a ∈ acts := fun a h => by
  unfold ten at h
  unfold acts
  simp only [List.mem_cons, List.not_mem_nil, or_false] at h ⊢
  rcases h with h | h | h | h | h | h | h | h | h | h <;> simp [h]
theorem ten_nodup : ten.Nodup := by decide +kernel
def leD : PyData → PyData → Bool := PySem.W.dataLe false id
theorem leD_total : PySem.W.TotalLe leD := by
  unfold leD PySem.W.dataLe
  exact PySem.W.sortLe_total _ _ _
theorem leD_str (x y : Str) : leD (.str x) (.str y) = !PySem.W.dataLt (.str y) (.str x) := rfl
theorem ten_lt : ∀ x ∈ ten, ∀ y ∈ ten, x ≠ y → leD (.str x) (.str y) = true → PySem.W.dataLt (.str x) (.str y) = true := by
  have h : (ten.all fun x => ten.all fun y => decide (x = y) || !(leD (.str x) (.str y)) || PySem.W.dataLt (.str x) (.str y)) = true := by decide +kernel
  intro x hx y hy ne le
  have h1 := List.all_eq_true.mp (List.all_eq_true.mp h x hx) y hy
  rw [le] at h1
  simpa [ne] using h1
theorem strs_back : ∀ {l : List PyData}, (∀ d ∈ l, ∃ z, d = .str z) → ∃ zs, l = strsD zs
  | [], _ => ⟨[], rfl⟩
  | d :: l, h => by
    obtain ⟨z, rfl⟩ := h d List.mem_cons_self
    obtain ⟨zs, rfl⟩ := strs_back (l := l) fun e m => h e (List.mem_cons_of_mem _ m)
    exact ⟨z :: zs, rfl⟩
theorem mem_strsD {z : Str} {zs : List Str} (h : PyData.str z ∈ strsD zs) : z ∈ zs := by
  obtain ⟨y, hy, e⟩ := List.mem_map.mp h
  cases e
  exact hy
theorem e_sorted {zs : List Str} (h : ∀ z ∈ zs, z ∈ ten) (nd : zs.Nodup) (hl : zs.length ≤ 10) : ∃ al, bSorted [.list (strsD zs)] = some (.list (strsD al)) ∧ (∀ z ∈ al, z ∈ ten) ∧ al.length = zs.length ∧ al.Pairwise (fun x y => PySem.W.dataLt (.str x) (.str y) = true) := by
  have ok : sortOkB (strsD zs) = true := by
    unfold sortOkB
    have c1 : PyData.canLayAll0 (strsD zs) = true := canAll fun d hd => by
      obtain ⟨z, hz, rfl⟩ := List.mem_map.mp hd
      exact act_ok' (ten_acts z (h z hz))
    have c2 : ((strsD zs).all fun d => (strsD zs).all fun e => PySem.W.alike d e) = true := List.all_eq_true.mpr fun d hd => List.all_eq_true.mpr fun e he => by
      obtain ⟨x, _, rfl⟩ := List.mem_map.mp hd
      obtain ⟨y, _, rfl⟩ := List.mem_map.mp he
      rfl
    have c4 : ((strsD zs).all fun d => decide (d.depth ≤ 50)) = true := List.all_eq_true.mpr fun d hd => by
      obtain ⟨x, _, rfl⟩ := List.mem_map.mp hd
      rfl
    have c5 : (strsD zs).length ≤ 100000 := by rw [strs_len]; omega
    simp only [Bool.and_eq_true, Bool.or_eq_true, decide_eq_true_eq]
    exact ⟨⟨⟨⟨c1, c2⟩, .inr (List.all_eq_true.mpr fun d hd => by
      obtain ⟨x, _, rfl⟩ := List.mem_map.mp hd
      rfl)⟩, c4⟩, c5⟩
  have perm : ((strsD zs).mergeSort leD).Perm (strsD zs) := List.mergeSort_perm _ _
  obtain ⟨al, e⟩ := strs_back (l := (strsD zs).mergeSort leD) fun d hd => by
    obtain ⟨z, _, e⟩ := List.mem_map.mp (perm.mem_iff.mp hd)
    exact ⟨z, e.symm⟩
  have mem : ∀ z ∈ al, z ∈ zs := fun z hz => mem_strsD (perm.mem_iff.mp (by rw [e]; exact List.mem_map.mpr ⟨z, hz, rfl⟩))
  have len : al.length = zs.length := by
    have := perm.length_eq
    rw [e, strs_len, strs_len] at this
    exact this
  have srt : ((strsD zs).mergeSort leD).Pairwise fun a b => leD a b = true := List.pairwise_mergeSort (fun a b c => leD_total.trans a b c) (fun a b => by
    rcases leD_total.total a b with q | q <;> simp [q]) _
  have ndm : (strsD al).Nodup := by
    rw [← e]
    exact perm.nodup_iff.mpr (List.Pairwise.map _ (fun x y (q : x ≠ y) z => q (by cases z; rfl)) nd)
  rw [e] at srt
  refine ⟨al, ?_, fun z hz => h z (mem z hz), len, ?_⟩
  · show (if sortOkB (strsD zs) = true then some (PyData.list ((strsD zs).mergeSort leD)) else none) = _
    rw [if_pos ok, e]
  · have s2 : al.Pairwise fun x y => leD (.str x) (.str y) = true := List.pairwise_map.mp srt
    have n2 : al.Pairwise fun x y => x ≠ y := (List.pairwise_map.mp ndm).imp fun q z => q (by rw [z])
    have key : ∀ {l : List Str}, (∀ z ∈ l, z ∈ ten) → l.Pairwise (fun x y => leD (.str x) (.str y) = true) → l.Pairwise (fun x y => x ≠ y) → l.Pairwise fun x y => PySem.W.dataLt (.str x) (.str y) = true := by
      intro l
      induction l with
      | nil => exact fun _ _ _ => .nil
      | cons x l ih =>
        intro m p1 p2
        obtain ⟨a1, a2⟩ := List.pairwise_cons.mp p1
        obtain ⟨b1, b2⟩ := List.pairwise_cons.mp p2
        exact List.pairwise_cons.mpr ⟨fun y hy => ten_lt x (m x List.mem_cons_self) y (m y (List.mem_cons_of_mem _ hy)) (b1 y hy) (a1 y hy), ih (fun z hz => m z (List.mem_cons_of_mem _ hz)) a2 b2⟩
    exact key (fun z hz => h z (mem z hz)) s2 n2
theorem cut_to (l : List PyData) (n : Nat) : cutP l none (some (n : Int)) = l.take n := by
  show (l.drop 0).take (HT.sIx l.length l.length (some ((n : Nat) : Int)) - 0) = _
  rw [HT.sIx_nat, List.drop_zero, Nat.sub_zero]
  by_cases h : n ≤ l.length
  · rw [Nat.min_eq_left h]
  · rw [Nat.min_eq_right (by omega), List.take_of_length_le (by omega), List.take_of_length_le (by omega)]
theorem e_alphabet {B : Nat} {s : List PyData} (S : Sm B s) (hB : B ≤ 900000) {n : Nat} (h1 : 1 ≤ n) (h5 : n ≤ 5) : ∃ al s', M__law_alphabet s [.int n] = some (.tuple (strsD al), s') ∧ Al al ∧ Sm (B + 10) s' := by
  obtain ⟨zs, s', e, p, S'⟩ := e_mixed S (zs := ten) (fun z hz => act_ok' (ten_acts z hz)) (by decide) (by show B + 10 ≤ _; omega)
  have hl : zs.length = 10 := p.length_eq
  have e' : M__law_mixed s [.list [.str "a", .str "b", .str "c", .str "done", .str "go", .str "load", .str "p", .str "ship", .str "wait", .str "x"]] = some (.list (strsD zs), s') := e
  have S1 : oSl (.list (strsD zs)) none (some (n : Int)) = some (.list (strsD (zs.take n))) := by
    show some (PyData.list (cutP (strsD zs) none (some (n : Int)))) = _
    rw [cut_to]
    unfold strsD
    rw [List.map_take]
  obtain ⟨al, e2, m, l, u⟩ := e_sorted (zs := zs.take n) (fun z hz => p.mem_iff.mp (List.mem_of_mem_take hz)) ((List.take_sublist n zs).nodup (p.nodup_iff.mpr ten_nodup)) (by rw [List.length_take]; omega)
  have la : al.length = n := by rw [l, List.length_take]; omega
  refine ⟨al, s', ?_, ⟨by omega, by omega, fun a ha => ten_acts a (m a ha), u⟩, S'⟩
  unfold M__law_alphabet m__law_alphabet
  simp only [mir, mirL, mirN, startR, startL, mSeq, mNil, mFrz, mSet, mAsg, mPar, mNew, mNew2, mDrop, mRet, mRetN, mIf, mRaise, mFor, mWhile, mSetIx, xbind, liR, liO, lS, lST, lSs, Out.thn, outR, own0, dVar, dOwn, dC, dOp, dChain, dB, asB, dAnd, dOr, dNot, dAndV, dOrV, dNotV, dIf, dNeg, dNil, dCons, dTup, dLst, dCall, dBi, dSl, dNo, dSo, dM1, dIsi, dItems, dRng, dZip, dLc, dYes, dFmt, wipeR, setR, gtN, gtSeq, gtCons, gtNil, sNil, sCons, sOp, sB, sNotT, sTup, sLst, sBi, sCall, sSl, sOwn, sCallL, sRng, sItems, sLc, sYes, sTry, nLst, nList, nCall, Res.bind, ofO, frz, List.map_cons, List.map_nil, List.length_cons, List.length_nil, List.replicate, List.cons_append, List.nil_append, List.getElem?_cons_zero, List.getElem?_cons_succ, List.set_cons_zero, List.set_cons_succ, List.foldl_cons, List.foldl_nil, Nat.reduceAdd, Nat.reduceSub, Nat.reduceLeDiff, Nat.zero_le, Nat.zero_add, Option.bind_some, Option.map_some, Option.bind_none, Option.map_none, if_true, if_false, reduceIte, Bool.not_true, Bool.not_false, Bool.false_eq_true, e', S1, e2, tup_of]
/-! ### comprehensions over draws -/
theorem slc_draws {i N : Nat} {e : DS} {vs : List Nat} {P : PyData → Prop} {R : Nat → Rho → Prop} (step : ∀ k ρ d, k < N → R k ρ → ∃ y ρ', e (setR (wipeR ρ vs) [(i, d)]) = some (y, ρ') ∧ P y ∧ R (k + 1) ρ') : ∀ (ds : List PyData) (k : Nat) (ρ : Rho), k + ds.length ≤ N → R k ρ → ∃ ys ρ', slc (gtN i) sYes e vs ρ ds = some (ys, ρ') ∧ ys.length = ds.length ∧ (∀ y ∈ ys, P y) ∧ R (k + ds.length) ρ'
  | [], k, ρ, _, h => ⟨[], ρ, rfl, rfl, fun y m => (List.not_mem_nil m).elim, h⟩
  | d :: ds, k, ρ, hN, h => by
    rw [List.length_cons] at hN
    obtain ⟨y, ρ1, e1, h1, h2⟩ := step k ρ d (by omega) h
    obtain ⟨ys, ρ2, e2, h3, h4, h5⟩ := slc_draws (i := i) step ds (k + 1) ρ1 (by omega) h2
    refine ⟨y :: ys, ρ2, ?_, by rw [List.length_cons, List.length_cons, h3], fun z m => (List.mem_cons.mp m).elim (fun q => by rw [q]; exact h1) (h4 z), by rw [List.length_cons, show k + (ds.length + 1) = k + 1 + ds.length by omega]; exact h5⟩
    unfold slc
    simp only [gtN, sYes, Option.bind_some, if_true, e1, e2]
theorem rng_is (r : Int) (h0 : 0 ≤ r) (h1 : r < 1000000) : ∃ l, rngP [.int r] = some l ∧ (l.length : Int) = r := by
  refine ⟨_, if_pos (by omega), ?_⟩
  rw [List.length_map, List.length_range]
  omega
theorem strs_of {al : List Str} : ∀ {ys : List PyData}, (∀ y ∈ ys, y ∈ strsD al) → ∃ zs, ys = strsD zs ∧ ∀ z ∈ zs, z ∈ al := fun {ys} h => by
  obtain ⟨zs, e⟩ := strs_back (l := ys) fun d hd => by
    obtain ⟨z, _, q⟩ := List.mem_map.mp (h d hd)
    exact ⟨z, q.symm⟩
  exact ⟨zs, e, fun z hz => mem_strsD (h _ (by rw [e]; exact List.mem_map.mpr ⟨z, hz, rfl⟩))⟩
theorem e_word {B : Nat} {s : List PyData} (S : Sm B s) (hB : B ≤ 900000) {al : List Str} (A : Al al) : ∃ zs s', M__law_word s [.tuple (strsD al), .int 9] = some (.tuple (strsD zs), s') ∧ (∀ z ∈ zs, z ∈ al) ∧ zs.length ≤ 9 ∧ Sm (B + 20) s' := by
  obtain ⟨r, s1, e1, r0, r1, S1⟩ := e_draw S (by omega) (n := 10) (by decide) (by decide)
  obtain ⟨l, e2, hl⟩ := rng_is r r0 (by omega)
  have hal : (strsD al).length = al.length := strs_len al
  have h5 := A.five
  have h1 := A.one
  obtain ⟨ys, ρ', e3, h3, h4, b, t, rfl, Sk⟩ := slc_draws (N := l.length) (i := 3) (e := sOwn 0 M__law_pick (sCons (lS (dVar 1)) sNil)) (vs := [3]) (P := fun y => y ∈ strsD al) (R := fun k ρ => ∃ b t, ρ = [Itm.own b, .dat (.tuple (strsD al)), .dat (.int 9), t] ∧ Sm (B + 1 + k) b) (fun k ρ d hk h => by
    obtain ⟨b, t, rfl, Sb⟩ := h
    obtain ⟨d', s', ⟨_, p2⟩, m, S'⟩ := e_pick Sb (by omega) (l := strsD al) (by omega) (by omega)
    refine ⟨d', [.own s', .dat (.tuple (strsD al)), .dat (.int 9), .dat d], ?_, m, s', .dat d, rfl, S'⟩
    simp only [mir, mirL, mirN, startR, startL, mSeq, mNil, mFrz, mSet, mAsg, mPar, mNew, mNew2, mDrop, mRet, mRetN, mIf, mRaise, mFor, mWhile, mSetIx, xbind, liR, liO, lS, lST, lSs, Out.thn, outR, own0, dVar, dOwn, dC, dOp, dChain, dB, asB, dAnd, dOr, dNot, dAndV, dOrV, dNotV, dIf, dNeg, dNil, dCons, dTup, dLst, dCall, dBi, dSl, dNo, dSo, dM1, dIsi, dItems, dRng, dZip, dLc, dYes, dFmt, wipeR, setR, gtN, gtSeq, gtCons, gtNil, sNil, sCons, sOp, sB, sNotT, sTup, sLst, sBi, sCall, sSl, sOwn, sCallL, sRng, sItems, sLc, sYes, sTry, nLst, nList, nCall, Res.bind, ofO, frz, List.map_cons, List.map_nil, List.length_cons, List.length_nil, List.replicate, List.cons_append, List.nil_append, List.getElem?_cons_zero, List.getElem?_cons_succ, List.set_cons_zero, List.set_cons_succ, List.foldl_cons, List.foldl_nil, Nat.reduceAdd, Nat.reduceSub, Nat.reduceLeDiff, Nat.zero_le, Nat.zero_add, Option.bind_some, Option.map_some, Option.bind_none, Option.map_none, if_true, if_false, reduceIte, Bool.not_true, Bool.not_false, Bool.false_eq_true, p2]) l 0 [Itm.own s1, .dat (.tuple (strsD al)), .dat (.int 9), .un] (by omega) ⟨s1, .un, rfl, S1⟩
  obtain ⟨zs, rfl, hz⟩ := strs_of h4
  have hz2 : zs.length = l.length := by rw [← h3, strs_len]
  have ll : l.length ≤ 100000 := by omega
  have a9 : oAdd (.int 9) (.int 1) = some (.int 10) := rfl
  refine ⟨zs, b, ?_, hz, by omega, Sk.up (by omega)⟩
  unfold M__law_word m__law_word
  simp only [mir, mirL, mirN, startR, startL, mSeq, mNil, mFrz, mSet, mAsg, mPar, mNew, mNew2, mDrop, mRet, mRetN, mIf, mRaise, mFor, mWhile, mSetIx, xbind, liR, liO, lS, lST, lSs, Out.thn, outR, own0, dVar, dOwn, dC, dOp, dChain, dB, asB, dAnd, dOr, dNot, dAndV, dOrV, dNotV, dIf, dNeg, dNil, dCons, dTup, dLst, dCall, dBi, dSl, dNo, dSo, dM1, dIsi, dItems, dRng, dZip, dLc, dYes, dFmt, wipeR, setR, gtN, gtSeq, gtCons, gtNil, sNil, sCons, sOp, sB, sNotT, sTup, sLst, sBi, sCall, sSl, sOwn, sCallL, sRng, sItems, sLc, sYes, sTry, nLst, nList, nCall, Res.bind, ofO, frz, List.map_cons, List.map_nil, List.length_cons, List.length_nil, List.replicate, List.cons_append, List.nil_append, List.getElem?_cons_zero, List.getElem?_cons_succ, List.set_cons_zero, List.set_cons_succ, List.foldl_cons, List.foldl_nil, Nat.reduceAdd, Nat.reduceSub, Nat.reduceLeDiff, Nat.zero_le, Nat.zero_add, Option.bind_some, Option.map_some, Option.bind_none, Option.map_none, if_true, if_false, reduceIte, Bool.not_true, Bool.not_false, Bool.false_eq_true, a9, e1, e2, if_pos ll, e3, tup_of, resR]
  rfl
/-! ### numbers -/
theorem one_or : ∀ d ∈ [PyData.int 1, PyData.int (-1)], ∃ k : Int, d = .int k ∧ k.natAbs = 1 := fun d hd => by
  simp only [List.mem_cons, List.not_mem_nil, or_false] at hd
  rcases hd with rfl | rfl
  · exact ⟨1, rfl, rfl⟩
  · exact ⟨-1, rfl, rfl⟩
theorem e_integer {B : Nat} {s : List PyData} (S : Sm B s) (hB : B ≤ 900000) : ∃ i s', M__law_integer s [] = some (.int i, s') ∧ i.natAbs < big ∧ Sm (B + 4) s' := by
  obtain ⟨r1, s1, e1, a1, b1, S1⟩ := e_draw S (by omega) (n := 100) (by decide) (by decide)
  obtain ⟨r2, s2, e2, a2, b2, S2⟩ := e_draw S1 (by omega) (n := 7) (by decide) (by decide)
  obtain ⟨r3, s3, e3, a3, b3, S3⟩ := e_draw S2 (by omega) (n := 2) (by decide) (by decide)
  obtain ⟨d, s4, ⟨e4, _⟩, m, S4⟩ := e_pick S3 (by omega) (l := [.int 0, .int 1, .int 2, .int 10, .int 12, .int 907, .int r1, .int (10 ^ 39 + r2)]) (by simp) (by simp)
  have hd : ∃ j : Int, d = .int j ∧ 0 ≤ j ∧ j < 10 ^ 40 := by
    simp only [List.mem_cons, List.not_mem_nil, or_false] at m
    rcases m with rfl | rfl | rfl | rfl | rfl | rfl | rfl | rfl
    · exact ⟨0, rfl, by omega, by omega⟩
    · exact ⟨1, rfl, by omega, by omega⟩
    · exact ⟨2, rfl, by omega, by omega⟩
    · exact ⟨10, rfl, by omega, by omega⟩
    · exact ⟨12, rfl, by omega, by omega⟩
    · exact ⟨907, rfl, by omega, by omega⟩
    · exact ⟨r1, rfl, by omega, by omega⟩
    · exact ⟨_, rfl, by omega, by omega⟩
  obtain ⟨j, rfl, j0, j1⟩ := hd
  obtain ⟨k, x1, _, x3⟩ := ix_in (l := [.int 1, .int (-1)]) a3 b3
  obtain ⟨kk, rfl, hk⟩ := one_or k x3
  have hp : oPow (.int 10) (.int 39) = some (.int (10 ^ 39)) := by rfl
  have jn : j.natAbs < 10 ^ 40 := by
    have : j < ((10 ^ 40 : Nat) : Int) := by exact_mod_cast j1
    omega
  have hm : oMul (.int kk) (.int j) = some (.int (kk * j)) := p_mul (by rw [hk]; decide +kernel) (Nat.lt_trans jn (by decide +kernel))
  refine ⟨kk * j, s4, ?_, by rw [Int.natAbs_mul, hk, Nat.one_mul]; exact jn, S4⟩
  unfold M__law_integer m__law_integer
  simp only [mir, mirL, mirN, startR, startL, mSeq, mNil, mFrz, mSet, mAsg, mPar, mNew, mNew2, mDrop, mRet, mRetN, mIf, mRaise, mFor, mWhile, mSetIx, xbind, liR, liO, lS, lST, lSs, Out.thn, outR, own0, dVar, dOwn, dC, dOp, dChain, dB, asB, dAnd, dOr, dNot, dAndV, dOrV, dNotV, dIf, dNeg, dNil, dCons, dTup, dLst, dCall, dBi, dSl, dNo, dSo, dM1, dIsi, dItems, dRng, dZip, dLc, dYes, dFmt, wipeR, setR, gtN, gtSeq, gtCons, gtNil, sNil, sCons, sOp, sB, sNotT, sTup, sLst, sBi, sCall, sSl, sOwn, sCallL, sRng, sItems, sLc, sYes, sTry, nLst, nList, nCall, Res.bind, ofO, frz, List.map_cons, List.map_nil, List.length_cons, List.length_nil, List.replicate, List.cons_append, List.nil_append, List.getElem?_cons_zero, List.getElem?_cons_succ, List.set_cons_zero, List.set_cons_succ, List.foldl_cons, List.foldl_nil, Nat.reduceAdd, Nat.reduceSub, Nat.reduceLeDiff, Nat.zero_le, Nat.zero_add, Option.bind_some, Option.map_some, Option.bind_none, Option.map_none, if_true, if_false, reduceIte, Bool.not_true, Bool.not_false, Bool.false_eq_true, e1, e2, hp, p_add, x1, e3, e4, hm]
theorem e_lowest {t b : Int} (ht : t.natAbs < big) (hb : b.natAbs < big) (h1 : 1 ≤ b) : ∃ t' b', M__law_lowest [.int t, .int b] = .ok (fracD (t', b')) ∧ t'.natAbs < big ∧ b'.natAbs < big ∧ 1 ≤ b' ∧ Nat.gcd t'.natAbs b'.natAbs = 1 := by
  have eb : b = ((b.natAbs : Nat) : Int) := by omega
  have hb0 : 0 < b.natAbs := by omega
  have hC : M__law_common [.int (t.natAbs : Nat), .int b] = .ok (.int (Nat.gcd t.natAbs b.natAbs)) := by
    have q := e_law_common t.natAbs b.natAbs
    rw [← eb] at q
    exact q
  generalize hg : Nat.gcd t.natAbs b.natAbs = g at hC
  have g0 : 0 < g := by rw [← hg]; exact Nat.gcd_pos_of_pos_right _ hb0
  have gt : g ∣ t.natAbs := by rw [← hg]; exact Nat.gcd_dvd_left _ _
  have gb : g ∣ b.natAbs := by rw [← hg]; exact Nat.gcd_dvd_right _ _
  have gle : g ≤ b.natAbs := Nat.le_of_dvd hb0 gb
  have gz : (0 : Int) < g := by omega
  have gs : ((g : Nat) : Int).natAbs < 2 ^ 1000 := by
    have e : big < 2 ^ 1000 := by decide +kernel
    rw [Int.natAbs_natCast]
    omega
  have dvt : ((g : Nat) : Int) ∣ t := Int.ofNat_dvd_left.mpr gt
  have dvb : ((g : Nat) : Int) ∣ b := Int.ofNat_dvd_left.mpr gb
  have at' : (t / (g : Int)).natAbs = t.natAbs / g := by rw [Int.natAbs_ediv_of_dvd dvt, Int.natAbs_natCast]
  have ab' : (b / (g : Int)).natAbs = b.natAbs / g := by rw [Int.natAbs_ediv_of_dvd dvb, Int.natAbs_natCast]
  refine ⟨t / g, b / g, ?_, ?_, ?_, ?_, ?_⟩
  · unfold M__law_lowest m__law_lowest
    simp only [mir, mirL, mirN, startR, startL, mSeq, mNil, mFrz, mSet, mAsg, mPar, mNew, mNew2, mDrop, mRet, mRetN, mIf, mRaise, mFor, mWhile, mSetIx, xbind, liR, liO, lS, lST, lSs, Out.thn, outR, own0, dVar, dOwn, dC, dOp, dChain, dB, asB, dAnd, dOr, dNot, dAndV, dOrV, dNotV, dIf, dNeg, dNil, dCons, dTup, dLst, dCall, dBi, dSl, dNo, dSo, dM1, dIsi, dItems, dRng, dZip, dLc, dYes, dFmt, wipeR, setR, gtN, gtSeq, gtCons, gtNil, sNil, sCons, sOp, sB, sNotT, sTup, sLst, sBi, sCall, sSl, sOwn, sCallL, sRng, sItems, sLc, sYes, sTry, nLst, nList, nCall, Res.bind, ofO, frz, List.map_cons, List.map_nil, List.length_cons, List.length_nil, List.replicate, List.cons_append, List.nil_append, List.getElem?_cons_zero, List.getElem?_cons_succ, List.set_cons_zero, List.set_cons_succ, List.foldl_cons, List.foldl_nil, Nat.reduceAdd, Nat.reduceSub, Nat.reduceLeDiff, Nat.zero_le, Nat.zero_add, Option.bind_some, Option.map_some, Option.bind_none, Option.map_none, if_true, if_false, reduceIte, Bool.not_true, Bool.not_false, Bool.false_eq_true, abs_eq, hC, p_fdiv gz gs]
    rfl
  · rw [at']; exact Nat.lt_of_le_of_lt (Nat.div_le_self _ _) ht
  · rw [ab']; exact Nat.lt_of_le_of_lt (Nat.div_le_self _ _) hb
  · have : 0 < b.natAbs / g := Nat.div_pos gle g0
    have h0 : 0 ≤ b / (g : Int) := Int.ediv_nonneg (by omega) (by omega)
    omega
  · rw [at', ab', ← hg]
    exact Nat.gcd_div_gcd_div_gcd_of_pos_right hb0
end K77
end

section
set_option Elab.async false
set_option linter.all false
set_option maxRecDepth 100000
set_option maxHeartbeats 4000000
namespace K77
open D PySem L2 TL NumText
/-! ### texts spoilt -/
def bits : List Str := ["", "", " ", "0", "1", "7", "-", "/", "a", "b", "x", ",", ";", "\n", "  ", "01", "A", "\t", "; ", ", ", "+1"]
theorem bits_gd : ∀ y ∈ bits, (∀ c ∈ tl y, c < 128) ∧ y.length ≤ 2 := by
  have h : (bits.all fun y => (tl y).all (fun c => decide (c < 128)) && decide (y.length ≤ 2)) = true := by decide +kernel
  intro y hy
  have := List.all_eq_true.mp h y hy
  simp only [Bool.and_eq_true, List.all_eq_true, decide_eq_true_eq] at this
  exact this
theorem p_addS {x y : Str} (h : x.length + y.length ≤ 1000000) : oAdd (.str x) (.str y) = some (.str (x ++ y)) := if_pos (Nat.le_trans h line_big)
theorem p_addL {x y : List PyData} (h : x.length + y.length ≤ 1000000) : oAdd (.list x) (.list y) = some (.list (x ++ y)) := if_pos (Nat.le_trans h line_big)
theorem cut_len (z : Str) (lo hi : Option Int) : (cutS z lo hi).length ≤ z.length := by
  rw [len_tl, len_tl]
  show (((tl z).drop _).take _).length ≤ _
  rw [List.length_take, List.length_drop]
  omega
theorem e_spoilt {B : Nat} {s : List PyData} (S : Sm B s) (hB : B ≤ 900000) {z : Str} (g : Gd z) (hl : z.length ≤ 9000) : ∃ y s', M__law_spoilt s [.str z] = some (.str y, s') ∧ Gd y ∧ Sm (B + 3) s' := by
  obtain ⟨r1, s1, e1, a1, b1, S1⟩ := e_draw S (by omega) (n := (z.length : Int) + 1) (by omega) (by omega)
  obtain ⟨r2, s2, e2, a2, b2, S2⟩ := e_draw S1 (by omega) (n := 3) (by decide) (by decide)
  obtain ⟨d, s3, ⟨e3, _⟩, m, S3⟩ := e_pick S2 (by omega) (l := strsD bits) (by decide) (by decide)
  obtain ⟨w, hw, rfl⟩ := List.mem_map.mp m
  obtain ⟨w1, w2⟩ := bits_gd w hw
  have c1 := cut_len z none (some r1)
  have c2 := cut_len z (some (r1 + r2)) none
  have A1 : oAdd (.str (cutS z none (some r1))) (.str w) = some (.str (cutS z none (some r1) ++ w)) := p_addS (by omega)
  have A2 : oAdd (.str (cutS z none (some r1) ++ w)) (.str (cutS z (some (r1 + r2)) none)) = some (.str (cutS z none (some r1) ++ w ++ cutS z (some (r1 + r2)) none)) := p_addS (by rw [str_len_app]; omega)
  have L1 : oAdd (.list [.str "", .str "", .str " ", .str "0", .str "1", .str "7", .str "-", .str "/", .str "a", .str "b", .str "x", .str ",", .str ";", .str "\n", .str "  ", .str "01", .str "A", .str "\t"]) (.list [.str "; ", .str ", ", .str "+1"]) = some (.list (strsD bits)) := p_addL (by simp)
  have T1 : oSl (.str z) none (some r1) = some (.str (cutS z none (some r1))) := p_sl g _ _
  have T2 : oSl (.str z) (some (r1 + r2)) none = some (.str (cutS z (some (r1 + r2)) none)) := p_sl g _ _
  refine ⟨cutS z none (some r1) ++ w ++ cutS z (some (r1 + r2)) none, s3, ?_, ⟨fun c hc => ?_, ?_⟩, S3⟩
  · unfold M__law_spoilt m__law_spoilt
    simp only [mir, mirL, mirN, startR, startL, mSeq, mNil, mFrz, mSet, mAsg, mPar, mNew, mNew2, mDrop, mRet, mRetN, mIf, mRaise, mFor, mWhile, mSetIx, xbind, liR, liO, lS, lST, lSs, Out.thn, outR, own0, dVar, dOwn, dC, dOp, dChain, dB, asB, dAnd, dOr, dNot, dAndV, dOrV, dNotV, dIf, dNeg, dNil, dCons, dTup, dLst, dCall, dBi, dSl, dNo, dSo, dM1, dIsi, dItems, dRng, dZip, dLc, dYes, dFmt, wipeR, setR, gtN, gtSeq, gtCons, gtNil, sNil, sCons, sOp, sB, sNotT, sTup, sLst, sBi, sCall, sSl, sOwn, sCallL, sRng, sItems, sLc, sYes, sTry, nLst, nList, nCall, Res.bind, ofO, frz, List.map_cons, List.map_nil, List.length_cons, List.length_nil, List.replicate, List.cons_append, List.nil_append, List.getElem?_cons_zero, List.getElem?_cons_succ, List.set_cons_zero, List.set_cons_succ, List.foldl_cons, List.foldl_nil, Nat.reduceAdd, Nat.reduceSub, Nat.reduceLeDiff, Nat.zero_le, Nat.zero_add, Option.bind_some, Option.map_some, Option.bind_none, Option.map_none, if_true, if_false, reduceIte, Bool.not_true, Bool.not_false, Bool.false_eq_true, p_len g, p_add, e1, e2, L1, T1, e3, A1, T2, A2]
  · rw [tl_append, tl_append] at hc
    rcases List.mem_append.mp hc with hc | hc
    · rcases List.mem_append.mp hc with hc | hc
      · exact (g.cut _ _).asc c hc
      · exact w1 c hc
    · exact (g.cut _ _).asc c hc
  · rw [str_len_app, str_len_app]
    omega
/-! ### what no text is -/
def badS : List Str := ["", " ", "\n", "A", "- ", "--", "1 ", " 1", "a  b", "1;", "; 2", Txt.mul "a" 300, "-0", "+1", "1.0", "1_0", "\t"]
def odds : List PyData := [.none, .int 7, .bool true, .tuple [], .list [.str "a"], .dict [], .tuple [.str "a"], .str "", .str " ", .str "\n", .str "A", .str "- ", .str "--", .str "1 ", .str " 1", .str "a  b", .str "1;", .str "; 2", .str (Txt.mul "a" 300), .str "-0", .str "+1", .str "1.0", .str "1_0", .str "\t"]
theorem e_no_text {B : Nat} {s : List PyData} (S : Sm B s) (hB : B ≤ 900000) : ∃ d s', M__law_no_text s [] = some (d, s') ∧ d ∈ odds ∧ Sm (B + 1) s' := by
  obtain ⟨d, s3, ⟨e3, _⟩, m, S3⟩ := e_pick S (by omega) (l := odds) (by decide) (by decide)
  have M1 : oMul (.str "a") (.int 300) = some (.str (Txt.mul "a" 300)) := by
    show (if mulOkB "a" 300 = true then some (PyData.str (Txt.mul "a" 300)) else none) = _
    rw [if_pos (by decide +kernel)]
  have L1 : oAdd (.list [.none, .int 7, .bool true, .tuple [], .list [.str "a"], .dict [], .tuple [.str "a"], .str "", .str " ", .str "\n", .str "A", .str "- ", .str "--", .str "1 ", .str " 1", .str "a  b", .str "1;", .str "; 2"]) (.list [.str (Txt.mul "a" 300), .str "-0", .str "+1", .str "1.0", .str "1_0", .str "\t"]) = some (.list odds) := p_addL (by simp)
  refine ⟨d, s3, ?_, m, S3⟩
  unfold M__law_no_text m__law_no_text
  simp only [mir, mirL, mirN, startR, startL, mSeq, mNil, mFrz, mSet, mAsg, mPar, mNew, mNew2, mDrop, mRet, mRetN, mIf, mRaise, mFor, mWhile, mSetIx, xbind, liR, liO, lS, lST, lSs, Out.thn, outR, own0, dVar, dOwn, dC, dOp, dChain, dB, asB, dAnd, dOr, dNot, dAndV, dOrV, dNotV, dIf, dNeg, dNil, dCons, dTup, dLst, dCall, dBi, dSl, dNo, dSo, dM1, dIsi, dItems, dRng, dZip, dLc, dYes, dFmt, wipeR, setR, gtN, gtSeq, gtCons, gtNil, sNil, sCons, sOp, sB, sNotT, sTup, sLst, sBi, sCall, sSl, sOwn, sCallL, sRng, sItems, sLc, sYes, sTry, nLst, nList, nCall, Res.bind, ofO, frz, List.map_cons, List.map_nil, List.length_cons, List.length_nil, List.replicate, List.cons_append, List.nil_append, List.getElem?_cons_zero, List.getElem?_cons_succ, List.set_cons_zero, List.set_cons_succ, List.foldl_cons, List.foldl_nil, Nat.reduceAdd, Nat.reduceSub, Nat.reduceLeDiff, Nat.zero_le, Nat.zero_add, Option.bind_some, Option.map_some, Option.bind_none, Option.map_none, if_true, if_false, reduceIte, Bool.not_true, Bool.not_false, Bool.false_eq_true, M1, L1, e3]
theorem bad_gd : ∀ y ∈ badS, Gd y := by
  have h : (badS.all fun y => (tl y).all (fun c => decide (c < 128)) && decide (y.length ≤ 20000)) = true := by decide +kernel
  intro y hy
  have := List.all_eq_true.mp h y hy
  simp only [Bool.and_eq_true, List.all_eq_true, decide_eq_true_eq] at this
  exact ⟨this.1, this.2⟩
theorem bad_word : ∀ y ∈ badS, ∃ p ∈ wordsOf y, p ∉ acts := by
  have h : (badS.all fun y => (wordsOf y).any fun p => decide (p ∉ acts)) = true := by decide +kernel
  intro y hy
  have := List.all_eq_true.mp h y hy
  simpa using this
theorem bad_vec : ∀ y ∈ badS, (Txt.split y " ").all numOk = false := by
  have h : (badS.all fun y => !(Txt.split y " ").all numOk) = true := by decide +kernel
  intro y hy
  have := List.all_eq_true.mp h y hy
  simpa using this
theorem bad_frac : ∀ y ∈ badS, fracV y = none := by
  have h : (badS.all fun y => (fracV y).isNone) = true := by decide +kernel
  intro y hy
  have := List.all_eq_true.mp h y hy
  simpa using this
theorem odd_cases : ∀ d ∈ odds, (∃ y ∈ badS, d = .str y) ∨ ∀ y, d ≠ .str y := by
  intro d hd
  unfold odds at hd
  unfold badS
  simp only [List.mem_cons, List.not_mem_nil, or_false] at hd
  rcases hd with rfl | rfl | rfl | rfl | rfl | rfl | rfl | rfl | rfl | rfl | rfl | rfl | rfl | rfl | rfl | rfl | rfl | rfl | rfl | rfl | rfl | rfl | rfl | rfl <;>
    first
      | exact .inl ⟨_, by simp, rfl⟩
      | exact .inr fun y z => by cases z
theorem odd_word {al : List Str} (A : Al al) {d : PyData} (hd : d ∈ odds) : M_parse_word [.tuple (strsD al), d] = .err "ParseError" := by
  rcases odd_cases d hd with ⟨y, hy, rfl⟩ | hn
  · have W : wOk al (wordsOf y) = false := by
      obtain ⟨p, hp, np⟩ := bad_word y hy
      cases q : wOk al (wordsOf y) with
      | false => rfl
      | true =>
        have := List.all_eq_true.mp q p hp
        exact absurd (A.mem p (of_decide_eq_true this)) np
    rw [e_parse_word A (bad_gd y hy), W]
    simp
  · have R : M_require_text [d] = .err "ParseError" := by
      rw [e_require_text]
      cases d <;> first | rfl | exact absurd rfl (hn _)
    unfold M_parse_word m_parse_word
    simp only [mir, mirL, mirN, startR, startL, mSeq, mNil, mFrz, mSet, mAsg, mPar, mNew, mNew2, mDrop, mRet, mRetN, mIf, mRaise, mFor, mWhile, mSetIx, xbind, liR, liO, lS, lST, lSs, Out.thn, outR, own0, dVar, dOwn, dC, dOp, dChain, dB, asB, dAnd, dOr, dNot, dAndV, dOrV, dNotV, dIf, dNeg, dNil, dCons, dTup, dLst, dCall, dBi, dSl, dNo, dSo, dM1, dIsi, dItems, dRng, dZip, dLc, dYes, dFmt, wipeR, setR, gtN, gtSeq, gtCons, gtNil, sNil, sCons, sOp, sB, sNotT, sTup, sLst, sBi, sCall, sSl, sOwn, sCallL, sRng, sItems, sLc, sYes, sTry, nLst, nList, nCall, Res.bind, ofO, frz, List.map_cons, List.map_nil, List.length_cons, List.length_nil, List.replicate, List.cons_append, List.nil_append, List.getElem?_cons_zero, List.getElem?_cons_succ, List.set_cons_zero, List.set_cons_succ, List.foldl_cons, List.foldl_nil, Nat.reduceAdd, Nat.reduceSub, Nat.reduceLeDiff, Nat.zero_le, Nat.zero_add, Option.bind_some, Option.map_some, Option.bind_none, Option.map_none, if_true, if_false, reduceIte, Bool.not_true, Bool.not_false, Bool.false_eq_true, e_require_alphabet A, R]
theorem odd_vector {d : PyData} (hd : d ∈ odds) : M_parse_vector [d] = .err "ParseError" := by
  rcases odd_cases d hd with ⟨y, hy, rfl⟩ | hn
  · rw [e_parse_vector (bad_gd y hy), bad_vec y hy]
    simp
  · have R : M_require_text [d] = .err "ParseError" := by
      rw [e_require_text]
      cases d <;> first | rfl | exact absurd rfl (hn _)
    unfold M_parse_vector m_parse_vector
    simp only [mir, mirL, mirN, startR, startL, mSeq, mNil, mFrz, mSet, mAsg, mPar, mNew, mNew2, mDrop, mRet, mRetN, mIf, mRaise, mFor, mWhile, mSetIx, xbind, liR, liO, lS, lST, lSs, Out.thn, outR, own0, dVar, dOwn, dC, dOp, dChain, dB, asB, dAnd, dOr, dNot, dAndV, dOrV, dNotV, dIf, dNeg, dNil, dCons, dTup, dLst, dCall, dBi, dSl, dNo, dSo, dM1, dIsi, dItems, dRng, dZip, dLc, dYes, dFmt, wipeR, setR, gtN, gtSeq, gtCons, gtNil, sNil, sCons, sOp, sB, sNotT, sTup, sLst, sBi, sCall, sSl, sOwn, sCallL, sRng, sItems, sLc, sYes, sTry, nLst, nList, nCall, Res.bind, ofO, frz, List.map_cons, List.map_nil, List.length_cons, List.length_nil, List.replicate, List.cons_append, List.nil_append, List.getElem?_cons_zero, List.getElem?_cons_succ, List.set_cons_zero, List.set_cons_succ, List.foldl_cons, List.foldl_nil, Nat.reduceAdd, Nat.reduceSub, Nat.reduceLeDiff, Nat.zero_le, Nat.zero_add, Option.bind_some, Option.map_some, Option.bind_none, Option.map_none, if_true, if_false, reduceIte, Bool.not_true, Bool.not_false, Bool.false_eq_true, R]
theorem odd_fraction {d : PyData} (hd : d ∈ odds) : M_parse_fraction [d] = .err "ParseError" := by
  rcases odd_cases d hd with ⟨y, hy, rfl⟩ | hn
  · rw [e_parse_fraction (bad_gd y hy), bad_frac y hy]
  · have R : M_require_text [d] = .err "ParseError" := by
      rw [e_require_text]
      cases d <;> first | rfl | exact absurd rfl (hn _)
    unfold M_parse_fraction m_parse_fraction
    simp only [mir, mirL, mirN, startR, startL, mSeq, mNil, mFrz, mSet, mAsg, mPar, mNew, mNew2, mDrop, mRet, mRetN, mIf, mRaise, mFor, mWhile, mSetIx, xbind, liR, liO, lS, lST, lSs, Out.thn, outR, own0, dVar, dOwn, dC, dOp, dChain, dB, asB, dAnd, dOr, dNot, dAndV, dOrV, dNotV, dIf, dNeg, dNil, dCons, dTup, dLst, dCall, dBi, dSl, dNo, dSo, dM1, dIsi, dItems, dRng, dZip, dLc, dYes, dFmt, wipeR, setR, gtN, gtSeq, gtCons, gtNil, sNil, sCons, sOp, sB, sNotT, sTup, sLst, sBi, sCall, sSl, sOwn, sCallL, sRng, sItems, sLc, sYes, sTry, nLst, nList, nCall, Res.bind, ofO, frz, List.map_cons, List.map_nil, List.length_cons, List.length_nil, List.replicate, List.cons_append, List.nil_append, List.getElem?_cons_zero, List.getElem?_cons_succ, List.set_cons_zero, List.set_cons_succ, List.foldl_cons, List.foldl_nil, Nat.reduceAdd, Nat.reduceSub, Nat.reduceLeDiff, Nat.zero_le, Nat.zero_add, Option.bind_some, Option.map_some, Option.bind_none, Option.map_none, if_true, if_false, reduceIte, Bool.not_true, Bool.not_false, Bool.false_eq_true, R]
/-! ### the stream of a cell -/
theorem e_stream {ns : List Int} (hl : ns.length ≤ 63) {k : Nat} (hk : k < 8) : ∃ s, M__law_stream [.list (ns.map .int), .int (k : Int)] = some s ∧ Sm 0 s := by
  have hlen : (ns.map PyData.int).length = ns.length := List.length_map _
  have ha : oMul (.int 13) (.int (k : Int)) = some (.int (13 * k)) := p_mul (by decide +kernel) (small1000 (by omega) (by omega))
  have P1 : oPow (.int 10) (.int 60) = some (.int (10 ^ 60)) := by rfl
  have P2 : oPow (.int (10 ^ 60)) (.int 11) = some (.int ((10 ^ 60) ^ 11)) := by rfl
  have P3 : oPow (.int 10) (.int 18) = some (.int (10 ^ 18)) := by rfl
  have main : ∀ c : Int, ∃ s, (mSeq (mSet 3 (liR (dOp oMod (dBi bAbs (dCons (dVar 2) dNil)) (dOp oPow (dOp oPow (dC (.int 10)) (dC (.int 60))) (dC (.int 11))))))
      (mSeq (mSet 4 (liR (dOp oMod (dOp oAdd (dOp oAdd (dOp oAdd (dOp oMul (dOp oMod (dVar 3) (dC (.int 2147483579))) (dC (.int 48271))) (dOp oMul (dC (.int 92821)) (dVar 1))) (dOp oMul (dC (.int 5)) (dBi bInt (dCons (dOp oLt (dVar 2) (dC (.int 0))) dNil)))) (dC (.int 29))) (dC (.int 2147483563)))))
      (mSeq (mRetN (nLst (sCons (lS (dBi bMax2 (dCons (dC (.int 0)) (dCons (dOp oAdd (dOp oSub (dVar 3) (dOp oPow (dC (.int 10)) (dC (.int 18)))) (dC (.int 1))) dNil)))) (sCons (lS (dVar 4)) (sCons (lS (dC (.int 0))) sNil))))) mNil))) [.dat (.list (ns.map .int)), .dat (.int k), .dat (.int c), .un, .un] = .rn s [.dat (.list (ns.map .int)), .dat (.int k), .dat (.int c), .dat (.int ((c.natAbs : Nat) % (10 ^ 60) ^ 11)), .dat (.int (((((c.natAbs : Nat) % (10 ^ 60) ^ 11) % 2147483579 * 48271 + 92821 * k + 5 * (if c < 0 then 1 else 0)) + 29) % 2147483563))] ∧ Sm 0 s := by
    intro c
    have R1 : oMod (.int (c.natAbs : Nat)) (.int ((10 ^ 60) ^ 11)) = some (.int ((c.natAbs : Nat) % (10 ^ 60) ^ 11)) := p_mod (by decide +kernel)
    generalize ((c.natAbs : Nat) : Int) % (10 ^ 60) ^ 11 = gr at R1
    have R2 : oMod (.int gr) (.int 2147483579) = some (.int (gr % 2147483579)) := p_mod (by decide)
    have g1 : 0 ≤ gr % 2147483579 := Int.emod_nonneg _ (by decide)
    have g2 : gr % 2147483579 < 2147483579 := Int.emod_lt_of_pos _ (by decide)
    have M1 : oMul (.int (gr % 2147483579)) (.int 48271) = some (.int (gr % 2147483579 * 48271)) := p_mul (small1000 g1 (by omega)) (by decide +kernel)
    have M2 : oMul (.int 92821) (.int (k : Int)) = some (.int (92821 * k)) := p_mul (by decide +kernel) (small1000 (by omega) (by omega))
    have I1 : ∀ b : Bool, bInt [.bool b] = some (.int (if b then 1 else 0)) := fun b => rfl
    have M3 : oMul (.int 5) (.int (if decide (c < 0) = true then 1 else 0)) = some (.int (5 * (if c < 0 then 1 else 0))) := by
      by_cases h : c < 0
      · rw [decide_eq_true h, if_pos rfl, if_pos h]
        rfl
      · rw [decide_eq_false h, if_neg Bool.false_ne_true, if_neg h]
        rfl
    have R3 : ∀ x, oMod (.int x) (.int 2147483563) = some (.int (x % 2147483563)) := fun x => p_mod (by decide)
    have X1 : bMax2 [.int 0, .int (gr - 10 ^ 18 + 1)] = some (.int (if gr - 10 ^ 18 + 1 > 0 then gr - 10 ^ 18 + 1 else 0)) := rfl
    generalize hm : ((gr % 2147483579 * 48271 + 92821 * k + 5 * (if c < 0 then 1 else 0)) + 29) % 2147483563 = mx at *
    refine ⟨[.int (if gr - 10 ^ 18 + 1 > 0 then gr - 10 ^ 18 + 1 else 0), .int mx, .int 0], ?_, _, _, _, rfl, ?_, ?_, ?_, Int.le_refl _, Int.le_refl _⟩
    · simp only [mir, mirL, mirN, startR, startL, mSeq, mNil, mFrz, mSet, mAsg, mPar, mNew, mNew2, mDrop, mRet, mRetN, mIf, mRaise, mFor, mWhile, mSetIx, xbind, liR, liO, lS, lST, lSs, Out.thn, outR, own0, dVar, dOwn, dC, dOp, dChain, dB, asB, dAnd, dOr, dNot, dAndV, dOrV, dNotV, dIf, dNeg, dNil, dCons, dTup, dLst, dCall, dBi, dSl, dNo, dSo, dM1, dIsi, dItems, dRng, dZip, dLc, dYes, dFmt, wipeR, setR, gtN, gtSeq, gtCons, gtNil, sNil, sCons, sOp, sB, sNotT, sTup, sLst, sBi, sCall, sSl, sOwn, sCallL, sRng, sItems, sLc, sYes, sTry, nLst, nList, nCall, Res.bind, ofO, frz, List.map_cons, List.map_nil, List.length_cons, List.length_nil, List.replicate, List.cons_append, List.nil_append, List.getElem?_cons_zero, List.getElem?_cons_succ, List.set_cons_zero, List.set_cons_succ, List.foldl_cons, List.foldl_nil, Nat.reduceAdd, Nat.reduceSub, Nat.reduceLeDiff, Nat.zero_le, Nat.zero_add, Option.bind_some, Option.map_some, Option.bind_none, Option.map_none, if_true, if_false, reduceIte, Bool.not_true, Bool.not_false, Bool.false_eq_true, abs_eq, P1, P2, R1, R2, M1, M2, p_lt, I1, M3, p_add, R3, hm, P3, p_sub, X1]
    · split <;> omega
    · rw [← hm]; exact Int.emod_nonneg _ (by decide)
    · rw [← hm]
      have := Int.emod_lt_of_pos ((gr % 2147483579 * 48271 + 92821 * k + 5 * (if c < 0 then 1 else 0)) + 29) (show (0 : Int) < 2147483563 by decide)
      omega
  unfold M__law_stream m__law_stream
  by_cases h : (k : Int) < ns.length
  · have hn : k < ns.length := by omega
    have hi : oIx (.list (ns.map .int)) (.int (k : Int)) = some (.int ns[k]) := by
      show atI (ns.map PyData.int) (k : Int) = _
      unfold atI ixN
      rw [if_pos (by omega), if_pos (by rw [hlen]; omega)]
      show (ns.map PyData.int)[k]? = _
      rw [List.getElem?_map, List.getElem?_eq_getElem hn]
      rfl
    obtain ⟨s, e, S⟩ := main ns[k]
    refine ⟨s, ?_, S⟩
    have e' := e
    unfold mSeq at e'
    simp only [mir, mirL, mirN, startR, startL, mSeq, mNil, mFrz, mSet, mAsg, mPar, mNew, mNew2, mDrop, mRet, mRetN, mIf, mRaise, mFor, mWhile, mSetIx, xbind, liR, liO, lS, lST, lSs, Out.thn, outR, own0, dVar, dOwn, dC, dOp, dChain, dB, asB, dAnd, dOr, dNot, dAndV, dOrV, dNotV, dIf, dNeg, dNil, dCons, dTup, dLst, dCall, dBi, dSl, dNo, dSo, dM1, dIsi, dItems, dRng, dZip, dLc, dYes, dFmt, wipeR, setR, gtN, gtSeq, gtCons, gtNil, sNil, sCons, sOp, sB, sNotT, sTup, sLst, sBi, sCall, sSl, sOwn, sCallL, sRng, sItems, sLc, sYes, sTry, nLst, nList, nCall, Res.bind, ofO, frz, List.map_cons, List.map_nil, List.length_cons, List.length_nil, List.replicate, List.cons_append, List.nil_append, List.getElem?_cons_zero, List.getElem?_cons_succ, List.set_cons_zero, List.set_cons_succ, List.foldl_cons, List.foldl_nil, Nat.reduceAdd, Nat.reduceSub, Nat.reduceLeDiff, Nat.zero_le, Nat.zero_add, Option.bind_some, Option.map_some, Option.bind_none, Option.map_none, if_true, if_false, reduceIte, Bool.not_true, Bool.not_false, Bool.false_eq_true, ha, p_add, p_lenl, hlen, p_lt, decide_eq_true h, hi]
    simp only [mir, mirL, mirN, startR, startL, mSeq, mNil, mFrz, mSet, mAsg, mPar, mNew, mNew2, mDrop, mRet, mRetN, mIf, mRaise, mFor, mWhile, mSetIx, xbind, liR, liO, lS, lST, lSs, Out.thn, outR, own0, dVar, dOwn, dC, dOp, dChain, dB, asB, dAnd, dOr, dNot, dAndV, dOrV, dNotV, dIf, dNeg, dNil, dCons, dTup, dLst, dCall, dBi, dSl, dNo, dSo, dM1, dIsi, dItems, dRng, dZip, dLc, dYes, dFmt, wipeR, setR, gtN, gtSeq, gtCons, gtNil, sNil, sCons, sOp, sB, sNotT, sTup, sLst, sBi, sCall, sSl, sOwn, sCallL, sRng, sItems, sLc, sYes, sTry, nLst, nList, nCall, Res.bind, ofO, frz, List.map_cons, List.map_nil, List.length_cons, List.length_nil, List.replicate, List.cons_append, List.nil_append, List.getElem?_cons_zero, List.getElem?_cons_succ, List.set_cons_zero, List.set_cons_succ, List.foldl_cons, List.foldl_nil, Nat.reduceAdd, Nat.reduceSub, Nat.reduceLeDiff, Nat.zero_le, Nat.zero_add, Option.bind_some, Option.map_some, Option.bind_none, Option.map_none, if_true, if_false, reduceIte, Bool.not_true, Bool.not_false, Bool.false_eq_true] at e
    rw [e]
  · obtain ⟨s, e, S⟩ := main (13 * k + 6)
    refine ⟨s, ?_, S⟩
    simp only [mir, mirL, mirN, startR, startL, mSeq, mNil, mFrz, mSet, mAsg, mPar, mNew, mNew2, mDrop, mRet, mRetN, mIf, mRaise, mFor, mWhile, mSetIx, xbind, liR, liO, lS, lST, lSs, Out.thn, outR, own0, dVar, dOwn, dC, dOp, dChain, dB, asB, dAnd, dOr, dNot, dAndV, dOrV, dNotV, dIf, dNeg, dNil, dCons, dTup, dLst, dCall, dBi, dSl, dNo, dSo, dM1, dIsi, dItems, dRng, dZip, dLc, dYes, dFmt, wipeR, setR, gtN, gtSeq, gtCons, gtNil, sNil, sCons, sOp, sB, sNotT, sTup, sLst, sBi, sCall, sSl, sOwn, sCallL, sRng, sItems, sLc, sYes, sTry, nLst, nList, nCall, Res.bind, ofO, frz, List.map_cons, List.map_nil, List.length_cons, List.length_nil, List.replicate, List.cons_append, List.nil_append, List.getElem?_cons_zero, List.getElem?_cons_succ, List.set_cons_zero, List.set_cons_succ, List.foldl_cons, List.foldl_nil, Nat.reduceAdd, Nat.reduceSub, Nat.reduceLeDiff, Nat.zero_le, Nat.zero_add, Option.bind_some, Option.map_some, Option.bind_none, Option.map_none, if_true, if_false, reduceIte, Bool.not_true, Bool.not_false, Bool.false_eq_true, ha, p_add, p_lenl, hlen, p_lt, decide_eq_false h]
    simp only [mir, mirL, mirN, startR, startL, mSeq, mNil, mFrz, mSet, mAsg, mPar, mNew, mNew2, mDrop, mRet, mRetN, mIf, mRaise, mFor, mWhile, mSetIx, xbind, liR, liO, lS, lST, lSs, Out.thn, outR, own0, dVar, dOwn, dC, dOp, dChain, dB, asB, dAnd, dOr, dNot, dAndV, dOrV, dNotV, dIf, dNeg, dNil, dCons, dTup, dLst, dCall, dBi, dSl, dNo, dSo, dM1, dIsi, dItems, dRng, dZip, dLc, dYes, dFmt, wipeR, setR, gtN, gtSeq, gtCons, gtNil, sNil, sCons, sOp, sB, sNotT, sTup, sLst, sBi, sCall, sSl, sOwn, sCallL, sRng, sItems, sLc, sYes, sTry, nLst, nList, nCall, Res.bind, ofO, frz, List.map_cons, List.map_nil, List.length_cons, List.length_nil, List.replicate, List.cons_append, List.nil_append, List.getElem?_cons_zero, List.getElem?_cons_succ, List.set_cons_zero, List.set_cons_succ, List.foldl_cons, List.foldl_nil, Nat.reduceAdd, Nat.reduceSub, Nat.reduceLeDiff, Nat.zero_le, Nat.zero_add, Option.bind_some, Option.map_some, Option.bind_none, Option.map_none, if_true, if_false, reduceIte, Bool.not_true, Bool.not_false, Bool.false_eq_true] at e
    rw [e]
end K77
end

section
set_option Elab.async false
set_option linter.all false
set_option maxRecDepth 100000
set_option maxHeartbeats 8000000
namespace K77
open D PySem L2 TL NumText
theorem seq_nx {f g : SM} {ρ ρ' : Rho} (h : f ρ = .nx ρ') : mSeq f g ρ = g ρ' := by
  unfold mSeq
  rw [h]
  rfl
theorem seq_ret {f g : SM} {ρ ρ' : Rho} {d : PyData} (h : f ρ = .ret d ρ') : mSeq f g ρ = .ret d ρ' := by
  unfold mSeq
  rw [h]
  rfl
/-! ### shown texts are plain -/
def AscS (z : Str) : Prop := ∀ c ∈ tl z, c < 128
theorem AscS.ok {z : Str} (g : AscS z) : PyData.strOk z = true := by
  unfold PyData.strOk
  rw [Array.all_eq_true']
  intro c hc
  exact decide_eq_true (Nat.lt_trans (g c (Array.mem_toList_iff.mpr hc)) (by decide))
theorem AscS.app {x y : Str} (h1 : AscS x) (h2 : AscS y) : AscS (x ++ y) := fun c hc => by
  rw [tl_append] at hc
  exact (List.mem_append.mp hc).elim (h1 c) (h2 c)
theorem asc_join {ts : List Str} (h : ∀ t ∈ ts, AscS t) : AscS (Str.join ", " ts) := fun c hc => by
  rw [tl_join] at hc
  rcases joinL_mem hc with q | ⟨p, hp, q⟩
  · have e : tl (", " : Str) = [44, 32] := by decide +kernel
    rw [e] at q
    simp only [List.mem_cons, List.not_mem_nil, or_false] at q
    omega
  · obtain ⟨z, hz, rfl⟩ := List.mem_map.mp hp
    exact h z hz c q
theorem asc_tuple {ts : List Str} (h : ∀ t ∈ ts, AscS t) : AscS (tupleText ts) := by
  have h1 : AscS ("(" : Str) := by unfold AscS; decide +kernel
  have h2 : AscS ((if ts.length == 1 then ",)" else ")" : String) : Str) := by
    unfold AscS
    split <;> decide +kernel
  exact (h1.app (asc_join h)).app h2
theorem asc_all {l : List PyData} (h : ∀ d ∈ l, AscS d.shown) : ∀ t ∈ PyData.shownAll l, AscS t := by
  induction l with
  | nil => exact fun t ht => by cases ht
  | cons d l ih => exact fun t ht => (List.mem_cons.mp ht).elim (fun e => by rw [e]; exact h d List.mem_cons_self) (ih (fun x m => h x (List.mem_cons_of_mem _ m)) t)
theorem asc_list1 {t : Str} (h : AscS t) : AscS (listText [t]) := by
  have h1 : AscS ("[" : Str) := by unfold AscS; decide +kernel
  have h2 : AscS ("]" : Str) := by unfold AscS; decide +kernel
  have h3 : AscS ("" : Str) := by unfold AscS; decide +kernel
  exact (((h1.app h3).app h).app h2)
theorem asc_list3 {t u v : Str} (ht : AscS t) (hu : AscS u) (hv : AscS v) : AscS (listText [t, u, v]) := by
  have h1 : AscS ("[" : Str) := by unfold AscS; decide +kernel
  have h2 : AscS ("]" : Str) := by unfold AscS; decide +kernel
  have h3 : AscS ("" : Str) := by unfold AscS; decide +kernel
  have h4 : AscS (", " : Str) := by unfold AscS; decide +kernel
  exact (((((((h1.app h3).app ht).app h4).app hu).app h4).app hv).app h2)
theorem act_asc : ∀ a ∈ acts, AscS (reprText a) := acts_all ⟨by unfold AscS; decide +kernel, by unfold AscS; decide +kernel, by unfold AscS; decide +kernel, by unfold AscS; decide +kernel, by unfold AscS; decide +kernel, by unfold AscS; decide +kernel, by unfold AscS; decide +kernel, by unfold AscS; decide +kernel, by unfold AscS; decide +kernel, by unfold AscS; decide +kernel, by unfold AscS; decide +kernel⟩
theorem asc_word {zs : List Str} (h : ∀ z ∈ zs, z ∈ acts) : AscS (PyData.tuple (strsD zs)).shown := asc_tuple (asc_all fun d hd => by
  obtain ⟨z, hz, rfl⟩ := List.mem_map.mp hd
  exact act_asc z (h z hz))
theorem asc_ints (is : List Int) : AscS (PyData.tuple (intsD is)).shown := asc_tuple (asc_all fun d hd => by
  obtain ⟨i, hi, rfl⟩ := List.mem_map.mp hd
  exact fun c hc => by
    have := nt_chars i c hc
    omega)
/-- what is told of a text, and what is due -/
def Same (r due : Res PyData) : Prop := ∃ d, due = .ok d ∧ ((∃ v, r = .ok v ∧ d = .list [v]) ∨ (r = .err "ParseError" ∧ d = .none)) ∧ ∃ x, bRepr [d] = some (.str x) ∧ PyData.strOk x = true
theorem repr_one {v : PyData} (s : Small v) (a : AscS v.shown) : ∃ x, bRepr [.list [v]] = some (.str x) ∧ PyData.strOk x = true := ⟨_, if_pos (show_one s), (asc_list1 a).ok⟩
theorem repr_none : ∃ x, bRepr [.none] = some (.str x) ∧ PyData.strOk x = true := ⟨"None", rfl, by decide +kernel⟩
theorem same_word {al : List Str} (A : Al al) {z : Str} (g : Gd z) : Same (M_parse_word [.tuple (strsD al), .str z]) (M__law_word_due [.tuple (strsD al), .str z]) := by
  rw [e_parse_word A g, e_word_due g]
  cases h : (wOk al (wordsOf z) && decide ((wordsOf z).length ≤ 200)) with
  | false => exact ⟨_, rfl, .inr ⟨rfl, rfl⟩, repr_none⟩
  | true =>
    rw [Bool.and_eq_true, decide_eq_true_iff] at h
    have hm : ∀ z' ∈ wordsOf z, z' ∈ acts := fun z' hz => A.mem z' (of_decide_eq_true (List.all_eq_true.mp h.1 z' hz))
    exact ⟨_, rfl, .inl ⟨_, rfl, rfl⟩, repr_one (small_word h.2 hm) (asc_word hm)⟩
theorem nums_ints (zs : List Str) : nums zs = intsD (zs.map numV) := by
  unfold nums intsD
  rw [List.map_map]
  rfl
theorem same_vector {z : Str} (g : Gd z) : Same (M_parse_vector [.str z]) (M__law_vector_due [.str z]) := by
  rw [e_parse_vector g, e_vector_due g]
  cases h : ((Txt.split z " ").all numOk && decide ((Txt.split z " ").length ≤ 5)) with
  | false => exact ⟨_, rfl, .inr ⟨rfl, rfl⟩, repr_none⟩
  | true =>
    rw [Bool.and_eq_true, decide_eq_true_iff] at h
    refine ⟨_, rfl, .inl ⟨_, rfl, rfl⟩, ?_⟩
    rw [nums_ints]
    refine repr_one (small_ints (by rw [List.length_map]; omega) fun i hi => ?_) (asc_ints _)
    obtain ⟨y, hy, rfl⟩ := List.mem_map.mp hi
    exact numV_lt (List.all_eq_true.mp h.1 y hy)
theorem frac_lt {z : Str} {p : Int × Int} (h : fracV z = some p) : p.1.natAbs < big ∧ p.2.natAbs < big := by
  have one : (1 : Int).natAbs < big := by decide +kernel
  unfold fracV at h
  split at h
  · split at h
    · rename_i ha
      cases h
      exact ⟨numV_lt ha, one⟩
    · cases h
  · split at h
    · rename_i ha
      cases h
      exact ⟨numV_lt ha.1, numV_lt ha.2.1⟩
    · cases h
  · cases h
theorem same_fraction {z : Str} (g : Gd z) : Same (M_parse_fraction [.str z]) (M__law_fraction_due [.str z]) := by
  rw [e_parse_fraction g, e_fraction_due g]
  cases h : fracV z with
  | none => exact ⟨_, rfl, .inr ⟨rfl, rfl⟩, repr_none⟩
  | some p =>
    obtain ⟨h1, h2⟩ := frac_lt h
    have e : fracD p = .tuple (intsD [p.1, p.2]) := rfl
    refine ⟨_, rfl, .inl ⟨_, rfl, rfl⟩, ?_⟩
    show ∃ x, bRepr [.list [fracD p]] = some (.str x) ∧ PyData.strOk x = true
    rw [e]
    refine repr_one (small_ints (by simp) fun i hi => ?_) (asc_ints _)
    simp only [List.mem_cons, List.not_mem_nil, or_false] at hi
    rcases hi with rfl | rfl <;> assumption
theorem isPE_is : isPE "ParseError" = true := by decide +kernel
theorem told_step {f g : DQ} {A' B' : SM} {ρ : Rho} (h : Same (f ρ) (g ρ)) : mIf (liO (sB (sOp oNe (sBi bRepr (sCons (sTry isPE f) sNil)) (lS (dBi bRepr (dCons g dNil)))))) A' B' ρ = B' ρ := by
  obtain ⟨d, e1, e2, x, e3, ox⟩ := h
  have hn : oNe (.str x) (.str x) = some (.bool false) := by
    rw [p_neS ox ox]
    simp
  rcases e2 with ⟨v, e2, rfl⟩ | ⟨e2, rfl⟩
  · simp only [mir, mirL, mirN, startR, startL, mSeq, mNil, mFrz, mSet, mAsg, mPar, mNew, mNew2, mDrop, mRet, mRetN, mIf, mRaise, mFor, mWhile, mSetIx, xbind, liR, liO, lS, lST, lSs, Out.thn, outR, own0, dVar, dOwn, dC, dOp, dChain, dB, asB, dAnd, dOr, dNot, dAndV, dOrV, dNotV, dIf, dNeg, dNil, dCons, dTup, dLst, dCall, dBi, dSl, dNo, dSo, dM1, dIsi, dItems, dRng, dZip, dLc, dYes, dFmt, wipeR, setR, gtN, gtSeq, gtCons, gtNil, sNil, sCons, sOp, sB, sNotT, sTup, sLst, sBi, sCall, sSl, sOwn, sCallL, sRng, sItems, sLc, sYes, sTry, nLst, nList, nCall, Res.bind, ofO, frz, List.map_cons, List.map_nil, List.length_cons, List.length_nil, List.replicate, List.cons_append, List.nil_append, List.getElem?_cons_zero, List.getElem?_cons_succ, List.set_cons_zero, List.set_cons_succ, List.foldl_cons, List.foldl_nil, Nat.reduceAdd, Nat.reduceSub, Nat.reduceLeDiff, Nat.zero_le, Nat.zero_add, Option.bind_some, Option.map_some, Option.bind_none, Option.map_none, if_true, if_false, reduceIte, Bool.not_true, Bool.not_false, Bool.false_eq_true, e2, e3, e1, hn]
  · simp only [mir, mirL, mirN, startR, startL, mSeq, mNil, mFrz, mSet, mAsg, mPar, mNew, mNew2, mDrop, mRet, mRetN, mIf, mRaise, mFor, mWhile, mSetIx, xbind, liR, liO, lS, lST, lSs, Out.thn, outR, own0, dVar, dOwn, dC, dOp, dChain, dB, asB, dAnd, dOr, dNot, dAndV, dOrV, dNotV, dIf, dNeg, dNil, dCons, dTup, dLst, dCall, dBi, dSl, dNo, dSo, dM1, dIsi, dItems, dRng, dZip, dLc, dYes, dFmt, wipeR, setR, gtN, gtSeq, gtCons, gtNil, sNil, sCons, sOp, sB, sNotT, sTup, sLst, sBi, sCall, sSl, sOwn, sCallL, sRng, sItems, sLc, sYes, sTry, nLst, nList, nCall, Res.bind, ofO, frz, List.map_cons, List.map_nil, List.length_cons, List.length_nil, List.replicate, List.cons_append, List.nil_append, List.getElem?_cons_zero, List.getElem?_cons_succ, List.set_cons_zero, List.set_cons_succ, List.foldl_cons, List.foldl_nil, Nat.reduceAdd, Nat.reduceSub, Nat.reduceLeDiff, Nat.zero_le, Nat.zero_add, Option.bind_some, Option.map_some, Option.bind_none, Option.map_none, if_true, if_false, reduceIte, Bool.not_true, Bool.not_false, Bool.false_eq_true, e2, isPE_is, e3, e1, hn]
theorem told_seq {f g : DQ} {A' k : SM} {ρ : Rho} (h : Same (f ρ) (g ρ)) : mSeq (mIf (liO (sB (sOp oNe (sBi bRepr (sCons (sTry isPE f) sNil)) (lS (dBi bRepr (dCons g dNil)))))) A' mNil) k ρ = k ρ := seq_nx (told_step (B' := mNil) h)
theorem forL_inv {i N : Nat} {body : SM} {R : Nat → Rho → Prop} (step : ∀ k ρ d, k < N → R k ρ → ∃ ρ', body (setR ρ [(i, d)]) = .nx ρ' ∧ R (k + 1) ρ') : ∀ (ds : List PyData) (k : Nat) (ρ : Rho), k + ds.length ≤ N → R k ρ → ∃ ρ', forL (gtN i) body ρ ds = .nx ρ' ∧ R (k + ds.length) ρ'
  | [], k, ρ, _, h => ⟨ρ, rfl, h⟩
  | d :: ds, k, ρ, hN, h => by
    rw [List.length_cons] at hN
    obtain ⟨ρ1, e1, h1⟩ := step k ρ d (by omega) h
    obtain ⟨ρ2, e2, h2⟩ := forL_inv (i := i) step ds (k + 1) ρ1 (by omega) h1
    refine ⟨ρ2, ?_, by rw [List.length_cons, show k + (ds.length + 1) = k + 1 + ds.length by omega]; exact h2⟩
    unfold forL
    simp only [gtN, e1, e2]
theorem eqv_strs3 (a b c : Str) : PyData.eqv (.list [.str a, .str b, .str c]) (.list [.str a, .str b, .str c]) = true := by simp [PyData.eqv, PyData.eqvAll]
theorem sh_strs3 {a b c : Str} (ha : PyData.strOk a = true) (hb : PyData.strOk b = true) (hc : PyData.strOk c = true) : SeqAt.shaped (.list [.str a, .str b, .str c]) = true := sh_strs (zs := [a, b, c]) fun z hz => by
  simp only [List.mem_cons, List.not_mem_nil, or_false] at hz
  rcases hz with rfl | rfl | rfl <;> assumption
/-- the vector of integers -/
theorem vec_step {B : Nat} {s : List PyData} (S : Sm B s) (hB : B ≤ 800000) (X Y : PyData) : ∃ is s', sBi bTuple (sCons (sLc (sRng (sCons (sOp oAdd (lS (dC (.int 1))) (sOwn 0 M__law_draw (sCons (lS (dC (.int 5))) sNil))) sNil)) (gtN 7) sYes (sOwn 0 M__law_integer sNil) [7]) sNil) [.own s, .dat X, .dat Y, .un, .un, .un, .un, .un, .un, .un, .un, .un, .un, .un] = some (.tuple (intsD is), [.own s', .dat X, .dat Y, .un, .un, .un, .un, .un, .un, .un, .un, .un, .un, .un]) ∧ (∀ i ∈ is, i.natAbs < big) ∧ 1 ≤ is.length ∧ is.length ≤ 5 ∧ Sm (B + 30) s' := by
  obtain ⟨r, s1, e1, r0, r1, S1⟩ := e_draw S (by omega) (n := 5) (by decide) (by decide)
  obtain ⟨l, e2, hl⟩ := rng_is (1 + r) (by omega) (by omega)
  obtain ⟨ys, ρ', e3, h3, h4, b, t, rfl, Sk⟩ := slc_draws (N := l.length) (i := 7) (e := sOwn 0 M__law_integer sNil) (vs := [7]) (P := fun y => ∃ i : Int, y = .int i ∧ i.natAbs < big) (R := fun k ρ => ∃ b t, ρ = [Itm.own b, .dat X, .dat Y, .un, .un, .un, .un, t, .un, .un, .un, .un, .un, .un] ∧ Sm (B + 1 + 4 * k) b) (fun k ρ d hk h => by
    obtain ⟨b, t, rfl, Sb⟩ := h
    obtain ⟨i, s', p2, m, S'⟩ := e_integer Sb (by omega)
    refine ⟨.int i, [.own s', .dat X, .dat Y, .un, .un, .un, .un, .dat d, .un, .un, .un, .un, .un, .un], ?_, ⟨i, rfl, m⟩, s', .dat d, rfl, S'.up (by omega)⟩
    simp only [mir, mirL, mirN, startR, startL, mSeq, mNil, mFrz, mSet, mAsg, mPar, mNew, mNew2, mDrop, mRet, mRetN, mIf, mRaise, mFor, mWhile, mSetIx, xbind, liR, liO, lS, lST, lSs, Out.thn, outR, own0, dVar, dOwn, dC, dOp, dChain, dB, asB, dAnd, dOr, dNot, dAndV, dOrV, dNotV, dIf, dNeg, dNil, dCons, dTup, dLst, dCall, dBi, dSl, dNo, dSo, dM1, dIsi, dItems, dRng, dZip, dLc, dYes, dFmt, wipeR, setR, gtN, gtSeq, gtCons, gtNil, sNil, sCons, sOp, sB, sNotT, sTup, sLst, sBi, sCall, sSl, sOwn, sCallL, sRng, sItems, sLc, sYes, sTry, nLst, nList, nCall, Res.bind, ofO, frz, List.map_cons, List.map_nil, List.length_cons, List.length_nil, List.replicate, List.cons_append, List.nil_append, List.getElem?_cons_zero, List.getElem?_cons_succ, List.set_cons_zero, List.set_cons_succ, List.foldl_cons, List.foldl_nil, Nat.reduceAdd, Nat.reduceSub, Nat.reduceLeDiff, Nat.zero_le, Nat.zero_add, Option.bind_some, Option.map_some, Option.bind_none, Option.map_none, if_true, if_false, reduceIte, Bool.not_true, Bool.not_false, Bool.false_eq_true, p2]) l 0 [Itm.own s1, .dat X, .dat Y, .un, .un, .un, .un, .un, .un, .un, .un, .un, .un, .un] (by omega) ⟨s1, .un, rfl, S1⟩
  have back : ∀ {ys : List PyData}, (∀ y ∈ ys, ∃ i : Int, y = .int i ∧ i.natAbs < big) → ∃ is, ys = intsD is ∧ ∀ i ∈ is, i.natAbs < big := by
    intro ys
    induction ys with
    | nil => exact fun _ => ⟨[], rfl, fun i m => (List.not_mem_nil m).elim⟩
    | cons y ys ih =>
      intro h
      obtain ⟨i, rfl, hi⟩ := h y List.mem_cons_self
      obtain ⟨is, rfl, hs⟩ := ih fun z m => h z (List.mem_cons_of_mem _ m)
      exact ⟨i :: is, rfl, fun j m => (List.mem_cons.mp m).elim (fun q => by rw [q]; exact hi) (hs j)⟩
  obtain ⟨is, rfl, hi⟩ := back h4
  have hz : is.length = l.length := by rw [← h3]; exact (List.length_map _).symm
  have ll : l.length ≤ 100000 := by omega
  refine ⟨is, b, ?_, hi, by omega, by omega, Sk.up (by omega)⟩
  simp only [mir, mirL, mirN, startR, startL, mSeq, mNil, mFrz, mSet, mAsg, mPar, mNew, mNew2, mDrop, mRet, mRetN, mIf, mRaise, mFor, mWhile, mSetIx, xbind, liR, liO, lS, lST, lSs, Out.thn, outR, own0, dVar, dOwn, dC, dOp, dChain, dB, asB, dAnd, dOr, dNot, dAndV, dOrV, dNotV, dIf, dNeg, dNil, dCons, dTup, dLst, dCall, dBi, dSl, dNo, dSo, dM1, dIsi, dItems, dRng, dZip, dLc, dYes, dFmt, wipeR, setR, gtN, gtSeq, gtCons, gtNil, sNil, sCons, sOp, sB, sNotT, sTup, sLst, sBi, sCall, sSl, sOwn, sCallL, sRng, sItems, sLc, sYes, sTry, nLst, nList, nCall, Res.bind, ofO, frz, List.map_cons, List.map_nil, List.length_cons, List.length_nil, List.replicate, List.cons_append, List.nil_append, List.getElem?_cons_zero, List.getElem?_cons_succ, List.set_cons_zero, List.set_cons_succ, List.foldl_cons, List.foldl_nil, Nat.reduceAdd, Nat.reduceSub, Nat.reduceLeDiff, Nat.zero_le, Nat.zero_add, Option.bind_some, Option.map_some, Option.bind_none, Option.map_none, if_true, if_false, reduceIte, Bool.not_true, Bool.not_false, Bool.false_eq_true, e1, p_add, e2, if_pos ll, e3, tup_of, resR]
  rfl
end K77
end

section
set_option Elab.async false
set_option linter.all false
set_option maxRecDepth 100000
set_option maxHeartbeats 8000000
namespace K77
open D PySem L2 TL NumText
/-- one turn of the inner loop -/
def turnB : SM := mSeq (mAsg (gtSeq 3 (gtCons (gtN 9) (gtCons (gtN 10) (gtCons (gtN 11) gtNil)))) (liO (sLc (lSs (dItems (dVar 5))) (gtN 12) sYes (sCallL 0 M__law_spoilt (sCons (lS (dVar 12)) sNil)) [12])))
  (mSeq (mIf (liO (sB (sOp oNe (sBi bRepr (sCons (sTry isPE (dCall M_parse_word (dCons (dVar 1) (dCons (dVar 9) dNil)))) sNil)) (lS (dBi bRepr (dCons (dCall M__law_word_due (dCons (dVar 1) (dCons (dVar 9) dNil))) dNil))))))
  (mSeq (mRet (liR (dC (.bool false))))
  mNil)
  mNil)
  (mSeq (mIf (liO (sB (sOp oNe (sBi bRepr (sCons (sTry isPE (dCall M_parse_vector (dCons (dVar 10) dNil))) sNil)) (lS (dBi bRepr (dCons (dCall M__law_vector_due (dCons (dVar 10) dNil)) dNil))))))
  (mSeq (mRet (liR (dC (.bool false))))
  mNil)
  mNil)
  (mSeq (mIf (liO (sB (sOp oNe (sBi bRepr (sCons (sTry isPE (dCall M_parse_fraction (dCons (dVar 11) dNil))) sNil)) (lS (dBi bRepr (dCons (dCall M__law_fraction_due (dCons (dVar 11) dNil)) dNil))))))
  (mSeq (mRet (liR (dC (.bool false))))
  mNil)
  mNil)
  mNil)))
theorem turn_ok {al : List Str} (A : Al al) {B : Nat} {s : List PyData} (S : Sm B s) (hB : B ≤ 800000) {w v f : Str} (gw : Gd w) (gv : Gd v) (gf : Gd f) (lw : w.length ≤ 9000) (lv : v.length ≤ 9000) (lf : f.length ≤ 9000) (d2 d3 d4 d6 d7 : PyData) (t9 t10 t11 : Itm) :
    ∃ s' t9' t10' t11', turnB [.own s, .dat (.tuple (strsD al)), .dat d2, .dat d3, .dat d4, .dat (.list [.str w, .str v, .str f]), .dat d6, .dat d7, .un, t9, t10, t11, .un, .un] = .nx [.own s', .dat (.tuple (strsD al)), .dat d2, .dat d3, .dat d4, .dat (.list [.str w, .str v, .str f]), .dat d6, .dat d7, .un, t9', t10', t11', .un, .un] ∧ Sm (B + 9) s' := by
  obtain ⟨a, s1, e1, ga, S1⟩ := e_spoilt S (by omega) gw lw
  obtain ⟨b, s2, e2, gb, S2⟩ := e_spoilt S1 (by omega) gv lv
  obtain ⟨c, s3, e3, gc, S3⟩ := e_spoilt S2 (by omega) gf lf
  refine ⟨s3, .dat (.str a), .dat (.str b), .dat (.str c), ?_, S3⟩
  have h1 : mAsg (gtSeq 3 (gtCons (gtN 9) (gtCons (gtN 10) (gtCons (gtN 11) gtNil)))) (liO (sLc (lSs (dItems (dVar 5))) (gtN 12) sYes (sCallL 0 M__law_spoilt (sCons (lS (dVar 12)) sNil)) [12])) [.own s, .dat (.tuple (strsD al)), .dat d2, .dat d3, .dat d4, .dat (.list [.str w, .str v, .str f]), .dat d6, .dat d7, .un, t9, t10, t11, .un, .un] = .nx [.own s3, .dat (.tuple (strsD al)), .dat d2, .dat d3, .dat d4, .dat (.list [.str w, .str v, .str f]), .dat d6, .dat d7, .un, .dat (.str a), .dat (.str b), .dat (.str c), .un, .un] := by
    have z : (3 : Nat) ≤ 100000 := by decide
    simp only [mir, mirL, mirN, startR, startL, mSeq, mNil, mFrz, mSet, mAsg, mPar, mNew, mNew2, mDrop, mRet, mRetN, mIf, mRaise, mFor, mWhile, mSetIx, xbind, liR, liO, lS, lST, lSs, Out.thn, outR, own0, dVar, dOwn, dC, dOp, dChain, dB, asB, dAnd, dOr, dNot, dAndV, dOrV, dNotV, dIf, dNeg, dNil, dCons, dTup, dLst, dCall, dBi, dSl, dNo, dSo, dM1, dIsi, dItems, dRng, dZip, dLc, dYes, dFmt, wipeR, setR, gtN, gtSeq, gtCons, gtNil, sNil, sCons, sOp, sB, sNotT, sTup, sLst, sBi, sCall, sSl, sOwn, sCallL, sRng, sItems, sLc, sYes, sTry, nLst, nList, nCall, Res.bind, ofO, frz, List.map_cons, List.map_nil, List.length_cons, List.length_nil, List.replicate, List.cons_append, List.nil_append, List.getElem?_cons_zero, List.getElem?_cons_succ, List.set_cons_zero, List.set_cons_succ, List.foldl_cons, List.foldl_nil, Nat.reduceAdd, Nat.reduceSub, Nat.reduceLeDiff, Nat.zero_le, Nat.zero_add, Option.bind_some, Option.map_some, Option.bind_none, Option.map_none, if_true, if_false, reduceIte, Bool.not_true, Bool.not_false, Bool.false_eq_true, i_lst, slc, e1, e2, e3, if_pos z, resR]
    rfl
  unfold turnB
  rw [seq_nx h1, told_seq (f := dCall M_parse_word (dCons (dVar 1) (dCons (dVar 9) dNil))) (g := dCall M__law_word_due (dCons (dVar 1) (dCons (dVar 9) dNil))) (ρ := [.own s3, .dat (.tuple (strsD al)), .dat d2, .dat d3, .dat d4, .dat (.list [.str w, .str v, .str f]), .dat d6, .dat d7, .un, .dat (.str a), .dat (.str b), .dat (.str c), .un, .un]) (same_word A ga),
    told_seq (f := dCall M_parse_vector (dCons (dVar 10) dNil)) (g := dCall M__law_vector_due (dCons (dVar 10) dNil)) (ρ := [.own s3, .dat (.tuple (strsD al)), .dat d2, .dat d3, .dat d4, .dat (.list [.str w, .str v, .str f]), .dat d6, .dat d7, .un, .dat (.str a), .dat (.str b), .dat (.str c), .un, .un]) (same_vector gb),
    told_seq (f := dCall M_parse_fraction (dCons (dVar 11) dNil)) (g := dCall M__law_fraction_due (dCons (dVar 11) dNil)) (ρ := [.own s3, .dat (.tuple (strsD al)), .dat d2, .dat d3, .dat d4, .dat (.list [.str w, .str v, .str f]), .dat d6, .dat d7, .un, .dat (.str a), .dat (.str b), .dat (.str c), .un, .un]) (same_fraction gc)]
  rfl
end K77
end

section
set_option Elab.async false
set_option linter.all false
set_option maxRecDepth 100000
set_option maxHeartbeats 8000000
namespace K77
open D PySem L2 TL NumText
theorem frz_own {i : Nat} {f : SM} {ρ : Rho} : mFrz i f ρ = f (frz i ρ) := rfl
theorem forB (k : Nat) : (List.range k).map (fun (i : Nat) => PyData.int ((i : Nat) : Int)) = (List.range k).map (fun (i : Nat) => PyData.int ((i : Nat) : Int)) := rfl
theorem rng6 : rngP [.int 6] = some [.int 0, .int 1, .int 2, .int 3, .int 4, .int 5] := rfl
theorem e_right {al : List Str} (A : Al al) {B : Nat} {s : List PyData} (S : Sm B s) (hB : B ≤ 700000) : ∃ s', M__law_right s [.tuple (strsD al)] = some (.bool true, s') ∧ Sm (B + 1000) s' := by
  obtain ⟨zs, s1, e1, hz, lz, S1⟩ := e_word S (by omega) A
  obtain ⟨is, s2, e2, hi, i1, i5, S2⟩ := vec_step S1 (by omega) (.tuple (strsD al)) (.tuple (strsD zs))
  obtain ⟨x, s3, e3, hx, S3⟩ := e_integer S2 (by omega)
  obtain ⟨y, s4, e4, hy, S4⟩ := e_integer S3 (by omega)
  have y1 : 1 ≤ (if y > 1 then y else 1) := by split <;> omega
  have y2 : (if y > 1 then y else 1).natAbs < big := by
    split
    · exact hy
    · decide +kernel
  obtain ⟨t, b, e5, ht, hb, hb1, hg⟩ := e_lowest hx y2 y1
  have gw : Gd (wText zs) := wText_gd (fun z m => A.mem z (hz z m)) (by omega)
  have gv : Gd (vText is) := vText_gd hi (by omega)
  have gf : Gd (fText t b) := fText_gd ht hb
  have lw : (wText zs).length ≤ 9000 := by
    have a := sum_le (zs := zs) (k := 8) fun z m => (act_gd z (A.mem z (hz z m))).2.2
    unfold wText
    split
    · decide +kernel
    · rw [len_tl, join_eq, tl_join, blank]
      have q := joinL_len (S := [32]) (k := 8) (ps := zs.map tl) fun p hp => by
        obtain ⟨z, m, rfl⟩ := List.mem_map.mp hp
        rw [← len_tl]
        exact (act_gd z (A.mem z (hz z m))).2.2
      rw [List.length_map] at q
      simp only [List.length_cons, List.length_nil] at q
      omega
  have lv : (vText is).length ≤ 9000 := by
    unfold vText
    rw [len_tl, join_eq, tl_join, blank]
    have q := joinL_len (S := [32]) (k := 41) (ps := (is.map nt).map tl) fun p hp => by
      obtain ⟨z, m, rfl⟩ := List.mem_map.mp hp
      obtain ⟨i, mi, rfl⟩ := List.mem_map.mp m
      rw [← len_tl]
      exact nt_len (hi i mi)
    rw [List.length_map, List.length_map] at q
    simp only [List.length_cons, List.length_nil] at q
    omega
  have lf : (fText t b).length ≤ 9000 := by
    have l1 := nt_len ht
    have l2 := nt_len hb
    have sl : ("/" : Str).length = 1 := by decide +kernel
    unfold fText
    split
    · omega
    · rw [str_len_app, str_len_app, sl]
      omega
  have hm : ∀ z ∈ zs, z ∈ acts := fun z m => A.mem z (hz z m)
  have h0 : (mSet 2 (liO (sCallL 0 M__law_word (sCons (lS (dVar 1)) (sCons (lS (dC (.int 9))) sNil))))) [Itm.own s, .dat (.tuple (strsD al)), .un, .un, .un, .un, .un, .un, .un, .un, .un, .un, .un, .un] = .nx [Itm.own s1, .dat (.tuple (strsD al)), .dat (.tuple (strsD zs)), .un, .un, .un, .un, .un, .un, .un, .un, .un, .un, .un] := by
    simp only [mir, mirL, mirN, startR, startL, mSeq, mNil, mFrz, mSet, mAsg, mPar, mNew, mNew2, mDrop, mRet, mRetN, mIf, mRaise, mFor, mWhile, mSetIx, xbind, liR, liO, lS, lST, lSs, Out.thn, outR, own0, dVar, dOwn, dC, dOp, dChain, dB, asB, dAnd, dOr, dNot, dAndV, dOrV, dNotV, dIf, dNeg, dNil, dCons, dTup, dLst, dCall, dBi, dSl, dNo, dSo, dM1, dIsi, dItems, dRng, dZip, dLc, dYes, dFmt, wipeR, setR, gtN, gtSeq, gtCons, gtNil, sNil, sCons, sOp, sB, sNotT, sTup, sLst, sBi, sCall, sSl, sOwn, sCallL, sRng, sItems, sLc, sYes, sTry, nLst, nList, nCall, Res.bind, ofO, frz, List.map_cons, List.map_nil, List.length_cons, List.length_nil, List.replicate, List.cons_append, List.nil_append, List.getElem?_cons_zero, List.getElem?_cons_succ, List.set_cons_zero, List.set_cons_succ, List.foldl_cons, List.foldl_nil, Nat.reduceAdd, Nat.reduceSub, Nat.reduceLeDiff, Nat.zero_le, Nat.zero_add, Option.bind_some, Option.map_some, Option.bind_none, Option.map_none, if_true, if_false, reduceIte, Bool.not_true, Bool.not_false, Bool.false_eq_true, e1]
  have h1 : (mSet 3 (liO (sBi bTuple (sCons (sLc (sRng (sCons (sOp oAdd (lS (dC (.int 1))) (sCallL 0 M__law_draw (sCons (lS (dC (.int 5))) sNil))) sNil)) (gtN 7) sYes (sCallL 0 M__law_integer sNil) [7]) sNil)))) [Itm.own s1, .dat (.tuple (strsD al)), .dat (.tuple (strsD zs)), .un, .un, .un, .un, .un, .un, .un, .un, .un, .un, .un] = .nx [Itm.own s2, .dat (.tuple (strsD al)), .dat (.tuple (strsD zs)), .dat (.tuple (intsD is)), .un, .un, .un, .un, .un, .un, .un, .un, .un, .un] := by
    simp only [mSet, xbind, liO, sCallL, e2]
    simp only [mir, mirL, mirN, startR, startL, mSeq, mNil, mFrz, mSet, mAsg, mPar, mNew, mNew2, mDrop, mRet, mRetN, mIf, mRaise, mFor, mWhile, mSetIx, xbind, liR, liO, lS, lST, lSs, Out.thn, outR, own0, dVar, dOwn, dC, dOp, dChain, dB, asB, dAnd, dOr, dNot, dAndV, dOrV, dNotV, dIf, dNeg, dNil, dCons, dTup, dLst, dCall, dBi, dSl, dNo, dSo, dM1, dIsi, dItems, dRng, dZip, dLc, dYes, dFmt, wipeR, setR, gtN, gtSeq, gtCons, gtNil, sNil, sCons, sOp, sB, sNotT, sTup, sLst, sBi, sCall, sSl, sOwn, sCallL, sRng, sItems, sLc, sYes, sTry, nLst, nList, nCall, Res.bind, ofO, frz, List.map_cons, List.map_nil, List.length_cons, List.length_nil, List.replicate, List.cons_append, List.nil_append, List.getElem?_cons_zero, List.getElem?_cons_succ, List.set_cons_zero, List.set_cons_succ, List.foldl_cons, List.foldl_nil, Nat.reduceAdd, Nat.reduceSub, Nat.reduceLeDiff, Nat.zero_le, Nat.zero_add, Option.bind_some, Option.map_some, Option.bind_none, Option.map_none, if_true, if_false, reduceIte, Bool.not_true, Bool.not_false, Bool.false_eq_true]
  have h2 : (mSet 4 (liO (sCall M__law_lowest (sCons (sCallL 0 M__law_integer sNil) (sCons (sBi bMax2 (sCons (lS (dC (.int 1))) (sCons (sCallL 0 M__law_integer sNil) sNil))) sNil))))) [Itm.own s2, .dat (.tuple (strsD al)), .dat (.tuple (strsD zs)), .dat (.tuple (intsD is)), .un, .un, .un, .un, .un, .un, .un, .un, .un, .un] = .nx [Itm.own s4, .dat (.tuple (strsD al)), .dat (.tuple (strsD zs)), .dat (.tuple (intsD is)), .dat (fracD (t, b)), .un, .un, .un, .un, .un, .un, .un, .un, .un] := by
    have M1 : bMax2 [.int 1, .int y] = some (.int (if y > 1 then y else 1)) := rfl
    simp only [mir, mirL, mirN, startR, startL, mSeq, mNil, mFrz, mSet, mAsg, mPar, mNew, mNew2, mDrop, mRet, mRetN, mIf, mRaise, mFor, mWhile, mSetIx, xbind, liR, liO, lS, lST, lSs, Out.thn, outR, own0, dVar, dOwn, dC, dOp, dChain, dB, asB, dAnd, dOr, dNot, dAndV, dOrV, dNotV, dIf, dNeg, dNil, dCons, dTup, dLst, dCall, dBi, dSl, dNo, dSo, dM1, dIsi, dItems, dRng, dZip, dLc, dYes, dFmt, wipeR, setR, gtN, gtSeq, gtCons, gtNil, sNil, sCons, sOp, sB, sNotT, sTup, sLst, sBi, sCall, sSl, sOwn, sCallL, sRng, sItems, sLc, sYes, sTry, nLst, nList, nCall, Res.bind, ofO, frz, List.map_cons, List.map_nil, List.length_cons, List.length_nil, List.replicate, List.cons_append, List.nil_append, List.getElem?_cons_zero, List.getElem?_cons_succ, List.set_cons_zero, List.set_cons_succ, List.foldl_cons, List.foldl_nil, Nat.reduceAdd, Nat.reduceSub, Nat.reduceLeDiff, Nat.zero_le, Nat.zero_add, Option.bind_some, Option.map_some, Option.bind_none, Option.map_none, if_true, if_false, reduceIte, Bool.not_true, Bool.not_false, Bool.false_eq_true, e3, e4, M1, e5]
  have jz : joinB zs := by
    unfold joinB
    have := sum_le (zs := zs) (k := 8) fun z m => (act_gd z (hm z m)).2.2
    omega
  have ji : joinB (is.map nt) := by
    unfold joinB
    have := sum_le (zs := is.map nt) (k := 41) fun z m => by
      obtain ⟨i, mi, rfl⟩ := List.mem_map.mp m
      exact nt_len (hi i mi)
    rw [List.length_map] at this ⊢
    omega
  have h3 : (mNew 5 (nLst (sCons (lS (dIf (dB (dOp oNe (dVar 2) (dTup dNil))) (dM1 mJoin (dC (.str " ")) (dVar 2)) (dC (.str "-")))) (sCons (lS (dM1 mJoin (dC (.str " ")) (dLc (dItems (dVar 3)) (gtN 13) dYes (dBi bStr (dCons (dVar 13) dNil)) [13]))) sNil)))) [Itm.own s4, .dat (.tuple (strsD al)), .dat (.tuple (strsD zs)), .dat (.tuple (intsD is)), .dat (fracD (t, b)), .un, .un, .un, .un, .un, .un, .un, .un, .un] = .nx [Itm.own s4, .dat (.tuple (strsD al)), .dat (.tuple (strsD zs)), .dat (.tuple (intsD is)), .dat (fracD (t, b)), .own [.str (wText zs), .str (vText is)], .un, .un, .un, .un, .un, .un, .un, .un] := by
    have hN : oNe (.tuple (strsD zs)) (.tuple []) = some (.bool (!zs.isEmpty)) := by
      rw [p_ne (sh_tuple (k := 0) (by decide) fun d hd => ?_) sh_nilT, eqv_nilT]
      · cases zs <;> rfl
      · obtain ⟨z, m, rfl⟩ := List.mem_map.mp hd
        exact ⟨act_ok' (hm z m), Nat.le_refl _⟩
    have L1 : lcL (gtN 13) dYes (dBi bStr (dCons (dVar 13) dNil)) [Itm.own s4, .dat (.tuple (strsD al)), .dat (.tuple (strsD zs)), .dat (.tuple (intsD is)), .dat (fracD (t, b)), .un, .un, .un, .un, .un, .un, .un, .un, .un] (intsD is) = .ok (strsD (is.map nt)) := by
      rw [lc_map (f := fun d => match d with
        | .int i => .str (nt i)
        | d => d) fun d hd => ?_]
      · unfold intsD strsD
        rw [List.map_map, List.map_map]
        rfl
      · obtain ⟨i, m, rfl⟩ := List.mem_map.mp hd
        simp only [mir, mirL, mirN, startR, startL, mSeq, mNil, mFrz, mSet, mAsg, mPar, mNew, mNew2, mDrop, mRet, mRetN, mIf, mRaise, mFor, mWhile, mSetIx, xbind, liR, liO, lS, lST, lSs, Out.thn, outR, own0, dVar, dOwn, dC, dOp, dChain, dB, asB, dAnd, dOr, dNot, dAndV, dOrV, dNotV, dIf, dNeg, dNil, dCons, dTup, dLst, dCall, dBi, dSl, dNo, dSo, dM1, dIsi, dItems, dRng, dZip, dLc, dYes, dFmt, wipeR, setR, gtN, gtSeq, gtCons, gtNil, sNil, sCons, sOp, sB, sNotT, sTup, sLst, sBi, sCall, sSl, sOwn, sCallL, sRng, sItems, sLc, sYes, sTry, nLst, nList, nCall, Res.bind, ofO, frz, List.map_cons, List.map_nil, List.length_cons, List.length_nil, List.replicate, List.cons_append, List.nil_append, List.getElem?_cons_zero, List.getElem?_cons_succ, List.set_cons_zero, List.set_cons_succ, List.foldl_cons, List.foldl_nil, Nat.reduceAdd, Nat.reduceSub, Nat.reduceLeDiff, Nat.zero_le, Nat.zero_add, Option.bind_some, Option.map_some, Option.bind_none, Option.map_none, if_true, if_false, reduceIte, Bool.not_true, Bool.not_false, Bool.false_eq_true, p_str (hi i m)]
    have lz' : (intsD is).length ≤ 100000 := by
      unfold intsD
      rw [List.length_map]
      omega
    have V1 : mJoin " " (.list (strsD (is.map nt))) = some (.str (vText is)) := p_joinL ji
    cases h : zs.isEmpty with
    | true =>
      have w1 : wText zs = "-" := by unfold wText; rw [if_pos h]
      rw [h] at hN
      simp only [mir, mirL, mirN, startR, startL, mSeq, mNil, mFrz, mSet, mAsg, mPar, mNew, mNew2, mDrop, mRet, mRetN, mIf, mRaise, mFor, mWhile, mSetIx, xbind, liR, liO, lS, lST, lSs, Out.thn, outR, own0, dVar, dOwn, dC, dOp, dChain, dB, asB, dAnd, dOr, dNot, dAndV, dOrV, dNotV, dIf, dNeg, dNil, dCons, dTup, dLst, dCall, dBi, dSl, dNo, dSo, dM1, dIsi, dItems, dRng, dZip, dLc, dYes, dFmt, wipeR, setR, gtN, gtSeq, gtCons, gtNil, sNil, sCons, sOp, sB, sNotT, sTup, sLst, sBi, sCall, sSl, sOwn, sCallL, sRng, sItems, sLc, sYes, sTry, nLst, nList, nCall, Res.bind, ofO, frz, List.map_cons, List.map_nil, List.length_cons, List.length_nil, List.replicate, List.cons_append, List.nil_append, List.getElem?_cons_zero, List.getElem?_cons_succ, List.set_cons_zero, List.set_cons_succ, List.foldl_cons, List.foldl_nil, Nat.reduceAdd, Nat.reduceSub, Nat.reduceLeDiff, Nat.zero_le, Nat.zero_add, Option.bind_some, Option.map_some, Option.bind_none, Option.map_none, if_true, if_false, reduceIte, Bool.not_true, Bool.not_false, Bool.false_eq_true, hN, i_tup, if_pos lz', L1, V1, w1]
    | false =>
      have w1 : mJoin " " (.tuple (strsD zs)) = some (.str (wText zs)) := by
        rw [p_joinT jz]
        unfold wText
        rw [if_neg (by rw [h]; exact Bool.false_ne_true)]
      rw [h] at hN
      simp only [mir, mirL, mirN, startR, startL, mSeq, mNil, mFrz, mSet, mAsg, mPar, mNew, mNew2, mDrop, mRet, mRetN, mIf, mRaise, mFor, mWhile, mSetIx, xbind, liR, liO, lS, lST, lSs, Out.thn, outR, own0, dVar, dOwn, dC, dOp, dChain, dB, asB, dAnd, dOr, dNot, dAndV, dOrV, dNotV, dIf, dNeg, dNil, dCons, dTup, dLst, dCall, dBi, dSl, dNo, dSo, dM1, dIsi, dItems, dRng, dZip, dLc, dYes, dFmt, wipeR, setR, gtN, gtSeq, gtCons, gtNil, sNil, sCons, sOp, sB, sNotT, sTup, sLst, sBi, sCall, sSl, sOwn, sCallL, sRng, sItems, sLc, sYes, sTry, nLst, nList, nCall, Res.bind, ofO, frz, List.map_cons, List.map_nil, List.length_cons, List.length_nil, List.replicate, List.cons_append, List.nil_append, List.getElem?_cons_zero, List.getElem?_cons_succ, List.set_cons_zero, List.set_cons_succ, List.foldl_cons, List.foldl_nil, Nat.reduceAdd, Nat.reduceSub, Nat.reduceLeDiff, Nat.zero_le, Nat.zero_add, Option.bind_some, Option.map_some, Option.bind_none, Option.map_none, if_true, if_false, reduceIte, Bool.not_true, Bool.not_false, Bool.false_eq_true, hN, w1, i_tup, if_pos lz', L1, V1]
  have h4 : (mDrop (liO (sOwn 5 mAppend (sCons (lS (dIf (dB (dOp oEq (dOp oIx (dVar 4) (dC (.int 1))) (dC (.int 1)))) (dBi bStr (dCons (dOp oIx (dVar 4) (dC (.int 0))) dNil)) (dOp oAdd (dOp oAdd (dBi bStr (dCons (dOp oIx (dVar 4) (dC (.int 0))) dNil)) (dC (.str "/"))) (dBi bStr (dCons (dOp oIx (dVar 4) (dC (.int 1))) dNil))))) sNil)))) [Itm.own s4, .dat (.tuple (strsD al)), .dat (.tuple (strsD zs)), .dat (.tuple (intsD is)), .dat (fracD (t, b)), .own [.str (wText zs), .str (vText is)], .un, .un, .un, .un, .un, .un, .un, .un] = .nx [Itm.own s4, .dat (.tuple (strsD al)), .dat (.tuple (strsD zs)), .dat (.tuple (intsD is)), .dat (fracD (t, b)), .own [.str (wText zs), .str (vText is), .str (fText t b)], .un, .un, .un, .un, .un, .un, .un, .un] := by
    have x0 : oIx (fracD (t, b)) (.int 0) = some (.int t) := rfl
    have x1 : oIx (fracD (t, b)) (.int 1) = some (.int b) := rfl
    have A0 : ∀ d, mAppend [.str (wText zs), .str (vText is)] [d] = some (.none, [.str (wText zs), .str (vText is), d]) := fun d => rfl
    have l1 := nt_len ht
    have l2 := nt_len hb
    have sl : ("/" : Str).length = 1 := by decide +kernel
    have P1 : oAdd (.str (nt t)) (.str "/") = some (.str (nt t ++ ("/" : Str))) := p_addS (by omega)
    have P2 : oAdd (.str (nt t ++ ("/" : Str))) (.str (nt b)) = some (.str (nt t ++ ("/" : Str) ++ nt b)) := p_addS (by rw [str_len_app, sl]; omega)
    by_cases hb2 : b = 1
    · have f1 : fText t b = nt t := by unfold fText; rw [if_pos hb2]
      have q1 : oEq (.int b) (.int 1) = some (.bool true) := by rw [p_eqI, hb2]; rfl
      simp only [mir, mirL, mirN, startR, startL, mSeq, mNil, mFrz, mSet, mAsg, mPar, mNew, mNew2, mDrop, mRet, mRetN, mIf, mRaise, mFor, mWhile, mSetIx, xbind, liR, liO, lS, lST, lSs, Out.thn, outR, own0, dVar, dOwn, dC, dOp, dChain, dB, asB, dAnd, dOr, dNot, dAndV, dOrV, dNotV, dIf, dNeg, dNil, dCons, dTup, dLst, dCall, dBi, dSl, dNo, dSo, dM1, dIsi, dItems, dRng, dZip, dLc, dYes, dFmt, wipeR, setR, gtN, gtSeq, gtCons, gtNil, sNil, sCons, sOp, sB, sNotT, sTup, sLst, sBi, sCall, sSl, sOwn, sCallL, sRng, sItems, sLc, sYes, sTry, nLst, nList, nCall, Res.bind, ofO, frz, List.map_cons, List.map_nil, List.length_cons, List.length_nil, List.replicate, List.cons_append, List.nil_append, List.getElem?_cons_zero, List.getElem?_cons_succ, List.set_cons_zero, List.set_cons_succ, List.foldl_cons, List.foldl_nil, Nat.reduceAdd, Nat.reduceSub, Nat.reduceLeDiff, Nat.zero_le, Nat.zero_add, Option.bind_some, Option.map_some, Option.bind_none, Option.map_none, if_true, if_false, reduceIte, Bool.not_true, Bool.not_false, Bool.false_eq_true, x0, x1, q1, p_str ht, A0, f1]
    · have f1 : fText t b = nt t ++ ("/" : Str) ++ nt b := by unfold fText; rw [if_neg hb2]
      have q1 : oEq (.int b) (.int 1) = some (.bool false) := by
        rw [p_eqI]
        have : (b == 1) = false := by simpa using hb2
        rw [this]
      simp only [mir, mirL, mirN, startR, startL, mSeq, mNil, mFrz, mSet, mAsg, mPar, mNew, mNew2, mDrop, mRet, mRetN, mIf, mRaise, mFor, mWhile, mSetIx, xbind, liR, liO, lS, lST, lSs, Out.thn, outR, own0, dVar, dOwn, dC, dOp, dChain, dB, asB, dAnd, dOr, dNot, dAndV, dOrV, dNotV, dIf, dNeg, dNil, dCons, dTup, dLst, dCall, dBi, dSl, dNo, dSo, dM1, dIsi, dItems, dRng, dZip, dLc, dYes, dFmt, wipeR, setR, gtN, gtSeq, gtCons, gtNil, sNil, sCons, sOp, sB, sNotT, sTup, sLst, sBi, sCall, sSl, sOwn, sCallL, sRng, sItems, sLc, sYes, sTry, nLst, nList, nCall, Res.bind, ofO, frz, List.map_cons, List.map_nil, List.length_cons, List.length_nil, List.replicate, List.cons_append, List.nil_append, List.getElem?_cons_zero, List.getElem?_cons_succ, List.set_cons_zero, List.set_cons_succ, List.foldl_cons, List.foldl_nil, Nat.reduceAdd, Nat.reduceSub, Nat.reduceLeDiff, Nat.zero_le, Nat.zero_add, Option.bind_some, Option.map_some, Option.bind_none, Option.map_none, if_true, if_false, reduceIte, Bool.not_true, Bool.not_false, Bool.false_eq_true, x0, x1, q1, p_str ht, p_str hb, P1, P2, A0, f1]
  have h5 : frz 5 [Itm.own s4, .dat (.tuple (strsD al)), .dat (.tuple (strsD zs)), .dat (.tuple (intsD is)), .dat (fracD (t, b)), .own [.str (wText zs), .str (vText is), .str (fText t b)], .un, .un, .un, .un, .un, .un, .un, .un] = [Itm.own s4, .dat (.tuple (strsD al)), .dat (.tuple (strsD zs)), .dat (.tuple (intsD is)), .dat (fracD (t, b)), .dat (.list [.str (wText zs), .str (vText is), .str (fText t b)]), .un, .un, .un, .un, .un, .un, .un, .un] := rfl
  have e6 := e_format_word A hz (by omega)
  have e7 := e_format_vector hi i1 i5
  have e8 := e_format_fraction ht hb hb1 hg
  have e8' : M_format_fraction [fracD (t, b)] = .ok (.str (fText t b)) := e8
  have h6 : (mIf (liR (dB (dOp oNe (dLst (dCons (dCall M_format_word (dCons (dVar 1) (dCons (dVar 2) dNil))) (dCons (dCall M_format_vector (dCons (dVar 3) dNil)) (dCons (dCall M_format_fraction (dCons (dVar 4) dNil)) dNil)))) (dVar 5))))
  (mSeq (mRet (liR (dC (.bool false))))
  mNil)
  mNil) [Itm.own s4, .dat (.tuple (strsD al)), .dat (.tuple (strsD zs)), .dat (.tuple (intsD is)), .dat (fracD (t, b)), .dat (.list [.str (wText zs), .str (vText is), .str (fText t b)]), .un, .un, .un, .un, .un, .un, .un, .un] = .nx [Itm.own s4, .dat (.tuple (strsD al)), .dat (.tuple (strsD zs)), .dat (.tuple (intsD is)), .dat (fracD (t, b)), .dat (.list [.str (wText zs), .str (vText is), .str (fText t b)]), .un, .un, .un, .un, .un, .un, .un, .un] := by
    have q : oNe (.list [.str (wText zs), .str (vText is), .str (fText t b)]) (.list [.str (wText zs), .str (vText is), .str (fText t b)]) = some (.bool false) := by
      rw [p_ne (sh_strs3 gw.ok gv.ok gf.ok) (sh_strs3 gw.ok gv.ok gf.ok), eqv_strs3]
      rfl
    simp only [mir, mirL, mirN, startR, startL, mSeq, mNil, mFrz, mSet, mAsg, mPar, mNew, mNew2, mDrop, mRet, mRetN, mIf, mRaise, mFor, mWhile, mSetIx, xbind, liR, liO, lS, lST, lSs, Out.thn, outR, own0, dVar, dOwn, dC, dOp, dChain, dB, asB, dAnd, dOr, dNot, dAndV, dOrV, dNotV, dIf, dNeg, dNil, dCons, dTup, dLst, dCall, dBi, dSl, dNo, dSo, dM1, dIsi, dItems, dRng, dZip, dLc, dYes, dFmt, wipeR, setR, gtN, gtSeq, gtCons, gtNil, sNil, sCons, sOp, sB, sNotT, sTup, sLst, sBi, sCall, sSl, sOwn, sCallL, sRng, sItems, sLc, sYes, sTry, nLst, nList, nCall, Res.bind, ofO, frz, List.map_cons, List.map_nil, List.length_cons, List.length_nil, List.replicate, List.cons_append, List.nil_append, List.getElem?_cons_zero, List.getElem?_cons_succ, List.set_cons_zero, List.set_cons_succ, List.foldl_cons, List.foldl_nil, Nat.reduceAdd, Nat.reduceSub, Nat.reduceLeDiff, Nat.zero_le, Nat.zero_add, Option.bind_some, Option.map_some, Option.bind_none, Option.map_none, if_true, if_false, reduceIte, Bool.not_true, Bool.not_false, Bool.false_eq_true, e6, e7, e8', q]
  have k1 := back_word A hz (by omega)
  have k2 := back_vector hi i1 i5
  have k3 := back_fraction ht hb hb1 hg
  have h7 : (mSet 6 (liR (dLst (dCons (dCall M_parse_word (dCons (dVar 1) (dCons (dOp oIx (dVar 5) (dC (.int 0))) dNil))) (dCons (dCall M_parse_vector (dCons (dOp oIx (dVar 5) (dC (.int 1))) dNil)) (dCons (dCall M_parse_fraction (dCons (dOp oIx (dVar 5) (dC (.int 2))) dNil)) dNil)))))) [Itm.own s4, .dat (.tuple (strsD al)), .dat (.tuple (strsD zs)), .dat (.tuple (intsD is)), .dat (fracD (t, b)), .dat (.list [.str (wText zs), .str (vText is), .str (fText t b)]), .un, .un, .un, .un, .un, .un, .un, .un] = .nx [Itm.own s4, .dat (.tuple (strsD al)), .dat (.tuple (strsD zs)), .dat (.tuple (intsD is)), .dat (fracD (t, b)), .dat (.list [.str (wText zs), .str (vText is), .str (fText t b)]), .dat (.list [.tuple (strsD zs), .tuple (intsD is), fracD (t, b)]), .un, .un, .un, .un, .un, .un, .un] := by
    have x0 : oIx (.list [.str (wText zs), .str (vText is), .str (fText t b)]) (.int 0) = some (.str (wText zs)) := rfl
    have x1 : oIx (.list [.str (wText zs), .str (vText is), .str (fText t b)]) (.int 1) = some (.str (vText is)) := rfl
    have x2 : oIx (.list [.str (wText zs), .str (vText is), .str (fText t b)]) (.int 2) = some (.str (fText t b)) := rfl
    simp only [mir, mirL, mirN, startR, startL, mSeq, mNil, mFrz, mSet, mAsg, mPar, mNew, mNew2, mDrop, mRet, mRetN, mIf, mRaise, mFor, mWhile, mSetIx, xbind, liR, liO, lS, lST, lSs, Out.thn, outR, own0, dVar, dOwn, dC, dOp, dChain, dB, asB, dAnd, dOr, dNot, dAndV, dOrV, dNotV, dIf, dNeg, dNil, dCons, dTup, dLst, dCall, dBi, dSl, dNo, dSo, dM1, dIsi, dItems, dRng, dZip, dLc, dYes, dFmt, wipeR, setR, gtN, gtSeq, gtCons, gtNil, sNil, sCons, sOp, sB, sNotT, sTup, sLst, sBi, sCall, sSl, sOwn, sCallL, sRng, sItems, sLc, sYes, sTry, nLst, nList, nCall, Res.bind, ofO, frz, List.map_cons, List.map_nil, List.length_cons, List.length_nil, List.replicate, List.cons_append, List.nil_append, List.getElem?_cons_zero, List.getElem?_cons_succ, List.set_cons_zero, List.set_cons_succ, List.foldl_cons, List.foldl_nil, Nat.reduceAdd, Nat.reduceSub, Nat.reduceLeDiff, Nat.zero_le, Nat.zero_add, Option.bind_some, Option.map_some, Option.bind_none, Option.map_none, if_true, if_false, reduceIte, Bool.not_true, Bool.not_false, Bool.false_eq_true, x0, x1, x2, k1, k2, k3]
  have fe : fracD (t, b) = .tuple (intsD [t, b]) := rfl
  have h8 : (mIf (liR (dB (dOp oNe (dBi bRepr (dCons (dVar 6) dNil)) (dBi bRepr (dCons (dLst (dCons (dVar 2) (dCons (dVar 3) (dCons (dVar 4) dNil)))) dNil)))))
  (mSeq (mRet (liR (dC (.bool false))))
  mNil)
  mNil) [Itm.own s4, .dat (.tuple (strsD al)), .dat (.tuple (strsD zs)), .dat (.tuple (intsD is)), .dat (fracD (t, b)), .dat (.list [.str (wText zs), .str (vText is), .str (fText t b)]), .dat (.list [.tuple (strsD zs), .tuple (intsD is), fracD (t, b)]), .un, .un, .un, .un, .un, .un, .un] = .nx [Itm.own s4, .dat (.tuple (strsD al)), .dat (.tuple (strsD zs)), .dat (.tuple (intsD is)), .dat (fracD (t, b)), .dat (.list [.str (wText zs), .str (vText is), .str (fText t b)]), .dat (.list [.tuple (strsD zs), .tuple (intsD is), fracD (t, b)]), .un, .un, .un, .un, .un, .un, .un] := by
    have sm3 : Small (fracD (t, b)) := by
      rw [fe]
      refine small_ints (by simp) fun i m => ?_
      simp only [List.mem_cons, List.not_mem_nil, or_false] at m
      rcases m with rfl | rfl <;> assumption
    have r1 : bRepr [.list [.tuple (strsD zs), .tuple (intsD is), fracD (t, b)]] = some (.str (PyData.list [.tuple (strsD zs), .tuple (intsD is), fracD (t, b)]).shown) := if_pos (show_three (small_word (by omega) hm) (small_ints (by omega) hi) sm3)
    have ok : PyData.strOk (PyData.list [.tuple (strsD zs), .tuple (intsD is), fracD (t, b)]).shown = true := (asc_list3 (asc_word hm) (asc_ints is) (asc_ints [t, b])).ok
    have q : ∀ x, PyData.strOk x = true → oNe (.str x) (.str x) = some (.bool false) := fun x ox => by
      rw [p_neS ox ox]
      simp
    have q1 := q _ ok
    simp only [mir, mirL, mirN, startR, startL, mSeq, mNil, mFrz, mSet, mAsg, mPar, mNew, mNew2, mDrop, mRet, mRetN, mIf, mRaise, mFor, mWhile, mSetIx, xbind, liR, liO, lS, lST, lSs, Out.thn, outR, own0, dVar, dOwn, dC, dOp, dChain, dB, asB, dAnd, dOr, dNot, dAndV, dOrV, dNotV, dIf, dNeg, dNil, dCons, dTup, dLst, dCall, dBi, dSl, dNo, dSo, dM1, dIsi, dItems, dRng, dZip, dLc, dYes, dFmt, wipeR, setR, gtN, gtSeq, gtCons, gtNil, sNil, sCons, sOp, sB, sNotT, sTup, sLst, sBi, sCall, sSl, sOwn, sCallL, sRng, sItems, sLc, sYes, sTry, nLst, nList, nCall, Res.bind, ofO, frz, List.map_cons, List.map_nil, List.length_cons, List.length_nil, List.replicate, List.cons_append, List.nil_append, List.getElem?_cons_zero, List.getElem?_cons_succ, List.set_cons_zero, List.set_cons_succ, List.foldl_cons, List.foldl_nil, Nat.reduceAdd, Nat.reduceSub, Nat.reduceLeDiff, Nat.zero_le, Nat.zero_add, Option.bind_some, Option.map_some, Option.bind_none, Option.map_none, if_true, if_false, reduceIte, Bool.not_true, Bool.not_false, Bool.false_eq_true, r1, q1]
  have h9 : ∃ ρ', (mFor (liR (dRng (dCons (dC (.int 6)) dNil))) (gtN 7)
  (mSeq (mAsg (gtSeq 3 (gtCons (gtN 9) (gtCons (gtN 10) (gtCons (gtN 11) gtNil)))) (liO (sLc (lSs (dItems (dVar 5))) (gtN 12) sYes (sCallL 0 M__law_spoilt (sCons (lS (dVar 12)) sNil)) [12])))
  (mSeq (mIf (liO (sB (sOp oNe (sBi bRepr (sCons (sTry isPE (dCall M_parse_word (dCons (dVar 1) (dCons (dVar 9) dNil)))) sNil)) (lS (dBi bRepr (dCons (dCall M__law_word_due (dCons (dVar 1) (dCons (dVar 9) dNil))) dNil))))))
  (mSeq (mRet (liR (dC (.bool false))))
  mNil)
  mNil)
  (mSeq (mIf (liO (sB (sOp oNe (sBi bRepr (sCons (sTry isPE (dCall M_parse_vector (dCons (dVar 10) dNil))) sNil)) (lS (dBi bRepr (dCons (dCall M__law_vector_due (dCons (dVar 10) dNil)) dNil))))))
  (mSeq (mRet (liR (dC (.bool false))))
  mNil)
  mNil)
  (mSeq (mIf (liO (sB (sOp oNe (sBi bRepr (sCons (sTry isPE (dCall M_parse_fraction (dCons (dVar 11) dNil))) sNil)) (lS (dBi bRepr (dCons (dCall M__law_fraction_due (dCons (dVar 11) dNil)) dNil))))))
  (mSeq (mRet (liR (dC (.bool false))))
  mNil)
  mNil)
  mNil))))) [Itm.own s4, .dat (.tuple (strsD al)), .dat (.tuple (strsD zs)), .dat (.tuple (intsD is)), .dat (fracD (t, b)), .dat (.list [.str (wText zs), .str (vText is), .str (fText t b)]), .dat (.list [.tuple (strsD zs), .tuple (intsD is), fracD (t, b)]), .un, .un, .un, .un, .un, .un, .un] = .nx ρ' ∧ ∃ s5 d7 t9 t10 t11, ρ' = [Itm.own s5, .dat (.tuple (strsD al)), .dat (.tuple (strsD zs)), .dat (.tuple (intsD is)), .dat (fracD (t, b)), .dat (.list [.str (wText zs), .str (vText is), .str (fText t b)]), .dat (.list [.tuple (strsD zs), .tuple (intsD is), fracD (t, b)]), .dat d7, .un, t9, t10, t11, .un, .un] ∧ Sm (B + 120) s5 := by
    obtain ⟨ρ', f1, s5, d7, t9, t10, t11, f2, f3⟩ := forL_inv (i := 7) (N := 6) (body := turnB) (R := fun k ρ => ∃ s5 d7 t9 t10 t11, ρ = [Itm.own s5, .dat (.tuple (strsD al)), .dat (.tuple (strsD zs)), .dat (.tuple (intsD is)), .dat (fracD (t, b)), .dat (.list [.str (wText zs), .str (vText is), .str (fText t b)]), .dat (.list [.tuple (strsD zs), .tuple (intsD is), fracD (t, b)]), d7, .un, t9, t10, t11, .un, .un] ∧ Sm (B + 60 + 9 * k) s5 ∧ (0 < k → ∃ d, d7 = Itm.dat d)) (fun k ρ d hk h => by
      obtain ⟨s5, d7, t9, t10, t11, rfl, S5, _⟩ := h
      obtain ⟨s6, u9, u10, u11, q1, q2⟩ := turn_ok A S5 (by omega) gw gv gf lw lv lf (.tuple (strsD zs)) (.tuple (intsD is)) (fracD (t, b)) (.list [.tuple (strsD zs), .tuple (intsD is), fracD (t, b)]) d t9 t10 t11
      exact ⟨_, q1, s6, .dat d, u9, u10, u11, rfl, q2.up (by omega), fun _ => ⟨d, rfl⟩⟩) [.int 0, .int 1, .int 2, .int 3, .int 4, .int 5] 0 [Itm.own s4, .dat (.tuple (strsD al)), .dat (.tuple (strsD zs)), .dat (.tuple (intsD is)), .dat (fracD (t, b)), .dat (.list [.str (wText zs), .str (vText is), .str (fText t b)]), .dat (.list [.tuple (strsD zs), .tuple (intsD is), fracD (t, b)]), .un, .un, .un, .un, .un, .un, .un] (by simp) ⟨s4, .un, .un, .un, .un, rfl, S4.up (by omega), fun h => absurd h (Nat.lt_irrefl 0)⟩
    obtain ⟨d, rfl⟩ := f3.2 (by simp)
    refine ⟨ρ', ?_, s5, d, t9, t10, t11, f2, f3.1.up (by simp)⟩
    have q : (mFor (liR (dRng (dCons (dC (.int 6)) dNil))) (gtN 7)
  (mSeq (mAsg (gtSeq 3 (gtCons (gtN 9) (gtCons (gtN 10) (gtCons (gtN 11) gtNil)))) (liO (sLc (lSs (dItems (dVar 5))) (gtN 12) sYes (sCallL 0 M__law_spoilt (sCons (lS (dVar 12)) sNil)) [12])))
  (mSeq (mIf (liO (sB (sOp oNe (sBi bRepr (sCons (sTry isPE (dCall M_parse_word (dCons (dVar 1) (dCons (dVar 9) dNil)))) sNil)) (lS (dBi bRepr (dCons (dCall M__law_word_due (dCons (dVar 1) (dCons (dVar 9) dNil))) dNil))))))
  (mSeq (mRet (liR (dC (.bool false))))
  mNil)
  mNil)
  (mSeq (mIf (liO (sB (sOp oNe (sBi bRepr (sCons (sTry isPE (dCall M_parse_vector (dCons (dVar 10) dNil))) sNil)) (lS (dBi bRepr (dCons (dCall M__law_vector_due (dCons (dVar 10) dNil)) dNil))))))
  (mSeq (mRet (liR (dC (.bool false))))
  mNil)
  mNil)
  (mSeq (mIf (liO (sB (sOp oNe (sBi bRepr (sCons (sTry isPE (dCall M_parse_fraction (dCons (dVar 11) dNil))) sNil)) (lS (dBi bRepr (dCons (dCall M__law_fraction_due (dCons (dVar 11) dNil)) dNil))))))
  (mSeq (mRet (liR (dC (.bool false))))
  mNil)
  mNil)
  mNil))))) [Itm.own s4, .dat (.tuple (strsD al)), .dat (.tuple (strsD zs)), .dat (.tuple (intsD is)), .dat (fracD (t, b)), .dat (.list [.str (wText zs), .str (vText is), .str (fText t b)]), .dat (.list [.tuple (strsD zs), .tuple (intsD is), fracD (t, b)]), .un, .un, .un, .un, .un, .un, .un] = forL (gtN 7) turnB [Itm.own s4, .dat (.tuple (strsD al)), .dat (.tuple (strsD zs)), .dat (.tuple (intsD is)), .dat (fracD (t, b)), .dat (.list [.str (wText zs), .str (vText is), .str (fText t b)]), .dat (.list [.tuple (strsD zs), .tuple (intsD is), fracD (t, b)]), .un, .un, .un, .un, .un, .un, .un] [.int 0, .int 1, .int 2, .int 3, .int 4, .int 5] := rfl
    rw [q]
    exact f1
  obtain ⟨ρ', h9, s5, d7, t9, t10, t11, rfl, S5⟩ := h9
  obtain ⟨o, s6, e10, mo, S6⟩ := e_no_text S5 (by omega)
  have h10 : (mSet 8 (liO (sCallL 0 M__law_no_text sNil))) [Itm.own s5, .dat (.tuple (strsD al)), .dat (.tuple (strsD zs)), .dat (.tuple (intsD is)), .dat (fracD (t, b)), .dat (.list [.str (wText zs), .str (vText is), .str (fText t b)]), .dat (.list [.tuple (strsD zs), .tuple (intsD is), fracD (t, b)]), .dat d7, .un, t9, t10, t11, .un, .un] = .nx [Itm.own s6, .dat (.tuple (strsD al)), .dat (.tuple (strsD zs)), .dat (.tuple (intsD is)), .dat (fracD (t, b)), .dat (.list [.str (wText zs), .str (vText is), .str (fText t b)]), .dat (.list [.tuple (strsD zs), .tuple (intsD is), fracD (t, b)]), .dat d7, .dat o, t9, t10, t11, .un, .un] := by
    simp only [mir, mirL, mirN, startR, startL, mSeq, mNil, mFrz, mSet, mAsg, mPar, mNew, mNew2, mDrop, mRet, mRetN, mIf, mRaise, mFor, mWhile, mSetIx, xbind, liR, liO, lS, lST, lSs, Out.thn, outR, own0, dVar, dOwn, dC, dOp, dChain, dB, asB, dAnd, dOr, dNot, dAndV, dOrV, dNotV, dIf, dNeg, dNil, dCons, dTup, dLst, dCall, dBi, dSl, dNo, dSo, dM1, dIsi, dItems, dRng, dZip, dLc, dYes, dFmt, wipeR, setR, gtN, gtSeq, gtCons, gtNil, sNil, sCons, sOp, sB, sNotT, sTup, sLst, sBi, sCall, sSl, sOwn, sCallL, sRng, sItems, sLc, sYes, sTry, nLst, nList, nCall, Res.bind, ofO, frz, List.map_cons, List.map_nil, List.length_cons, List.length_nil, List.replicate, List.cons_append, List.nil_append, List.getElem?_cons_zero, List.getElem?_cons_succ, List.set_cons_zero, List.set_cons_succ, List.foldl_cons, List.foldl_nil, Nat.reduceAdd, Nat.reduceSub, Nat.reduceLeDiff, Nat.zero_le, Nat.zero_add, Option.bind_some, Option.map_some, Option.bind_none, Option.map_none, if_true, if_false, reduceIte, Bool.not_true, Bool.not_false, Bool.false_eq_true, e10]
  have o1 := odd_word A mo
  have o2 := odd_vector mo
  have o3 := odd_fraction mo
  have h11 : (mNew 6 (nLst (sCons (sTry isPE (dCall M_parse_word (dCons (dVar 1) (dCons (dVar 8) dNil)))) sNil))) [Itm.own s6, .dat (.tuple (strsD al)), .dat (.tuple (strsD zs)), .dat (.tuple (intsD is)), .dat (fracD (t, b)), .dat (.list [.str (wText zs), .str (vText is), .str (fText t b)]), .dat (.list [.tuple (strsD zs), .tuple (intsD is), fracD (t, b)]), .dat d7, .dat o, t9, t10, t11, .un, .un] = .nx [Itm.own s6, .dat (.tuple (strsD al)), .dat (.tuple (strsD zs)), .dat (.tuple (intsD is)), .dat (fracD (t, b)), .dat (.list [.str (wText zs), .str (vText is), .str (fText t b)]), .own [.none], .dat d7, .dat o, t9, t10, t11, .un, .un] := by
    simp only [mir, mirL, mirN, startR, startL, mSeq, mNil, mFrz, mSet, mAsg, mPar, mNew, mNew2, mDrop, mRet, mRetN, mIf, mRaise, mFor, mWhile, mSetIx, xbind, liR, liO, lS, lST, lSs, Out.thn, outR, own0, dVar, dOwn, dC, dOp, dChain, dB, asB, dAnd, dOr, dNot, dAndV, dOrV, dNotV, dIf, dNeg, dNil, dCons, dTup, dLst, dCall, dBi, dSl, dNo, dSo, dM1, dIsi, dItems, dRng, dZip, dLc, dYes, dFmt, wipeR, setR, gtN, gtSeq, gtCons, gtNil, sNil, sCons, sOp, sB, sNotT, sTup, sLst, sBi, sCall, sSl, sOwn, sCallL, sRng, sItems, sLc, sYes, sTry, nLst, nList, nCall, Res.bind, ofO, frz, List.map_cons, List.map_nil, List.length_cons, List.length_nil, List.replicate, List.cons_append, List.nil_append, List.getElem?_cons_zero, List.getElem?_cons_succ, List.set_cons_zero, List.set_cons_succ, List.foldl_cons, List.foldl_nil, Nat.reduceAdd, Nat.reduceSub, Nat.reduceLeDiff, Nat.zero_le, Nat.zero_add, Option.bind_some, Option.map_some, Option.bind_none, Option.map_none, if_true, if_false, reduceIte, Bool.not_true, Bool.not_false, Bool.false_eq_true, o1, isPE_is]
  have h12 : (mDrop (liO (sOwn 6 mAppend (sCons (sTry isPE (dCall M_parse_vector (dCons (dVar 8) dNil))) sNil)))) [Itm.own s6, .dat (.tuple (strsD al)), .dat (.tuple (strsD zs)), .dat (.tuple (intsD is)), .dat (fracD (t, b)), .dat (.list [.str (wText zs), .str (vText is), .str (fText t b)]), .own [.none], .dat d7, .dat o, t9, t10, t11, .un, .un] = .nx [Itm.own s6, .dat (.tuple (strsD al)), .dat (.tuple (strsD zs)), .dat (.tuple (intsD is)), .dat (fracD (t, b)), .dat (.list [.str (wText zs), .str (vText is), .str (fText t b)]), .own [.none, .none], .dat d7, .dat o, t9, t10, t11, .un, .un] := by
    have A0 : mAppend [.none] [.none] = some (.none, [.none, .none]) := rfl
    simp only [mir, mirL, mirN, startR, startL, mSeq, mNil, mFrz, mSet, mAsg, mPar, mNew, mNew2, mDrop, mRet, mRetN, mIf, mRaise, mFor, mWhile, mSetIx, xbind, liR, liO, lS, lST, lSs, Out.thn, outR, own0, dVar, dOwn, dC, dOp, dChain, dB, asB, dAnd, dOr, dNot, dAndV, dOrV, dNotV, dIf, dNeg, dNil, dCons, dTup, dLst, dCall, dBi, dSl, dNo, dSo, dM1, dIsi, dItems, dRng, dZip, dLc, dYes, dFmt, wipeR, setR, gtN, gtSeq, gtCons, gtNil, sNil, sCons, sOp, sB, sNotT, sTup, sLst, sBi, sCall, sSl, sOwn, sCallL, sRng, sItems, sLc, sYes, sTry, nLst, nList, nCall, Res.bind, ofO, frz, List.map_cons, List.map_nil, List.length_cons, List.length_nil, List.replicate, List.cons_append, List.nil_append, List.getElem?_cons_zero, List.getElem?_cons_succ, List.set_cons_zero, List.set_cons_succ, List.foldl_cons, List.foldl_nil, Nat.reduceAdd, Nat.reduceSub, Nat.reduceLeDiff, Nat.zero_le, Nat.zero_add, Option.bind_some, Option.map_some, Option.bind_none, Option.map_none, if_true, if_false, reduceIte, Bool.not_true, Bool.not_false, Bool.false_eq_true, o2, isPE_is, A0]
  have h13 : frz 6 [Itm.own s6, .dat (.tuple (strsD al)), .dat (.tuple (strsD zs)), .dat (.tuple (intsD is)), .dat (fracD (t, b)), .dat (.list [.str (wText zs), .str (vText is), .str (fText t b)]), .own [.none, .none], .dat d7, .dat o, t9, t10, t11, .un, .un] = [Itm.own s6, .dat (.tuple (strsD al)), .dat (.tuple (strsD zs)), .dat (.tuple (intsD is)), .dat (fracD (t, b)), .dat (.list [.str (wText zs), .str (vText is), .str (fText t b)]), .dat (.list [.none, .none]), .dat d7, .dat o, t9, t10, t11, .un, .un] := rfl
  have h14 : (mRet (liO (sOp oEq (sOp oAdd (lS (dVar 6)) (sLst (sCons (sTry isPE (dCall M_parse_fraction (dCons (dVar 8) dNil))) sNil))) (lS (dRep (dCons (dC .none) dNil) (dC (.int 3))))))) [Itm.own s6, .dat (.tuple (strsD al)), .dat (.tuple (strsD zs)), .dat (.tuple (intsD is)), .dat (fracD (t, b)), .dat (.list [.str (wText zs), .str (vText is), .str (fText t b)]), .dat (.list [.none, .none]), .dat d7, .dat o, t9, t10, t11, .un, .un] = .ret (.bool true) [Itm.own s6, .dat (.tuple (strsD al)), .dat (.tuple (strsD zs)), .dat (.tuple (intsD is)), .dat (fracD (t, b)), .dat (.list [.str (wText zs), .str (vText is), .str (fText t b)]), .dat (.list [.none, .none]), .dat d7, .dat o, t9, t10, t11, .un, .un] := by
    have A0 : oAdd (.list [.none, .none]) (.list [.none]) = some (.list [.none, .none, .none]) := p_addL (by simp)
    have A1 : dRep (dCons (dC .none) dNil) (dC (.int 3)) [Itm.own s6, .dat (.tuple (strsD al)), .dat (.tuple (strsD zs)), .dat (.tuple (intsD is)), .dat (fracD (t, b)), .dat (.list [.str (wText zs), .str (vText is), .str (fText t b)]), .dat (.list [.none, .none]), .dat d7, .dat o, t9, t10, t11, .un, .un] = .ok (.list [.none, .none, .none]) := rfl
    have A2 : oEq (.list [.none, .none, .none]) (.list [.none, .none, .none]) = some (.bool true) := rfl
    simp only [mir, mirL, mirN, startR, startL, mSeq, mNil, mFrz, mSet, mAsg, mPar, mNew, mNew2, mDrop, mRet, mRetN, mIf, mRaise, mFor, mWhile, mSetIx, xbind, liR, liO, lS, lST, lSs, Out.thn, outR, own0, dVar, dOwn, dC, dOp, dChain, dB, asB, dAnd, dOr, dNot, dAndV, dOrV, dNotV, dIf, dNeg, dNil, dCons, dTup, dLst, dCall, dBi, dSl, dNo, dSo, dM1, dIsi, dItems, dRng, dZip, dLc, dYes, dFmt, wipeR, setR, gtN, gtSeq, gtCons, gtNil, sNil, sCons, sOp, sB, sNotT, sTup, sLst, sBi, sCall, sSl, sOwn, sCallL, sRng, sItems, sLc, sYes, sTry, nLst, nList, nCall, Res.bind, ofO, frz, List.map_cons, List.map_nil, List.length_cons, List.length_nil, List.replicate, List.cons_append, List.nil_append, List.getElem?_cons_zero, List.getElem?_cons_succ, List.set_cons_zero, List.set_cons_succ, List.foldl_cons, List.foldl_nil, Nat.reduceAdd, Nat.reduceSub, Nat.reduceLeDiff, Nat.zero_le, Nat.zero_add, Option.bind_some, Option.map_some, Option.bind_none, Option.map_none, if_true, if_false, reduceIte, Bool.not_true, Bool.not_false, Bool.false_eq_true, o3, isPE_is, A0, A1, A2]
  refine ⟨s6, ?_, S6.up (by omega)⟩
  unfold M__law_right mirL m__law_right
  rw [if_pos (by rfl)]
  have hs : startL N__law_right s [.tuple (strsD al)] = [Itm.own s, .dat (.tuple (strsD al)), .un, .un, .un, .un, .un, .un, .un, .un, .un, .un, .un, .un] := rfl
  rw [hs, seq_nx h0, seq_nx h1, seq_nx h2, seq_nx h3, seq_nx h4, frz_own, h5, seq_nx h6, seq_nx h7, seq_nx h8, seq_nx h9, seq_nx h10, seq_nx h11, seq_nx h12, frz_own, h13, seq_ret h14]
  rfl
end K77
end

section
set_option Elab.async false
set_option linter.all false
set_option maxRecDepth 100000
set_option maxHeartbeats 8000000
namespace K77
open D PySem L2 TL NumText
theorem forL_mem {i : Nat} {body : SM} {R : Rho → Prop} : ∀ (ds : List PyData), (∀ ρ d, d ∈ ds → R ρ → ∃ ρ', body (setR ρ [(i, d)]) = .nx ρ' ∧ R ρ') → ∀ ρ, R ρ → ∃ ρ', forL (gtN i) body ρ ds = .nx ρ' ∧ R ρ'
  | [], _, ρ, h => ⟨ρ, rfl, h⟩
  | d :: ds, stp, ρ, h => by
    obtain ⟨ρ1, e1, h1⟩ := stp ρ d List.mem_cons_self h
    obtain ⟨ρ2, e2, h2⟩ := forL_mem ds (fun ρ d m => stp ρ d (List.mem_cons_of_mem _ m)) ρ1 h1
    refine ⟨ρ2, ?_, h2⟩
    unfold forL
    simp only [gtN, e1, e2]
def turnIn : SM := (mSeq (mIf (liO (sNotT (sB (sCallL 4 M__law_right (sCons (lS (dVar 5)) sNil)))))
  (mSeq (mRet (liR (dC (.bool false))))
  mNil)
  mNil)
  mNil)
theorem turn_in {al : List Str} (A : Al al) {B : Nat} {s : List PyData} (S : Sm B s) (hB : B ≤ 700000) (X : PyData) (t1 t2 t3 t6 : Itm) : ∃ s', turnIn [.dat X, t1, t2, t3, .own s, .dat (.tuple (strsD al)), t6, .un, .un, .un] = .nx [.dat X, t1, t2, t3, .own s', .dat (.tuple (strsD al)), t6, .un, .un, .un] ∧ Sm (B + 1000) s' := by
  obtain ⟨s', e, S'⟩ := e_right A S hB
  refine ⟨s', ?_, S'⟩
  unfold turnIn
  simp only [mir, mirL, mirN, startR, startL, mSeq, mNil, mFrz, mSet, mAsg, mPar, mNew, mNew2, mDrop, mRet, mRetN, mIf, mRaise, mFor, mWhile, mSetIx, xbind, liR, liO, lS, lST, lSs, Out.thn, outR, own0, dVar, dOwn, dC, dOp, dChain, dB, asB, dAnd, dOr, dNot, dAndV, dOrV, dNotV, dIf, dNeg, dNil, dCons, dTup, dLst, dCall, dBi, dSl, dNo, dSo, dM1, dIsi, dItems, dRng, dZip, dLc, dYes, dFmt, wipeR, setR, gtN, gtSeq, gtCons, gtNil, sNil, sCons, sOp, sB, sNotT, sTup, sLst, sBi, sCall, sSl, sOwn, sCallL, sRng, sItems, sLc, sYes, sTry, nLst, nList, nCall, Res.bind, ofO, frz, List.map_cons, List.map_nil, List.length_cons, List.length_nil, List.replicate, List.cons_append, List.nil_append, List.getElem?_cons_zero, List.getElem?_cons_succ, List.set_cons_zero, List.set_cons_succ, List.foldl_cons, List.foldl_nil, Nat.reduceAdd, Nat.reduceSub, Nat.reduceLeDiff, Nat.zero_le, Nat.zero_add, Option.bind_some, Option.map_some, Option.bind_none, Option.map_none, if_true, if_false, reduceIte, Bool.not_true, Bool.not_false, Bool.false_eq_true, e]
def cellB : SM := (mSeq (mNew 4 (nCall M__law_stream (sCons (lS (dVar 0)) (sCons (lS (dVar 1)) sNil))))
  (mSeq (mSet 5 (liO (sCallL 4 M__law_alphabet (sCons (sOp oAdd (lS (dC (.int 1))) (sCallL 4 M__law_draw (sCons (lS (dC (.int 5))) sNil))) sNil))))
  (mSeq (mFor (liR (dRng (dCons (dC (.int 3)) dNil))) (gtN 6)
  (mSeq (mIf (liO (sNotT (sB (sCallL 4 M__law_right (sCons (lS (dVar 5)) sNil)))))
  (mSeq (mRet (liR (dC (.bool false))))
  mNil)
  mNil)
  mNil))
  mNil)))
theorem cell_ok {ns : List Int} (hl : ns.length ≤ 63) {k : Nat} (hk : k < 8) (t4 t5 t6 : Itm) : ∃ t4' t5' t6', cellB [.dat (.list (ns.map .int)), .dat (.int (k : Int)), .un, .un, t4, t5, t6, .un, .un, .un] = .nx [.dat (.list (ns.map .int)), .dat (.int (k : Int)), .un, .un, t4', t5', t6', .un, .un, .un] := by
  obtain ⟨s, e0, S⟩ := e_stream hl hk
  obtain ⟨r, s1, e1, r0, r1, S1⟩ := e_draw S (by decide) (n := 5) (by decide) (by decide)
  obtain ⟨al, s2, e2, A, S2⟩ := e_alphabet S1 (by decide) (n := (1 + r).toNat) (by omega) (by omega)
  have e2' : M__law_alphabet s1 [.int (1 + r)] = some (.tuple (strsD al), s2) := by
    have q : (((1 + r).toNat : Nat) : Int) = 1 + r := by omega
    rw [← q]
    exact e2
  have h1 : (mNew 4 (nCall M__law_stream (sCons (lS (dVar 0)) (sCons (lS (dVar 1)) sNil)))) [.dat (.list (ns.map .int)), .dat (.int (k : Int)), .un, .un, t4, t5, t6, .un, .un, .un] = .nx [.dat (.list (ns.map .int)), .dat (.int (k : Int)), .un, .un, .own s, t5, t6, .un, .un, .un] := by
    simp only [mir, mirL, mirN, startR, startL, mSeq, mNil, mFrz, mSet, mAsg, mPar, mNew, mNew2, mDrop, mRet, mRetN, mIf, mRaise, mFor, mWhile, mSetIx, xbind, liR, liO, lS, lST, lSs, Out.thn, outR, own0, dVar, dOwn, dC, dOp, dChain, dB, asB, dAnd, dOr, dNot, dAndV, dOrV, dNotV, dIf, dNeg, dNil, dCons, dTup, dLst, dCall, dBi, dSl, dNo, dSo, dM1, dIsi, dItems, dRng, dZip, dLc, dYes, dFmt, wipeR, setR, gtN, gtSeq, gtCons, gtNil, sNil, sCons, sOp, sB, sNotT, sTup, sLst, sBi, sCall, sSl, sOwn, sCallL, sRng, sItems, sLc, sYes, sTry, nLst, nList, nCall, Res.bind, ofO, frz, List.map_cons, List.map_nil, List.length_cons, List.length_nil, List.replicate, List.cons_append, List.nil_append, List.getElem?_cons_zero, List.getElem?_cons_succ, List.set_cons_zero, List.set_cons_succ, List.foldl_cons, List.foldl_nil, Nat.reduceAdd, Nat.reduceSub, Nat.reduceLeDiff, Nat.zero_le, Nat.zero_add, Option.bind_some, Option.map_some, Option.bind_none, Option.map_none, if_true, if_false, reduceIte, Bool.not_true, Bool.not_false, Bool.false_eq_true, e0]
  have h2 : (mSet 5 (liO (sCallL 4 M__law_alphabet (sCons (sOp oAdd (lS (dC (.int 1))) (sCallL 4 M__law_draw (sCons (lS (dC (.int 5))) sNil))) sNil)))) [.dat (.list (ns.map .int)), .dat (.int (k : Int)), .un, .un, .own s, t5, t6, .un, .un, .un] = .nx [.dat (.list (ns.map .int)), .dat (.int (k : Int)), .un, .un, .own s2, .dat (.tuple (strsD al)), t6, .un, .un, .un] := by
    simp only [mir, mirL, mirN, startR, startL, mSeq, mNil, mFrz, mSet, mAsg, mPar, mNew, mNew2, mDrop, mRet, mRetN, mIf, mRaise, mFor, mWhile, mSetIx, xbind, liR, liO, lS, lST, lSs, Out.thn, outR, own0, dVar, dOwn, dC, dOp, dChain, dB, asB, dAnd, dOr, dNot, dAndV, dOrV, dNotV, dIf, dNeg, dNil, dCons, dTup, dLst, dCall, dBi, dSl, dNo, dSo, dM1, dIsi, dItems, dRng, dZip, dLc, dYes, dFmt, wipeR, setR, gtN, gtSeq, gtCons, gtNil, sNil, sCons, sOp, sB, sNotT, sTup, sLst, sBi, sCall, sSl, sOwn, sCallL, sRng, sItems, sLc, sYes, sTry, nLst, nList, nCall, Res.bind, ofO, frz, List.map_cons, List.map_nil, List.length_cons, List.length_nil, List.replicate, List.cons_append, List.nil_append, List.getElem?_cons_zero, List.getElem?_cons_succ, List.set_cons_zero, List.set_cons_succ, List.foldl_cons, List.foldl_nil, Nat.reduceAdd, Nat.reduceSub, Nat.reduceLeDiff, Nat.zero_le, Nat.zero_add, Option.bind_some, Option.map_some, Option.bind_none, Option.map_none, if_true, if_false, reduceIte, Bool.not_true, Bool.not_false, Bool.false_eq_true, e1, p_add, e2']
  obtain ⟨ρ', f1, s5, t6', rfl, _⟩ := forL_inv (i := 6) (N := 3) (body := turnIn) (R := fun j ρ => ∃ s5 t6, ρ = [Itm.dat (.list (ns.map .int)), .dat (.int (k : Int)), .un, .un, .own s5, .dat (.tuple (strsD al)), t6, .un, .un, .un] ∧ Sm (20 + 1000 * j) s5) (fun j ρ d hj h => by
    obtain ⟨s5, t6, rfl, S5⟩ := h
    obtain ⟨s6, q1, q2⟩ := turn_in A S5 (by omega) (.list (ns.map .int)) (.dat (.int (k : Int))) .un .un (.dat d)
    exact ⟨_, q1, s6, .dat d, rfl, q2.up (by omega)⟩) [.int 0, .int 1, .int 2] 0 [Itm.dat (.list (ns.map .int)), .dat (.int (k : Int)), .un, .un, .own s2, .dat (.tuple (strsD al)), t6, .un, .un, .un] (by simp) ⟨s2, t6, rfl, S2.up (by decide)⟩
  refine ⟨.own s5, .dat (.tuple (strsD al)), t6', ?_⟩
  have h3 : (mFor (liR (dRng (dCons (dC (.int 3)) dNil))) (gtN 6)
  (mSeq (mIf (liO (sNotT (sB (sCallL 4 M__law_right (sCons (lS (dVar 5)) sNil)))))
  (mSeq (mRet (liR (dC (.bool false))))
  mNil)
  mNil)
  mNil)) [Itm.dat (.list (ns.map .int)), .dat (.int (k : Int)), .un, .un, .own s2, .dat (.tuple (strsD al)), t6, .un, .un, .un] = forL (gtN 6) turnIn [Itm.dat (.list (ns.map .int)), .dat (.int (k : Int)), .un, .un, .own s2, .dat (.tuple (strsD al)), t6, .un, .un, .un] [.int 0, .int 1, .int 2] := rfl
  unfold cellB
  rw [seq_nx h1, seq_nx h2, seq_nx (h3.trans f1)]
  rfl
/-! ### the fixed part -/
theorem pairA : Al ["a", "eightsgn"] := ⟨by decide, by decide, by decide +kernel, List.pairwise_cons.mpr ⟨fun y hy => by
  rw [List.mem_singleton.mp hy]
  decide +kernel, List.pairwise_singleton ..⟩⟩
theorem rep_strs (z : Str) (n : Nat) : (List.replicate n [PyData.str z]).flatten = strsD (List.replicate n z) := by
  unfold strsD
  rw [List.map_replicate]
  induction n with
  | zero => rfl
  | succ n ih => rw [List.replicate_succ, List.flatten_cons, ih, List.replicate_succ]; rfl
theorem eqv_strsD (zs : List Str) : PyData.eqv (.tuple (strsD zs)) (.tuple (strsD zs)) = true := by
  show PyData.eqvAll (strsD zs) (strsD zs) = true
  induction zs with
  | nil => rfl
  | cons z zs ih =>
    show (PyData.eqv (.str z) (.str z) && PyData.eqvAll (strsD zs) (strsD zs)) = true
    rw [ih]
    simp [PyData.eqv]
theorem rep_mem {z y : Str} {n : Nat} (h : y ∈ List.replicate n z) : y = z := (List.mem_replicate.mp h).2
theorem rep_acts {z : Str} (h : z ∈ acts) (n : Nat) : ∀ y ∈ List.replicate n z, y ∈ acts := fun y m => by rw [rep_mem m]; exact h
theorem join_rep {z : Str} {n : Nat} (hz : z ∈ acts) (hn : 1 ≤ n) (h5 : n ≤ 1000) : mJoin " " (.list (strsD (List.replicate n z))) = some (.str (wText (List.replicate n z))) := by
  have j : joinB (List.replicate n z) := by
    unfold joinB
    have := sum_le (zs := List.replicate n z) (k := 8) fun y m => (act_gd y (rep_acts hz n y m)).2.2
    rw [List.length_replicate] at this ⊢
    omega
  rw [p_joinL j]
  unfold wText
  rw [if_neg]
  cases n with
  | zero => omega
  | succ n => simp [List.replicate_succ]
/-- too many digits -/
theorem long_bad {z : Str} (h : 41 < z.length) : numOk z = false := by
  cases q : numOk z with
  | false => rfl
  | true =>
    have := num_len q
    omega
theorem blank_free {z : Str} (h : 32 ∉ tl z) : Txt.split z " " = [z] := by
  refine map_tl_inj ?_
  rw [split_spl z " " (by rw [blank]; simp) (kind_ok (by decide +kernel)), blank, spl_last1 h]
  rfl
theorem blank_more {a r : Str} (h : 32 ∉ tl a) : Txt.split (a ++ (" " : Str) ++ r) " " = a :: Txt.split r " " := by
  refine map_tl_inj ?_
  rw [split_spl _ " " (by rw [blank]; simp) (kind_ok (by decide +kernel)), List.map_cons, split_spl r " " (by rw [blank]; simp) (kind_ok (by decide +kernel)), blank, tl_append, tl_append, blank]
  have e : tl a ++ [32] ++ tl r = tl a ++ ([32] ++ tl r) := List.append_assoc ..
  rw [e, spl_part1 h]
  rfl
/-- n times the sign c -/
def many (c : Nat) (n : Nat) : Str := Txt.mul ⟨#[c]⟩ (n : Int)
theorem many_tl (c n : Nat) : tl (many c n) = List.replicate n c := by
  unfold many
  have := PyProof.Rows.mul_one_list c (n : Int)
  rw [Int.toNat_natCast] at this
  exact this
theorem many_len (c n : Nat) : (many c n).length = n := by rw [len_tl, many_tl, List.length_replicate]
theorem many_free {c d n : Nat} (h : d ≠ c) : d ∉ tl (many c n) := fun m => by
  rw [many_tl] at m
  exact h (List.mem_replicate.mp m).2
theorem many_gd {c n : Nat} (h : c < 128) (hn : n ≤ 20000) : Gd (many c n) := ⟨fun x m => by rw [many_tl] at m; rw [(List.mem_replicate.mp m).2]; exact h, by rw [many_len]; exact hn⟩
theorem gd_app {x y : Str} (gx : AscS x) (gy : Gd y) (h : x.length + y.length ≤ 20000) : Gd (x ++ y) := ⟨fun c m => by
  rw [tl_append] at m
  exact (List.mem_append.mp m).elim (gx c) (gy.asc c), by rw [str_len_app]; exact h⟩
theorem gd_app2 {x y : Str} (gx : Gd x) (gy : AscS y) (h : x.length + y.length ≤ 20000) : Gd (x ++ y) := ⟨fun c m => by
  rw [tl_append] at m
  exact (List.mem_append.mp m).elim (gx.asc c) (gy c), by rw [str_len_app]; exact h⟩
theorem mul_many {z : Str} {c n : Nat} (hz : z = ⟨#[c]⟩) (hn : n ≤ 1000000) : oMul (.str z) (.int (n : Int)) = some (.str (many c n)) := by
  subst hz
  show (if mulOkB ⟨#[c]⟩ (n : Int) = true then some (PyData.str (Txt.mul ⟨#[c]⟩ (n : Int))) else none) = _
  rw [if_pos]
  · rfl
  · unfold mulOkB
    have e : (⟨#[c]⟩ : Str).length = 1 := rfl
    rw [e, Int.toNat_natCast]
    simp
    omega
def v1 : Str := "1" ++ many 48 40
def v2 : Str := "-1" ++ many 48 40
def v3 : Str := many 57 5000
def v4 : Str := "-" ++ many 49 5000
def v5 : Str := "1 " ++ many 55 6000
def f1 : Str := "1" ++ many 48 40
def f2 : Str := many 57 5000
def f3 : Str := many 57 5000 ++ "/2"
def f4 : Str := "1/" ++ many 51 5000
def f5 : Str := "1/1" ++ many 48 40
def d40 : Str := many 57 40
def gg : Int := 10 ^ 40 - 1
theorem vec_bad {z : Str} (g : Gd z) (h : 32 ∉ tl z) (hb : numOk z = false) : M_parse_vector [.str z] = .err "ParseError" := by
  rw [e_parse_vector g, blank_free h]
  simp [hb]
theorem app_free {c : Nat} {x y : Str} (h1 : c ∉ tl x) (h2 : c ∉ tl y) : c ∉ tl (x ++ y) := fun m => by
  rw [tl_append] at m
  exact (List.mem_append.mp m).elim h1 h2
theorem bad_v1 : M_parse_vector [.str v1] = .err "ParseError" := vec_bad (gd_app (by unfold AscS; decide +kernel) (many_gd (by decide) (by decide)) (by rw [many_len]; decide +kernel)) (app_free (by decide +kernel) (many_free (by decide))) (by decide +kernel)
theorem bad_v2 : M_parse_vector [.str v2] = .err "ParseError" := vec_bad (gd_app (by unfold AscS; decide +kernel) (many_gd (by decide) (by decide)) (by rw [many_len]; decide +kernel)) (app_free (by decide +kernel) (many_free (by decide))) (by decide +kernel)
theorem bad_v3 : M_parse_vector [.str v3] = .err "ParseError" := vec_bad (many_gd (by decide) (by decide)) (many_free (by decide)) (long_bad (by unfold v3; rw [many_len]; decide))
theorem bad_v4 : M_parse_vector [.str v4] = .err "ParseError" := vec_bad (gd_app (by unfold AscS; decide +kernel) (many_gd (by decide) (by decide)) (by rw [many_len]; decide +kernel)) (app_free (by decide +kernel) (many_free (by decide))) (long_bad (by unfold v4; rw [str_len_app, many_len]; omega))
theorem bad_v5 : M_parse_vector [.str v5] = .err "ParseError" := by
  have g : Gd v5 := gd_app (by unfold AscS; decide +kernel) (many_gd (by decide) (by decide)) (by rw [many_len]; decide +kernel)
  have e : v5 = ("1" : Str) ++ (" " : Str) ++ many 55 6000 := by
    unfold v5
    rw [show ("1 " : Str) = ("1" : Str) ++ (" " : Str) by decide +kernel]
  rw [e_parse_vector g, e, blank_more (by decide +kernel), blank_free (many_free (by decide))]
  simp [long_bad (z := many 55 6000) (by rw [many_len]; decide)]
theorem frac_bad {z : Str} (g : Gd z) (h : fracV z = none) : M_parse_fraction [.str z] = .err "ParseError" := by rw [e_parse_fraction g, h]
theorem frac1 {z : Str} (h : 47 ∉ tl z) (hb : numOk z = false) : fracV z = none := by
  unfold fracV
  rw [split_one h]
  simp [hb]
theorem frac2 {a r : Str} (h : 47 ∉ tl a) (h2 : 47 ∉ tl r) (hb : numOk a = false ∨ numOk r = false) : fracV (a ++ ("/" : Str) ++ r) = none := by
  unfold fracV
  rw [split_more h, split_one h2]
  rcases hb with hb | hb <;> simp [hb]
theorem bad_f1 : M_parse_fraction [.str f1] = .err "ParseError" := frac_bad (gd_app (by unfold AscS; decide +kernel) (many_gd (by decide) (by decide)) (by rw [many_len]; decide +kernel)) (frac1 (app_free (by decide +kernel) (many_free (by decide))) (by decide +kernel))
theorem bad_f2 : M_parse_fraction [.str f2] = .err "ParseError" := frac_bad (many_gd (by decide) (by decide)) (frac1 (many_free (by decide)) (long_bad (by unfold f2; rw [many_len]; decide)))
theorem bad_f3 : M_parse_fraction [.str f3] = .err "ParseError" := by
  refine frac_bad (gd_app2 (many_gd (by decide) (by decide)) (by unfold AscS; decide +kernel) (by rw [many_len]; decide +kernel)) ?_
  have e : f3 = many 57 5000 ++ ("/" : Str) ++ ("2" : Str) := by
    unfold f3
    refine ext_tl ?_
    rw [tl_append, tl_append, tl_append, List.append_assoc, show tl ("/2" : Str) = tl ("/" : Str) ++ tl ("2" : Str) by decide +kernel]
  rw [e]
  exact frac2 (many_free (by decide)) (by decide +kernel) (.inl (long_bad (by rw [many_len]; decide)))
theorem bad_f4 : M_parse_fraction [.str f4] = .err "ParseError" := by
  refine frac_bad (gd_app (by unfold AscS; decide +kernel) (many_gd (by decide) (by decide)) (by rw [many_len]; decide +kernel)) ?_
  have e : f4 = ("1" : Str) ++ ("/" : Str) ++ many 51 5000 := by
    unfold f4
    rw [show ("1/" : Str) = ("1" : Str) ++ ("/" : Str) by decide +kernel]
  rw [e]
  exact frac2 (by decide +kernel) (many_free (by decide)) (.inr (long_bad (by rw [many_len]; decide)))
theorem bad_f5 : M_parse_fraction [.str f5] = .err "ParseError" := by
  refine frac_bad (gd_app (by unfold AscS; decide +kernel) (many_gd (by decide) (by decide)) (by rw [many_len]; decide +kernel)) ?_
  have e : f5 = ("1" : Str) ++ ("/" : Str) ++ (("1" : Str) ++ many 48 40) := by
    unfold f5
    refine ext_tl ?_
    simp only [tl_append]
    rw [show tl ("1/1" : Str) = tl ("1" : Str) ++ tl ("/" : Str) ++ tl ("1" : Str) by decide +kernel, List.append_assoc (tl ("1" : Str) ++ tl ("/" : Str))]
  rw [e]
  exact frac2 (by decide +kernel) (app_free (by decide +kernel) (many_free (by decide))) (.inr (by decide +kernel))
theorem d40_is : d40 = nt gg := by decide +kernel
theorem gg_lt : gg.natAbs < big := by decide +kernel
theorem ng_lt : (0 - gg).natAbs < big := by decide +kernel
theorem one_lt : (1 : Int).natAbs < big := by decide +kernel
theorem two_lt : (2 : Int).natAbs < big := by decide +kernel
theorem zero_lt : (0 : Int).natAbs < big := by decide +kernel
theorem d40_gd : Gd d40 := many_gd (by decide) (by decide)
theorem pv1 : M_parse_vector [.str ("1 -" ++ d40)] = .ok (.tuple [.int 1, .int (0 - gg)]) := by
  have e : ("1 -" : Str) ++ d40 = vText [1, 0 - gg] := by decide +kernel
  rw [e]
  exact back_vector (is := [1, 0 - gg]) (fun i m => by
    simp only [List.mem_cons, List.not_mem_nil, or_false] at m
    rcases m with rfl | rfl
    · exact one_lt
    · exact ng_lt) (by simp) (by simp)
theorem pf1 : M_parse_fraction [.str (d40 ++ "/2")] = .ok (.tuple [.int gg, .int 2]) := by
  have e : d40 ++ ("/2" : Str) = fText gg 2 := by decide +kernel
  rw [e]
  exact back_fraction gg_lt two_lt (by decide) (by decide +kernel)
theorem fv1 : M_format_vector [.tuple [.int gg, .int 0]] = .ok (.str (d40 ++ " 0")) := by
  have e : d40 ++ (" 0" : Str) = vText [gg, 0] := by decide +kernel
  rw [e]
  exact e_format_vector (is := [gg, 0]) (fun i m => by
    simp only [List.mem_cons, List.not_mem_nil, or_false] at m
    rcases m with rfl | rfl
    · exact gg_lt
    · exact zero_lt) (by simp) (by simp)
theorem ff1 : M_format_fraction [.tuple [.int 1, .int gg]] = .ok (.str ("1/" ++ d40)) := by
  have e : ("1/" : Str) ++ d40 = fText 1 gg := by decide +kernel
  rw [e]
  exact e_format_fraction one_lt gg_lt (by decide +kernel) (by decide +kernel)
theorem pv2 : M_parse_vector [.str ("0" ++ d40)] = .err "ParseError" := vec_bad (gd_app (by unfold AscS; decide +kernel) d40_gd (by decide +kernel)) (app_free (by decide +kernel) (many_free (by decide))) (by decide +kernel)
theorem pf2 : M_parse_fraction [.str (d40 ++ "/" ++ d40)] = .err "ParseError" := by
  refine frac_bad (gd_app2 (gd_app2 d40_gd (by unfold AscS; decide +kernel) (by decide +kernel)) d40_gd.asc (by decide +kernel)) ?_
  have ok : numOk d40 = true := by rw [d40_is]; exact nt_ok gg_lt
  have vv : numV d40 = gg := by rw [d40_is]; exact nt_val gg_lt
  unfold fracV
  have fr : 47 ∉ tl d40 := many_free (by decide)
  rw [split_more fr, split_one fr]
  simp only [ok, vv, true_and]
  rw [if_neg (by decide +kernel)]
theorem ff2 : M_format_fraction [.tuple [.int (-3), .int 2]] = .ok (.str "-3/2") := by
  have e : ("-3/2" : Str) = fText (-3) 2 := by decide +kernel
  rw [e]
  exact e_format_fraction (by decide +kernel) two_lt (by decide) (by decide)
theorem pf3 : M_parse_fraction [.str "0"] = .ok (.tuple [.int 0, .int 1]) := by
  have e : ("0" : Str) = fText 0 1 := by decide +kernel
  rw [e]
  exact back_fraction zero_lt one_lt (by decide) (by decide)
theorem pv3 : M_parse_vector [.str "1 -2"] = .ok (.tuple [.int 1, .int (-2)]) := by
  have e : ("1 -2" : Str) = vText [1, -2] := by decide +kernel
  rw [e]
  exact back_vector (is := [1, -2]) (fun i m => by
    simp only [List.mem_cons, List.not_mem_nil, or_false] at m
    rcases m with rfl | rfl
    · exact one_lt
    · decide +kernel) (by simp) (by simp)
end K77
end

section
set_option Elab.async false
set_option linter.all false
set_option maxRecDepth 100000
set_option maxHeartbeats 1000000
namespace K77
open D PySem L2 TL NumText
theorem notN_none : oNotN .none .none = some (.bool false) := rfl
theorem m0 (n : Nat) (hn : n ≤ 1000000) : oMul (.str "0") (.int (n : Int)) = some (.str (many 48 n)) := mul_many (by decide +kernel) hn
theorem m9 (n : Nat) (hn : n ≤ 1000000) : oMul (.str "9") (.int (n : Int)) = some (.str (many 57 n)) := mul_many (by decide +kernel) hn
theorem m1 (n : Nat) (hn : n ≤ 1000000) : oMul (.str "1") (.int (n : Int)) = some (.str (many 49 n)) := mul_many (by decide +kernel) hn
theorem m7 (n : Nat) (hn : n ≤ 1000000) : oMul (.str "7") (.int (n : Int)) = some (.str (many 55 n)) := mul_many (by decide +kernel) hn
theorem m3 (n : Nat) (hn : n ≤ 1000000) : oMul (.str "3") (.int (n : Int)) = some (.str (many 51 n)) := mul_many (by decide +kernel) hn
theorem addS {x y : Str} {k n : Nat} (hx : x.length ≤ k) (hy : y.length ≤ n) (h : k + n ≤ 1000000) : oAdd (.str x) (.str y) = some (.str (x ++ y)) := p_addS (by omega)
theorem rep_at (z : Str) (n : Nat) (hn : n ≤ 1000) (ρ : Rho) : dRep (dCons (dC (.str z)) dNil) (dC (.int (n : Int))) ρ = .ok (.list (strsD (List.replicate n z))) := by
  unfold dRep
  simp only [dCons, dC, dNil, Res.bind]
  rw [if_pos ⟨Nat.le_add_left 1 999, by omega, by omega⟩, Int.toNat_natCast, rep_strs]
theorem tup_at (z : Str) (n : Nat) (h2 : 2 ≤ n) (hn : n ≤ 1000) : oMul (.tuple [.str z]) (.int (n : Int)) = some (.tuple (strsD (List.replicate n z))) := by
  unfold oMul
  simp only []
  rw [if_pos ⟨List.cons_ne_nil _ _, by omega, by omega, Nat.le_add_left 1 999⟩, Int.toNat_natCast, rep_strs]
theorem if_no {g : DQ} {A : SM} {ρ : Rho} (h : g ρ = .ok (.bool false)) : mIf (liR (dB g)) A mNil ρ = .nx ρ := by
  simp only [mir, mirL, mirN, startR, startL, mSeq, mNil, mFrz, mSet, mAsg, mPar, mNew, mNew2, mDrop, mRet, mRetN, mIf, mRaise, mFor, mWhile, mSetIx, xbind, liR, liO, lS, lST, lSs, Out.thn, outR, own0, dVar, dOwn, dC, dOp, dChain, dB, asB, dAnd, dOr, dNot, dAndV, dOrV, dNotV, dIf, dNeg, dNil, dCons, dTup, dLst, dCall, dBi, dSl, dNo, dSo, dM1, dIsi, dItems, dRng, dZip, dLc, dYes, dFmt, wipeR, setR, gtN, gtSeq, gtCons, gtNil, sNil, sCons, sOp, sB, sNotT, sTup, sLst, sBi, sCall, sSl, sOwn, sCallL, sRng, sItems, sLc, sYes, sTry, nLst, nList, nCall, Res.bind, ofO, frz, List.map_cons, List.map_nil, List.length_cons, List.length_nil, List.replicate, List.cons_append, List.nil_append, List.getElem?_cons_zero, List.getElem?_cons_succ, List.set_cons_zero, List.set_cons_succ, List.foldl_cons, List.foldl_nil, Nat.reduceAdd, Nat.reduceSub, Nat.reduceLeDiff, Nat.zero_le, Nat.zero_add, Option.bind_some, Option.map_some, Option.bind_none, Option.map_none, if_true, if_false, reduceIte, Bool.not_true, Bool.not_false, Bool.false_eq_true, h]
theorem if_told {f : DQ} {A : SM} {ρ : Rho} (h : f ρ = .err "ParseError") : mIf (liO (sB (sOp oNotN (sTry isPE f) (lS (dC .none))))) A mNil ρ = .nx ρ := by
  simp only [mir, mirL, mirN, startR, startL, mSeq, mNil, mFrz, mSet, mAsg, mPar, mNew, mNew2, mDrop, mRet, mRetN, mIf, mRaise, mFor, mWhile, mSetIx, xbind, liR, liO, lS, lST, lSs, Out.thn, outR, own0, dVar, dOwn, dC, dOp, dChain, dB, asB, dAnd, dOr, dNot, dAndV, dOrV, dNotV, dIf, dNeg, dNil, dCons, dTup, dLst, dCall, dBi, dSl, dNo, dSo, dM1, dIsi, dItems, dRng, dZip, dLc, dYes, dFmt, wipeR, setR, gtN, gtSeq, gtCons, gtNil, sNil, sCons, sOp, sB, sNotT, sTup, sLst, sBi, sCall, sSl, sOwn, sCallL, sRng, sItems, sLc, sYes, sTry, nLst, nList, nCall, Res.bind, ofO, frz, List.map_cons, List.map_nil, List.length_cons, List.length_nil, List.replicate, List.cons_append, List.nil_append, List.getElem?_cons_zero, List.getElem?_cons_succ, List.set_cons_zero, List.set_cons_succ, List.foldl_cons, List.foldl_nil, Nat.reduceAdd, Nat.reduceSub, Nat.reduceLeDiff, Nat.zero_le, Nat.zero_add, Option.bind_some, Option.map_some, Option.bind_none, Option.map_none, if_true, if_false, reduceIte, Bool.not_true, Bool.not_false, Bool.false_eq_true, h, isPE_is, notN_none]
theorem op_at {o : PyData → PyData → Option PyData} {f g : DQ} {ρ : Rho} {a b c : PyData} (h1 : f ρ = .ok a) (h2 : g ρ = .ok b) (h3 : o a b = some c) : dOp o f g ρ = .ok c := by
  simp only [dOp, Res.bind, ofO, h1, h2, h3]
theorem call_at {M : List PyData → Res PyData} {fs : DQs} {ρ : Rho} {ds : List PyData} {r : Res PyData} (h1 : fs ρ = .ok ds) (h2 : M ds = r) : dCall M fs ρ = r := by
  simp only [dCall, Res.bind, h1, h2]
theorem cons_at {f : DQ} {fs : DQs} {ρ : Rho} {d : PyData} {ds : List PyData} (h1 : f ρ = .ok d) (h2 : fs ρ = .ok ds) : dCons f fs ρ = .ok (d :: ds) := by
  simp only [dCons, Res.bind, h1, h2]
theorem tupq_at {fs : DQs} {ρ : Rho} {ds : List PyData} (h : fs ρ = .ok ds) (hl : ds.length ≤ 1000) : dTup fs ρ = .ok (.tuple ds) := by
  simp only [dTup, Res.bind, h, if_pos hl]
theorem c_at {d : PyData} {ρ : Rho} : dC d ρ = .ok d := rfl
theorem nil_at {ρ : Rho} : dNil ρ = .ok [] := rfl
theorem back_pair {zs : List Str} (hw : ∀ z ∈ zs, z ∈ [("a" : Str), "eightsgn"]) (hl : zs.length ≤ 200) : M_parse_word [.tuple [.str "a", .str "eightsgn"], .str (wText zs)] = .ok (.tuple (strsD zs)) := by
  have h := back_word pairA hw hl
  exact h
theorem join_at {z w : Str} {f : DQ} {ρ : Rho} {d : PyData} (h1 : f ρ = .ok d) (h2 : mJoin z d = some (.str w)) : dM1 mJoin (dC (.str z)) f ρ = .ok (.str w) := by
  simp only [dM1, dC, Res.bind, ofO, h1, h2]
theorem s1 {X : PyData} {t1 t4 t5 t6 : Itm} : (mSet 2 (liR (dTup (dCons (dC (.str "a")) (dCons (dC (.str "eightsgn")) dNil))))) [Itm.dat X, t1, .un, .un, t4, t5, t6, .un, .un, .un] = .nx [Itm.dat X, t1, .dat (.tuple [.str "a", .str "eightsgn"]), .un, t4, t5, t6, .un, .un, .un] := by
  simp only [mir, mirL, mirN, startR, startL, mSeq, mNil, mFrz, mSet, mAsg, mPar, mNew, mNew2, mDrop, mRet, mRetN, mIf, mRaise, mFor, mWhile, mSetIx, xbind, liR, liO, lS, lST, lSs, Out.thn, outR, own0, dVar, dOwn, dC, dOp, dChain, dB, asB, dAnd, dOr, dNot, dAndV, dOrV, dNotV, dIf, dNeg, dNil, dCons, dTup, dLst, dCall, dBi, dSl, dNo, dSo, dM1, dIsi, dItems, dRng, dZip, dLc, dYes, dFmt, wipeR, setR, gtN, gtSeq, gtCons, gtNil, sNil, sCons, sOp, sB, sNotT, sTup, sLst, sBi, sCall, sSl, sOwn, sCallL, sRng, sItems, sLc, sYes, sTry, nLst, nList, nCall, Res.bind, ofO, frz, List.map_cons, List.map_nil, List.length_cons, List.length_nil, List.replicate, List.cons_append, List.nil_append, List.getElem?_cons_zero, List.getElem?_cons_succ, List.set_cons_zero, List.set_cons_succ, List.foldl_cons, List.foldl_nil, Nat.reduceAdd, Nat.reduceSub, Nat.reduceLeDiff, Nat.zero_le, Nat.zero_add, Option.bind_some, Option.map_some, Option.bind_none, Option.map_none, if_true, if_false, reduceIte, Bool.not_true, Bool.not_false, Bool.false_eq_true]
theorem s2g {X : PyData} {t1 t4 t5 t6 : Itm} {E : List Str} {w : Str} (r1 : dRep (dCons (dC (.str "eightsgn")) dNil) (dC (.int 200)) [Itm.dat X, t1, .dat (.tuple [.str "a", .str "eightsgn"]), .un, t4, t5, t6, .un, .un, .un] = .ok (.list (strsD E))) (j1 : mJoin " " (.list (strsD E)) = some (.str w)) (p1 : M_parse_word [.tuple [.str "a", .str "eightsgn"], .str w] = .ok (.tuple (strsD E))) (q1 : oMul (.tuple [.str "eightsgn"]) (.int 200) = some (.tuple (strsD E))) (n1 : oNe (.tuple (strsD E)) (.tuple (strsD E)) = some (.bool false)) : (mIf (liR (dB (dOp oNe (dCall M_parse_word (dCons (dVar 2) (dCons (dM1 mJoin (dC (.str " ")) (dRep (dCons (dC (.str "eightsgn")) dNil) (dC (.int 200)))) dNil))) (dOp oMul (dTup (dCons (dC (.str "eightsgn")) dNil)) (dC (.int 200))))))
  (mSeq (mRet (liR (dC (.bool false))))
  mNil)
  mNil) [Itm.dat X, t1, .dat (.tuple [.str "a", .str "eightsgn"]), .un, t4, t5, t6, .un, .un, .un] = .nx [Itm.dat X, t1, .dat (.tuple [.str "a", .str "eightsgn"]), .un, t4, t5, t6, .un, .un, .un] := by
  exact if_no (op_at (call_at (cons_at rfl (cons_at (join_at r1 j1) nil_at)) p1) (op_at (tupq_at (cons_at c_at nil_at) (Nat.le_add_left 1 999)) c_at q1) n1)
theorem s2 {X : PyData} {t1 t4 t5 t6 : Itm} : (mIf (liR (dB (dOp oNe (dCall M_parse_word (dCons (dVar 2) (dCons (dM1 mJoin (dC (.str " ")) (dRep (dCons (dC (.str "eightsgn")) dNil) (dC (.int 200)))) dNil))) (dOp oMul (dTup (dCons (dC (.str "eightsgn")) dNil)) (dC (.int 200))))))
  (mSeq (mRet (liR (dC (.bool false))))
  mNil)
  mNil) [Itm.dat X, t1, .dat (.tuple [.str "a", .str "eightsgn"]), .un, t4, t5, t6, .un, .un, .un] = .nx [Itm.dat X, t1, .dat (.tuple [.str "a", .str "eightsgn"]), .un, t4, t5, t6, .un, .un, .un] := by
  have sh : SeqAt.shaped (.tuple (strsD (List.replicate 200 "eightsgn"))) = true := sh_tuple (k := 0) (by decide) fun d hd => by
    obtain ⟨z, hz, rfl⟩ := List.mem_map.mp hd
    exact ⟨act_ok' (rep_acts (by unfold acts; simp) 200 z hz), Nat.le_refl _⟩
  have j1 := join_rep (z := "eightsgn") (n := 200) (by unfold acts; simp) (by decide) (by decide)
  have p1 := back_pair (zs := (List.replicate 200 "eightsgn")) (fun z m => (rep_mem m).symm ▸ List.mem_cons_of_mem _ List.mem_cons_self) (Nat.le_of_eq List.length_replicate)
  have q1 := tup_at "eightsgn" 200 (by decide) (by decide)
  have n1 : oNe (.tuple (strsD (List.replicate 200 "eightsgn"))) (.tuple (strsD (List.replicate 200 "eightsgn"))) = some (.bool false) := by
    rw [p_ne sh sh, eqv_strsD]
    rfl
  have r1 := rep_at "eightsgn" 200 (by decide) [Itm.dat X, t1, .dat (.tuple [.str "a", .str "eightsgn"]), .un, t4, t5, t6, .un, .un, .un]
  exact s2g (E := (List.replicate 200 "eightsgn")) r1 j1 p1 q1 n1
theorem s3g {X : PyData} {t1 t4 t5 t6 : Itm} {E : List Str} {w : Str} (r1 : dRep (dCons (dC (.str "a")) dNil) (dC (.int 201)) [Itm.dat X, t1, .dat (.tuple [.str "a", .str "eightsgn"]), .un, t4, t5, t6, .un, .un, .un] = .ok (.list (strsD E))) (j1 : mJoin " " (.list (strsD E)) = some (.str w)) (p1 : M_parse_word [.tuple [.str "a", .str "eightsgn"], .str w] = .err "ParseError") : (mIf (liO (sB (sOp oNotN (sTry isPE (dCall M_parse_word (dCons (dVar 2) (dCons (dM1 mJoin (dC (.str " ")) (dRep (dCons (dC (.str "a")) dNil) (dC (.int 201)))) dNil)))) (lS (dC .none)))))
  (mSeq (mRet (liR (dC (.bool false))))
  mNil)
  mNil) [Itm.dat X, t1, .dat (.tuple [.str "a", .str "eightsgn"]), .un, t4, t5, t6, .un, .un, .un] = .nx [Itm.dat X, t1, .dat (.tuple [.str "a", .str "eightsgn"]), .un, t4, t5, t6, .un, .un, .un] := by
  exact if_told (call_at (cons_at rfl (cons_at (join_at r1 j1) nil_at)) p1)
theorem s3 {X : PyData} {t1 t4 t5 t6 : Itm} : (mIf (liO (sB (sOp oNotN (sTry isPE (dCall M_parse_word (dCons (dVar 2) (dCons (dM1 mJoin (dC (.str " ")) (dRep (dCons (dC (.str "a")) dNil) (dC (.int 201)))) dNil)))) (lS (dC .none)))))
  (mSeq (mRet (liR (dC (.bool false))))
  mNil)
  mNil) [Itm.dat X, t1, .dat (.tuple [.str "a", .str "eightsgn"]), .un, t4, t5, t6, .un, .un, .un] = .nx [Itm.dat X, t1, .dat (.tuple [.str "a", .str "eightsgn"]), .un, t4, t5, t6, .un, .un, .un] := by
  have ha : ("a" : Str) ∈ acts := by unfold acts; simp
  have j1 := join_rep (z := "a") (n := 201) ha (by decide) (by decide)
  have ws := words_of (rep_acts ha 201)
  have g : Gd (wText (List.replicate 201 "a")) := by
    unfold wText
    split
    · exact dash_gd
    · exact join_gd (k := 8) (fun z hz c hc => by have := (act_gd z (rep_acts ha 201 z hz)).1 c hc; omega) (fun z hz => (act_gd z (rep_acts ha 201 z hz)).2.2) (by rw [List.length_replicate]; decide)
  have p1 : M_parse_word [.tuple [.str "a", .str "eightsgn"], .str (wText (List.replicate 201 "a"))] = .err "ParseError" := by
    have e := e_parse_word pairA g
    rw [ws, List.length_replicate] at e
    have q : (wOk ["a", "eightsgn"] (List.replicate 201 "a") && decide (201 ≤ 200)) = false := by
      rw [show decide (201 ≤ 200) = false from rfl, Bool.and_false]
    rw [q] at e
    exact e
  exact s3g (rep_at "a" 201 (by decide) _) j1 p1
theorem s4 {X : PyData} {t1 t4 t5 t6 : Itm} : (mSet 3 (liR (dLst (dCons (dOp oAdd (dC (.str "1")) (dOp oMul (dC (.str "0")) (dC (.int 40)))) (dCons (dOp oAdd (dC (.str "-1")) (dOp oMul (dC (.str "0")) (dC (.int 40)))) (dCons (dOp oMul (dC (.str "9")) (dC (.int 5000))) (dCons (dOp oAdd (dC (.str "-")) (dOp oMul (dC (.str "1")) (dC (.int 5000)))) (dCons (dOp oAdd (dC (.str "1 ")) (dOp oMul (dC (.str "7")) (dC (.int 6000)))) dNil)))))))) [Itm.dat X, t1, .dat (.tuple [.str "a", .str "eightsgn"]), .un, t4, t5, t6, .un, .un, .un] = .nx [Itm.dat X, t1, .dat (.tuple [.str "a", .str "eightsgn"]), .dat (.list [.str v1, .str v2, .str v3, .str v4, .str v5]), t4, t5, t6, .un, .un, .un] := by
  have a1 : oMul (.str "0") (.int 40) = some (.str (many 48 40)) := m0 40 (by decide)
  have a2 : oMul (.str "9") (.int 5000) = some (.str v3) := m9 5000 (by decide)
  have a3 : oMul (.str "1") (.int 5000) = some (.str (many 49 5000)) := m1 5000 (by decide)
  have a4 : oMul (.str "7") (.int 6000) = some (.str (many 55 6000)) := m7 6000 (by decide)
  have b1 : oAdd (.str "1") (.str (many 48 40)) = some (.str v1) := addS (k := 1) (n := 40) (by decide +kernel) (by rw [many_len]; decide) (by decide)
  have b2 : oAdd (.str "-1") (.str (many 48 40)) = some (.str v2) := addS (k := 2) (n := 40) (by decide +kernel) (by rw [many_len]; decide) (by decide)
  have b4 : oAdd (.str "-") (.str (many 49 5000)) = some (.str v4) := addS (k := 1) (n := 5000) (by decide +kernel) (by rw [many_len]; decide) (by decide)
  have b5 : oAdd (.str "1 ") (.str (many 55 6000)) = some (.str v5) := addS (k := 2) (n := 6000) (by decide +kernel) (by rw [many_len]; decide) (by decide)
  simp only [mir, mirL, mirN, startR, startL, mSeq, mNil, mFrz, mSet, mAsg, mPar, mNew, mNew2, mDrop, mRet, mRetN, mIf, mRaise, mFor, mWhile, mSetIx, xbind, liR, liO, lS, lST, lSs, Out.thn, outR, own0, dVar, dOwn, dC, dOp, dChain, dB, asB, dAnd, dOr, dNot, dAndV, dOrV, dNotV, dIf, dNeg, dNil, dCons, dTup, dLst, dCall, dBi, dSl, dNo, dSo, dM1, dIsi, dItems, dRng, dZip, dLc, dYes, dFmt, wipeR, setR, gtN, gtSeq, gtCons, gtNil, sNil, sCons, sOp, sB, sNotT, sTup, sLst, sBi, sCall, sSl, sOwn, sCallL, sRng, sItems, sLc, sYes, sTry, nLst, nList, nCall, Res.bind, ofO, frz, List.map_cons, List.map_nil, List.length_cons, List.length_nil, List.replicate, List.cons_append, List.nil_append, List.getElem?_cons_zero, List.getElem?_cons_succ, List.set_cons_zero, List.set_cons_succ, List.foldl_cons, List.foldl_nil, Nat.reduceAdd, Nat.reduceSub, Nat.reduceLeDiff, Nat.zero_le, Nat.zero_add, Option.bind_some, Option.map_some, Option.bind_none, Option.map_none, if_true, if_false, reduceIte, Bool.not_true, Bool.not_false, Bool.false_eq_true, a1, a2, a3, a4, b1, b2, b4, b5]
theorem s5g {X : PyData} {t1 t4 t5 t6 : Itm} {w1 w2 w3 w4 w5 : Str} (h1 : M_parse_vector [.str w1] = .err "ParseError") (h2 : M_parse_vector [.str w2] = .err "ParseError") (h3 : M_parse_vector [.str w3] = .err "ParseError") (h4 : M_parse_vector [.str w4] = .err "ParseError") (h5 : M_parse_vector [.str w5] = .err "ParseError") : (mIf (liO (sB (sOp oNe (sLc (lSs (dItems (dVar 3))) (gtN 9) (sB (sOp oNotN (sTry isPE (dCall M_parse_vector (dCons (dVar 9) dNil))) (lS (dC .none)))) (lS (dVar 9)) [9]) (lS (dLst dNil)))))
  (mSeq (mRet (liR (dC (.bool false))))
  mNil)
  mNil) [Itm.dat X, t1, .dat (.tuple [.str "a", .str "eightsgn"]), .dat (.list [.str w1, .str w2, .str w3, .str w4, .str w5]), t4, t5, t6, .un, .un, .un] = .nx [Itm.dat X, t1, .dat (.tuple [.str "a", .str "eightsgn"]), .dat (.list [.str w1, .str w2, .str w3, .str w4, .str w5]), t4, t5, t6, .un, .un, .un] := by
  have n0 : oNe (.list []) (.list []) = some (.bool false) := rfl
  have z : (5 : Nat) ≤ 100000 := by decide
  simp only [mir, mirL, mirN, startR, startL, mSeq, mNil, mFrz, mSet, mAsg, mPar, mNew, mNew2, mDrop, mRet, mRetN, mIf, mRaise, mFor, mWhile, mSetIx, xbind, liR, liO, lS, lST, lSs, Out.thn, outR, own0, dVar, dOwn, dC, dOp, dChain, dB, asB, dAnd, dOr, dNot, dAndV, dOrV, dNotV, dIf, dNeg, dNil, dCons, dTup, dLst, dCall, dBi, dSl, dNo, dSo, dM1, dIsi, dItems, dRng, dZip, dLc, dYes, dFmt, wipeR, setR, gtN, gtSeq, gtCons, gtNil, sNil, sCons, sOp, sB, sNotT, sTup, sLst, sBi, sCall, sSl, sOwn, sCallL, sRng, sItems, sLc, sYes, sTry, nLst, nList, nCall, Res.bind, ofO, frz, List.map_cons, List.map_nil, List.length_cons, List.length_nil, List.replicate, List.cons_append, List.nil_append, List.getElem?_cons_zero, List.getElem?_cons_succ, List.set_cons_zero, List.set_cons_succ, List.foldl_cons, List.foldl_nil, Nat.reduceAdd, Nat.reduceSub, Nat.reduceLeDiff, Nat.zero_le, Nat.zero_add, Option.bind_some, Option.map_some, Option.bind_none, Option.map_none, if_true, if_false, reduceIte, Bool.not_true, Bool.not_false, Bool.false_eq_true, i_lst, slc, h1, h2, h3, h4, h5, isPE_is, notN_none, if_pos z, resR, n0]
  rfl
theorem s5 {X : PyData} {t1 t4 t5 t6 : Itm} : (mIf (liO (sB (sOp oNe (sLc (lSs (dItems (dVar 3))) (gtN 9) (sB (sOp oNotN (sTry isPE (dCall M_parse_vector (dCons (dVar 9) dNil))) (lS (dC .none)))) (lS (dVar 9)) [9]) (lS (dLst dNil)))))
  (mSeq (mRet (liR (dC (.bool false))))
  mNil)
  mNil) [Itm.dat X, t1, .dat (.tuple [.str "a", .str "eightsgn"]), .dat (.list [.str v1, .str v2, .str v3, .str v4, .str v5]), t4, t5, t6, .un, .un, .un] = .nx [Itm.dat X, t1, .dat (.tuple [.str "a", .str "eightsgn"]), .dat (.list [.str v1, .str v2, .str v3, .str v4, .str v5]), t4, t5, t6, .un, .un, .un] := by
  exact s5g bad_v1 bad_v2 bad_v3 bad_v4 bad_v5
theorem s6 {X : PyData} {t1 t4 t5 t6 : Itm} : (mSet 3 (liR (dLst (dCons (dOp oAdd (dC (.str "1")) (dOp oMul (dC (.str "0")) (dC (.int 40)))) (dCons (dOp oMul (dC (.str "9")) (dC (.int 5000))) (dCons (dOp oAdd (dOp oMul (dC (.str "9")) (dC (.int 5000))) (dC (.str "/2"))) (dCons (dOp oAdd (dC (.str "1/")) (dOp oMul (dC (.str "3")) (dC (.int 5000)))) (dCons (dOp oAdd (dC (.str "1/1")) (dOp oMul (dC (.str "0")) (dC (.int 40)))) dNil)))))))) [Itm.dat X, t1, .dat (.tuple [.str "a", .str "eightsgn"]), .dat (.list [.str v1, .str v2, .str v3, .str v4, .str v5]), t4, t5, t6, .un, .un, .un] = .nx [Itm.dat X, t1, .dat (.tuple [.str "a", .str "eightsgn"]), .dat (.list [.str f1, .str f2, .str f3, .str f4, .str f5]), t4, t5, t6, .un, .un, .un] := by
  have a1 : oMul (.str "0") (.int 40) = some (.str (many 48 40)) := m0 40 (by decide)
  have a2 : oMul (.str "9") (.int 5000) = some (.str f2) := m9 5000 (by decide)
  have a4 : oMul (.str "3") (.int 5000) = some (.str (many 51 5000)) := m3 5000 (by decide)
  have b1 : oAdd (.str "1") (.str (many 48 40)) = some (.str f1) := addS (k := 1) (n := 40) (by decide +kernel) (by rw [many_len]; decide) (by decide)
  have b3 : oAdd (.str f2) (.str "/2") = some (.str f3) := addS (k := 5000) (n := 2) (by unfold f2; rw [many_len]; decide) (by decide +kernel) (by decide)
  have b4 : oAdd (.str "1/") (.str (many 51 5000)) = some (.str f4) := addS (k := 2) (n := 5000) (by decide +kernel) (by rw [many_len]; decide) (by decide)
  have b5 : oAdd (.str "1/1") (.str (many 48 40)) = some (.str f5) := addS (k := 3) (n := 40) (by decide +kernel) (by rw [many_len]; decide) (by decide)
  simp only [mir, mirL, mirN, startR, startL, mSeq, mNil, mFrz, mSet, mAsg, mPar, mNew, mNew2, mDrop, mRet, mRetN, mIf, mRaise, mFor, mWhile, mSetIx, xbind, liR, liO, lS, lST, lSs, Out.thn, outR, own0, dVar, dOwn, dC, dOp, dChain, dB, asB, dAnd, dOr, dNot, dAndV, dOrV, dNotV, dIf, dNeg, dNil, dCons, dTup, dLst, dCall, dBi, dSl, dNo, dSo, dM1, dIsi, dItems, dRng, dZip, dLc, dYes, dFmt, wipeR, setR, gtN, gtSeq, gtCons, gtNil, sNil, sCons, sOp, sB, sNotT, sTup, sLst, sBi, sCall, sSl, sOwn, sCallL, sRng, sItems, sLc, sYes, sTry, nLst, nList, nCall, Res.bind, ofO, frz, List.map_cons, List.map_nil, List.length_cons, List.length_nil, List.replicate, List.cons_append, List.nil_append, List.getElem?_cons_zero, List.getElem?_cons_succ, List.set_cons_zero, List.set_cons_succ, List.foldl_cons, List.foldl_nil, Nat.reduceAdd, Nat.reduceSub, Nat.reduceLeDiff, Nat.zero_le, Nat.zero_add, Option.bind_some, Option.map_some, Option.bind_none, Option.map_none, if_true, if_false, reduceIte, Bool.not_true, Bool.not_false, Bool.false_eq_true, a1, a2, a4, b1, b3, b4, b5]
theorem s7g {X : PyData} {t1 t4 t5 t6 : Itm} {w1 w2 w3 w4 w5 : Str} (h1 : M_parse_fraction [.str w1] = .err "ParseError") (h2 : M_parse_fraction [.str w2] = .err "ParseError") (h3 : M_parse_fraction [.str w3] = .err "ParseError") (h4 : M_parse_fraction [.str w4] = .err "ParseError") (h5 : M_parse_fraction [.str w5] = .err "ParseError") : (mIf (liO (sB (sOp oNe (sLc (lSs (dItems (dVar 3))) (gtN 9) (sB (sOp oNotN (sTry isPE (dCall M_parse_fraction (dCons (dVar 9) dNil))) (lS (dC .none)))) (lS (dVar 9)) [9]) (lS (dLst dNil)))))
  (mSeq (mRet (liR (dC (.bool false))))
  mNil)
  mNil) [Itm.dat X, t1, .dat (.tuple [.str "a", .str "eightsgn"]), .dat (.list [.str w1, .str w2, .str w3, .str w4, .str w5]), t4, t5, t6, .un, .un, .un] = .nx [Itm.dat X, t1, .dat (.tuple [.str "a", .str "eightsgn"]), .dat (.list [.str w1, .str w2, .str w3, .str w4, .str w5]), t4, t5, t6, .un, .un, .un] := by
  have n0 : oNe (.list []) (.list []) = some (.bool false) := rfl
  have z : (5 : Nat) ≤ 100000 := by decide
  simp only [mir, mirL, mirN, startR, startL, mSeq, mNil, mFrz, mSet, mAsg, mPar, mNew, mNew2, mDrop, mRet, mRetN, mIf, mRaise, mFor, mWhile, mSetIx, xbind, liR, liO, lS, lST, lSs, Out.thn, outR, own0, dVar, dOwn, dC, dOp, dChain, dB, asB, dAnd, dOr, dNot, dAndV, dOrV, dNotV, dIf, dNeg, dNil, dCons, dTup, dLst, dCall, dBi, dSl, dNo, dSo, dM1, dIsi, dItems, dRng, dZip, dLc, dYes, dFmt, wipeR, setR, gtN, gtSeq, gtCons, gtNil, sNil, sCons, sOp, sB, sNotT, sTup, sLst, sBi, sCall, sSl, sOwn, sCallL, sRng, sItems, sLc, sYes, sTry, nLst, nList, nCall, Res.bind, ofO, frz, List.map_cons, List.map_nil, List.length_cons, List.length_nil, List.replicate, List.cons_append, List.nil_append, List.getElem?_cons_zero, List.getElem?_cons_succ, List.set_cons_zero, List.set_cons_succ, List.foldl_cons, List.foldl_nil, Nat.reduceAdd, Nat.reduceSub, Nat.reduceLeDiff, Nat.zero_le, Nat.zero_add, Option.bind_some, Option.map_some, Option.bind_none, Option.map_none, if_true, if_false, reduceIte, Bool.not_true, Bool.not_false, Bool.false_eq_true, i_lst, slc, h1, h2, h3, h4, h5, isPE_is, notN_none, if_pos z, resR, n0]
  rfl
theorem s7 {X : PyData} {t1 t4 t5 t6 : Itm} : (mIf (liO (sB (sOp oNe (sLc (lSs (dItems (dVar 3))) (gtN 9) (sB (sOp oNotN (sTry isPE (dCall M_parse_fraction (dCons (dVar 9) dNil))) (lS (dC .none)))) (lS (dVar 9)) [9]) (lS (dLst dNil)))))
  (mSeq (mRet (liR (dC (.bool false))))
  mNil)
  mNil) [Itm.dat X, t1, .dat (.tuple [.str "a", .str "eightsgn"]), .dat (.list [.str f1, .str f2, .str f3, .str f4, .str f5]), t4, t5, t6, .un, .un, .un] = .nx [Itm.dat X, t1, .dat (.tuple [.str "a", .str "eightsgn"]), .dat (.list [.str f1, .str f2, .str f3, .str f4, .str f5]), t4, t5, t6, .un, .un, .un] := by
  exact s7g bad_f1 bad_f2 bad_f3 bad_f4 bad_f5
theorem s8 {X : PyData} {t1 t3 t4 t5 t6 : Itm} : (mAsg (gtSeq 2 (gtCons (gtN 7) (gtCons (gtN 8) gtNil))) (liR (dTup (dCons (dOp oMul (dC (.str "9")) (dC (.int 40))) (dCons (dOp oSub (dOp oPow (dC (.int 10)) (dC (.int 40))) (dC (.int 1))) dNil))))) [Itm.dat X, t1, .dat (.tuple [.str "a", .str "eightsgn"]), t3, t4, t5, t6, .un, .un, .un] = .nx [Itm.dat X, t1, .dat (.tuple [.str "a", .str "eightsgn"]), t3, t4, t5, t6, .dat (.str d40), .dat (.int gg), .un] := by
  have a1 : oMul (.str "9") (.int 40) = some (.str d40) := m9 40 (by decide)
  have a2 : oPow (.int 10) (.int 40) = some (.int (10 ^ 40)) := by rfl
  simp only [mir, mirL, mirN, startR, startL, mSeq, mNil, mFrz, mSet, mAsg, mPar, mNew, mNew2, mDrop, mRet, mRetN, mIf, mRaise, mFor, mWhile, mSetIx, xbind, liR, liO, lS, lST, lSs, Out.thn, outR, own0, dVar, dOwn, dC, dOp, dChain, dB, asB, dAnd, dOr, dNot, dAndV, dOrV, dNotV, dIf, dNeg, dNil, dCons, dTup, dLst, dCall, dBi, dSl, dNo, dSo, dM1, dIsi, dItems, dRng, dZip, dLc, dYes, dFmt, wipeR, setR, gtN, gtSeq, gtCons, gtNil, sNil, sCons, sOp, sB, sNotT, sTup, sLst, sBi, sCall, sSl, sOwn, sCallL, sRng, sItems, sLc, sYes, sTry, nLst, nList, nCall, Res.bind, ofO, frz, List.map_cons, List.map_nil, List.length_cons, List.length_nil, List.replicate, List.cons_append, List.nil_append, List.getElem?_cons_zero, List.getElem?_cons_succ, List.set_cons_zero, List.set_cons_succ, List.foldl_cons, List.foldl_nil, Nat.reduceAdd, Nat.reduceSub, Nat.reduceLeDiff, Nat.zero_le, Nat.zero_add, Option.bind_some, Option.map_some, Option.bind_none, Option.map_none, if_true, if_false, reduceIte, Bool.not_true, Bool.not_false, Bool.false_eq_true, a1, a2, p_sub]
  rfl
theorem s9 {X : PyData} {t1 t3 t4 t5 t6 : Itm} : (mIf (liR (dB (dOp oNe (dLst (dCons (dCall M_parse_vector (dCons (dOp oAdd (dC (.str "1 -")) (dVar 7)) dNil)) (dCons (dCall M_parse_fraction (dCons (dOp oAdd (dVar 7) (dC (.str "/2"))) dNil)) dNil))) (dLst (dCons (dTup (dCons (dC (.int 1)) (dCons (dOp oSub (dC (.int 0)) (dVar 8)) dNil))) (dCons (dTup (dCons (dVar 8) (dCons (dC (.int 2)) dNil))) dNil))))))
  (mSeq (mRet (liR (dC (.bool false))))
  mNil)
  mNil) [Itm.dat X, t1, .dat (.tuple [.str "a", .str "eightsgn"]), t3, t4, t5, t6, .dat (.str d40), .dat (.int gg), .un] = .nx [Itm.dat X, t1, .dat (.tuple [.str "a", .str "eightsgn"]), t3, t4, t5, t6, .dat (.str d40), .dat (.int gg), .un] := by
  have l1 : d40.length ≤ 40 := by unfold d40; rw [many_len]; decide
  have b1 : oAdd (.str "1 -") (.str d40) = some (.str ("1 -" ++ d40)) := addS (k := 3) (n := 40) (by decide +kernel) l1 (by decide)
  have b2 : oAdd (.str d40) (.str "/2") = some (.str (d40 ++ "/2")) := addS (k := 40) (n := 2) l1 (by decide +kernel) (by decide)
  have n1 : oNe (.list [.tuple [.int 1, .int (0 - gg)], .tuple [.int gg, .int 2]]) (.list [.tuple [.int 1, .int (0 - gg)], .tuple [.int gg, .int 2]]) = some (.bool false) := by
    have e : PyData.eqv (.list [.tuple [.int 1, .int (0 - gg)], .tuple [.int gg, .int 2]]) (.list [.tuple [.int 1, .int (0 - gg)], .tuple [.int gg, .int 2]]) = true := by simp [PyData.eqv, PyData.eqvAll]
    rw [p_ne rfl rfl, e]
    rfl
  simp only [mir, mirL, mirN, startR, startL, mSeq, mNil, mFrz, mSet, mAsg, mPar, mNew, mNew2, mDrop, mRet, mRetN, mIf, mRaise, mFor, mWhile, mSetIx, xbind, liR, liO, lS, lST, lSs, Out.thn, outR, own0, dVar, dOwn, dC, dOp, dChain, dB, asB, dAnd, dOr, dNot, dAndV, dOrV, dNotV, dIf, dNeg, dNil, dCons, dTup, dLst, dCall, dBi, dSl, dNo, dSo, dM1, dIsi, dItems, dRng, dZip, dLc, dYes, dFmt, wipeR, setR, gtN, gtSeq, gtCons, gtNil, sNil, sCons, sOp, sB, sNotT, sTup, sLst, sBi, sCall, sSl, sOwn, sCallL, sRng, sItems, sLc, sYes, sTry, nLst, nList, nCall, Res.bind, ofO, frz, List.map_cons, List.map_nil, List.length_cons, List.length_nil, List.replicate, List.cons_append, List.nil_append, List.getElem?_cons_zero, List.getElem?_cons_succ, List.set_cons_zero, List.set_cons_succ, List.foldl_cons, List.foldl_nil, Nat.reduceAdd, Nat.reduceSub, Nat.reduceLeDiff, Nat.zero_le, Nat.zero_add, Option.bind_some, Option.map_some, Option.bind_none, Option.map_none, if_true, if_false, reduceIte, Bool.not_true, Bool.not_false, Bool.false_eq_true, b1, b2, pv1, pf1, p_sub, n1]
theorem s10 {X : PyData} {t1 t3 t4 t5 t6 : Itm} : (mIf (liR (dB (dOp oNe (dLst (dCons (dCall M_format_vector (dCons (dTup (dCons (dVar 8) (dCons (dC (.int 0)) dNil))) dNil)) (dCons (dCall M_format_fraction (dCons (dTup (dCons (dC (.int 1)) (dCons (dVar 8) dNil))) dNil)) dNil))) (dLst (dCons (dOp oAdd (dVar 7) (dC (.str " 0"))) (dCons (dOp oAdd (dC (.str "1/")) (dVar 7)) dNil))))))
  (mSeq (mRet (liR (dC (.bool false))))
  mNil)
  mNil) [Itm.dat X, t1, .dat (.tuple [.str "a", .str "eightsgn"]), t3, t4, t5, t6, .dat (.str d40), .dat (.int gg), .un] = .nx [Itm.dat X, t1, .dat (.tuple [.str "a", .str "eightsgn"]), t3, t4, t5, t6, .dat (.str d40), .dat (.int gg), .un] := by
  have l1 : d40.length ≤ 40 := by unfold d40; rw [many_len]; decide
  have b1 : oAdd (.str d40) (.str " 0") = some (.str (d40 ++ " 0")) := addS (k := 40) (n := 2) l1 (by decide +kernel) (by decide)
  have b2 : oAdd (.str "1/") (.str d40) = some (.str ("1/" ++ d40)) := addS (k := 2) (n := 40) (by decide +kernel) l1 (by decide)
  have s1 : PyData.strOk (d40 ++ " 0") = true := (AscS.app d40_gd.asc (by unfold AscS; decide +kernel)).ok
  have s2 : PyData.strOk ("1/" ++ d40) = true := (AscS.app (by unfold AscS; decide +kernel) d40_gd.asc).ok
  have n1 : oNe (.list [.str (d40 ++ " 0"), .str ("1/" ++ d40)]) (.list [.str (d40 ++ " 0"), .str ("1/" ++ d40)]) = some (.bool false) := by
    have sh : SeqAt.shaped (.list [.str (d40 ++ " 0"), .str ("1/" ++ d40)]) = true := sh_strs (zs := [d40 ++ " 0", "1/" ++ d40]) fun z hz => by
      simp only [List.mem_cons, List.not_mem_nil, or_false] at hz
      rcases hz with rfl | rfl <;> assumption
    have e : PyData.eqv (.list [.str (d40 ++ " 0"), .str ("1/" ++ d40)]) (.list [.str (d40 ++ " 0"), .str ("1/" ++ d40)]) = true := by simp [PyData.eqv, PyData.eqvAll]
    rw [p_ne sh sh, e]
    rfl
  simp only [mir, mirL, mirN, startR, startL, mSeq, mNil, mFrz, mSet, mAsg, mPar, mNew, mNew2, mDrop, mRet, mRetN, mIf, mRaise, mFor, mWhile, mSetIx, xbind, liR, liO, lS, lST, lSs, Out.thn, outR, own0, dVar, dOwn, dC, dOp, dChain, dB, asB, dAnd, dOr, dNot, dAndV, dOrV, dNotV, dIf, dNeg, dNil, dCons, dTup, dLst, dCall, dBi, dSl, dNo, dSo, dM1, dIsi, dItems, dRng, dZip, dLc, dYes, dFmt, wipeR, setR, gtN, gtSeq, gtCons, gtNil, sNil, sCons, sOp, sB, sNotT, sTup, sLst, sBi, sCall, sSl, sOwn, sCallL, sRng, sItems, sLc, sYes, sTry, nLst, nList, nCall, Res.bind, ofO, frz, List.map_cons, List.map_nil, List.length_cons, List.length_nil, List.replicate, List.cons_append, List.nil_append, List.getElem?_cons_zero, List.getElem?_cons_succ, List.set_cons_zero, List.set_cons_succ, List.foldl_cons, List.foldl_nil, Nat.reduceAdd, Nat.reduceSub, Nat.reduceLeDiff, Nat.zero_le, Nat.zero_add, Option.bind_some, Option.map_some, Option.bind_none, Option.map_none, if_true, if_false, reduceIte, Bool.not_true, Bool.not_false, Bool.false_eq_true, fv1, ff1, b1, b2, n1]
theorem s11 {X : PyData} {t1 t3 t4 t5 t6 : Itm} : (mIf (liO (sB (sOp oNotN (sTry isPE (dCall M_parse_vector (dCons (dOp oAdd (dC (.str "0")) (dVar 7)) dNil))) (lS (dC .none)))))
  (mSeq (mRet (liR (dC (.bool false))))
  mNil)
  mNil) [Itm.dat X, t1, .dat (.tuple [.str "a", .str "eightsgn"]), t3, t4, t5, t6, .dat (.str d40), .dat (.int gg), .un] = .nx [Itm.dat X, t1, .dat (.tuple [.str "a", .str "eightsgn"]), t3, t4, t5, t6, .dat (.str d40), .dat (.int gg), .un] := by
  have l1 : d40.length ≤ 40 := by unfold d40; rw [many_len]; decide
  have b1 : oAdd (.str "0") (.str d40) = some (.str ("0" ++ d40)) := addS (k := 1) (n := 40) (by decide +kernel) l1 (by decide)
  simp only [mir, mirL, mirN, startR, startL, mSeq, mNil, mFrz, mSet, mAsg, mPar, mNew, mNew2, mDrop, mRet, mRetN, mIf, mRaise, mFor, mWhile, mSetIx, xbind, liR, liO, lS, lST, lSs, Out.thn, outR, own0, dVar, dOwn, dC, dOp, dChain, dB, asB, dAnd, dOr, dNot, dAndV, dOrV, dNotV, dIf, dNeg, dNil, dCons, dTup, dLst, dCall, dBi, dSl, dNo, dSo, dM1, dIsi, dItems, dRng, dZip, dLc, dYes, dFmt, wipeR, setR, gtN, gtSeq, gtCons, gtNil, sNil, sCons, sOp, sB, sNotT, sTup, sLst, sBi, sCall, sSl, sOwn, sCallL, sRng, sItems, sLc, sYes, sTry, nLst, nList, nCall, Res.bind, ofO, frz, List.map_cons, List.map_nil, List.length_cons, List.length_nil, List.replicate, List.cons_append, List.nil_append, List.getElem?_cons_zero, List.getElem?_cons_succ, List.set_cons_zero, List.set_cons_succ, List.foldl_cons, List.foldl_nil, Nat.reduceAdd, Nat.reduceSub, Nat.reduceLeDiff, Nat.zero_le, Nat.zero_add, Option.bind_some, Option.map_some, Option.bind_none, Option.map_none, if_true, if_false, reduceIte, Bool.not_true, Bool.not_false, Bool.false_eq_true, b1, pv2, isPE_is, notN_none]
theorem s12 {X : PyData} {t1 t3 t4 t5 t6 : Itm} : (mIf (liO (sB (sOp oNotN (sTry isPE (dCall M_parse_fraction (dCons (dOp oAdd (dOp oAdd (dVar 7) (dC (.str "/"))) (dVar 7)) dNil))) (lS (dC .none)))))
  (mSeq (mRet (liR (dC (.bool false))))
  mNil)
  mNil) [Itm.dat X, t1, .dat (.tuple [.str "a", .str "eightsgn"]), t3, t4, t5, t6, .dat (.str d40), .dat (.int gg), .un] = .nx [Itm.dat X, t1, .dat (.tuple [.str "a", .str "eightsgn"]), t3, t4, t5, t6, .dat (.str d40), .dat (.int gg), .un] := by
  have l1 : d40.length ≤ 40 := by unfold d40; rw [many_len]; decide
  have sl : ("/" : Str).length = 1 := by decide +kernel
  have b1 : oAdd (.str d40) (.str "/") = some (.str (d40 ++ "/")) := addS (k := 40) (n := 1) l1 (by decide +kernel) (by decide)
  have b2 : oAdd (.str (d40 ++ "/")) (.str d40) = some (.str (d40 ++ "/" ++ d40)) := addS (k := 41) (n := 40) (by rw [str_len_app, sl]; omega) l1 (by decide)
  simp only [mir, mirL, mirN, startR, startL, mSeq, mNil, mFrz, mSet, mAsg, mPar, mNew, mNew2, mDrop, mRet, mRetN, mIf, mRaise, mFor, mWhile, mSetIx, xbind, liR, liO, lS, lST, lSs, Out.thn, outR, own0, dVar, dOwn, dC, dOp, dChain, dB, asB, dAnd, dOr, dNot, dAndV, dOrV, dNotV, dIf, dNeg, dNil, dCons, dTup, dLst, dCall, dBi, dSl, dNo, dSo, dM1, dIsi, dItems, dRng, dZip, dLc, dYes, dFmt, wipeR, setR, gtN, gtSeq, gtCons, gtNil, sNil, sCons, sOp, sB, sNotT, sTup, sLst, sBi, sCall, sSl, sOwn, sCallL, sRng, sItems, sLc, sYes, sTry, nLst, nList, nCall, Res.bind, ofO, frz, List.map_cons, List.map_nil, List.length_cons, List.length_nil, List.replicate, List.cons_append, List.nil_append, List.getElem?_cons_zero, List.getElem?_cons_succ, List.set_cons_zero, List.set_cons_succ, List.foldl_cons, List.foldl_nil, Nat.reduceAdd, Nat.reduceSub, Nat.reduceLeDiff, Nat.zero_le, Nat.zero_add, Option.bind_some, Option.map_some, Option.bind_none, Option.map_none, if_true, if_false, reduceIte, Bool.not_true, Bool.not_false, Bool.false_eq_true, b1, b2, pf2, isPE_is, notN_none]
theorem s13 {X : PyData} {t1 t3 t4 t5 t6 : Itm} : (mRet (liR (dAndV (dOp oEq (dCall M_format_fraction (dCons (dTup (dCons (dNeg (dC (.int 3))) (dCons (dC (.int 2)) dNil))) dNil)) (dC (.str "-3/2"))) (dAndV (dOp oEq (dCall M_parse_fraction (dCons (dC (.str "0")) dNil)) (dTup (dCons (dC (.int 0)) (dCons (dC (.int 1)) dNil)))) (dOp oEq (dCall M_parse_vector (dCons (dC (.str "1 -2")) dNil)) (dTup (dCons (dC (.int 1)) (dCons (dNeg (dC (.int 2))) dNil)))))))) [Itm.dat X, t1, .dat (.tuple [.str "a", .str "eightsgn"]), t3, t4, t5, t6, .dat (.str d40), .dat (.int gg), .un] = .ret (.bool true) [Itm.dat X, t1, .dat (.tuple [.str "a", .str "eightsgn"]), t3, t4, t5, t6, .dat (.str d40), .dat (.int gg), .un] := by
  have n1 : oEq (.str "-3/2") (.str "-3/2") = some (.bool true) := by
    rw [p_eqS (by decide +kernel) (by decide +kernel)]
    rfl
  have n2 : oEq (.tuple [.int 0, .int 1]) (.tuple [.int 0, .int 1]) = some (.bool true) := rfl
  have n3 : oEq (.tuple [.int 1, .int (-2)]) (.tuple [.int 1, .int (-2)]) = some (.bool true) := rfl
  simp only [mir, mirL, mirN, startR, startL, mSeq, mNil, mFrz, mSet, mAsg, mPar, mNew, mNew2, mDrop, mRet, mRetN, mIf, mRaise, mFor, mWhile, mSetIx, xbind, liR, liO, lS, lST, lSs, Out.thn, outR, own0, dVar, dOwn, dC, dOp, dChain, dB, asB, dAnd, dOr, dNot, dAndV, dOrV, dNotV, dIf, dNeg, dNil, dCons, dTup, dLst, dCall, dBi, dSl, dNo, dSo, dM1, dIsi, dItems, dRng, dZip, dLc, dYes, dFmt, wipeR, setR, gtN, gtSeq, gtCons, gtNil, sNil, sCons, sOp, sB, sNotT, sTup, sLst, sBi, sCall, sSl, sOwn, sCallL, sRng, sItems, sLc, sYes, sTry, nLst, nList, nCall, Res.bind, ofO, frz, List.map_cons, List.map_nil, List.length_cons, List.length_nil, List.replicate, List.cons_append, List.nil_append, List.getElem?_cons_zero, List.getElem?_cons_succ, List.set_cons_zero, List.set_cons_succ, List.foldl_cons, List.foldl_nil, Nat.reduceAdd, Nat.reduceSub, Nat.reduceLeDiff, Nat.zero_le, Nat.zero_add, Option.bind_some, Option.map_some, Option.bind_none, Option.map_none, if_true, if_false, reduceIte, Bool.not_true, Bool.not_false, Bool.false_eq_true, ff2, n1, pf3, n2, pv3, n3]
end K77
end

section
set_option Elab.async false
set_option linter.all false
set_option maxRecDepth 100000
set_option maxHeartbeats 1000000
namespace K77
open D PySem L2 TL NumText
theorem min_max (n : Nat) : ∃ k : Nat, (if (if (n : Int) < 8 then (n : Int) else 8) > 1 then (if (n : Int) < 8 then (n : Int) else 8) else 1) = (k : Int) ∧ k ≤ 8 := by
  by_cases h : n < 8
  · by_cases h1 : 1 < n
    · exact ⟨n, by rw [if_pos (show (n : Int) < 8 by omega), if_pos (by omega)], by omega⟩
    · exact ⟨1, by rw [if_pos (show (n : Int) < 8 by omega), if_neg (by omega)]; rfl, by omega⟩
  · exact ⟨8, by rw [if_neg (show ¬ (n : Int) < 8 by omega), if_pos (by omega)]; rfl, by omega⟩
theorem law_rng (k : Nat) (h : k ≤ 8) : rngP [.int (k : Int)] = some ((List.range k).map fun (i : Nat) => .int ((i : Nat) : Int)) := by
  unfold rngP
  simp only []
  rw [if_pos ⟨by omega, by omega⟩, Int.toNat_natCast]
theorem law_max (x : Int) : bMax2 [.int 1, .int x] = some (.int (if x > 1 then x else 1)) := rfl
theorem law_min (x : Int) : bMin2 [.int 8, .int x] = some (.int (if x < 8 then x else 8)) := rfl
theorem for_at {fs : DQs} {tgt : Tgt} {body : SM} {ρ : Rho} {ds : List PyData} {r : Out} (e : fs ρ = .ok ds) (h : forL tgt body ρ ds = r) : mFor (liR fs) tgt body ρ = r := by
  unfold mFor liR
  rw [e]
  exact h
theorem bi_at {b : List PyData → Option PyData} {fs : DQs} {ρ : Rho} {ds : List PyData} {d : PyData} (h1 : fs ρ = .ok ds) (h2 : b ds = some d) : dBi b fs ρ = .ok d := by
  simp only [dBi, Res.bind, ofO, h1, h2]
theorem rng_at {fs : DQs} {ρ : Rho} {ds l : List PyData} (h1 : fs ρ = .ok ds) (h2 : rngP ds = some l) : dRng fs ρ = .ok l := by
  simp only [dRng, Res.bind, ofO, h1, h2]
theorem law_e (X : PyData) (ts : Rho) (n k : Nat) (L : bLen [X] = some (.int n)) (hk : (if (if (n : Int) < 8 then (n : Int) else 8) > 1 then (if (n : Int) < 8 then (n : Int) else 8) else 1) = (k : Int)) (k8 : k ≤ 8) : (dRng (dCons (dBi bMax2 (dCons (dC (.int 1)) (dCons (dBi bMin2 (dCons (dC (.int 8)) (dCons (dBi bLen (dCons (dVar 0) dNil)) dNil))) dNil))) dNil)) (Itm.dat X :: ts) = .ok ((List.range k).map fun (i : Nat) => .int ((i : Nat) : Int)) := by
  refine rng_at (cons_at (bi_at (cons_at c_at (cons_at (bi_at (cons_at c_at (cons_at (bi_at (cons_at rfl nil_at) L) nil_at)) (law_min _)) nil_at)) (law_max _)) nil_at) ?_
  rw [hk]
  exact law_rng k k8
theorem law_set (X d : PyData) (t1 t4 t5 t6 : Itm) : setR [Itm.dat X, t1, .un, .un, t4, t5, t6, .un, .un, .un] [(1, d)] = [Itm.dat X, .dat d, .un, .un, t4, t5, t6, .un, .un, .un] := rfl
theorem law_step (ns : List Int) (hl : ns.length ≤ 63) (k : Nat) (k8 : k ≤ 8) (ρ : Rho) (d : PyData) (hd : d ∈ (List.range k).map fun (i : Nat) => PyData.int ((i : Nat) : Int)) (h : ∃ t1 t4 t5 t6, ρ = [Itm.dat (.list (ns.map .int)), t1, .un, .un, t4, t5, t6, .un, .un, .un]) : ∃ ρ', cellB (setR ρ [(1, d)]) = .nx ρ' ∧ ∃ t1 t4 t5 t6, ρ' = [Itm.dat (.list (ns.map .int)), t1, .un, .un, t4, t5, t6, .un, .un, .un] := by
  obtain ⟨t1, t4, t5, t6, rfl⟩ := h
  obtain ⟨j, hj, rfl⟩ := List.mem_map.mp hd
  obtain ⟨u4, u5, u6, q⟩ := cell_ok hl (k := j) (by have := List.mem_range.mp hj; omega) t4 t5 t6
  rw [law_set]
  exact ⟨_, q, _, u4, u5, u6, rfl⟩
theorem law_h0 (ns : List Int) (hl : ns.length ≤ 63) : ∃ t1 t4 t5 t6, mFor (liR (dRng (dCons (dBi bMax2 (dCons (dC (.int 1)) (dCons (dBi bMin2 (dCons (dC (.int 8)) (dCons (dBi bLen (dCons (dVar 0) dNil)) dNil))) dNil))) dNil))) (gtN 1) cellB [Itm.dat (.list (ns.map .int)), .un, .un, .un, .un, .un, .un, .un, .un, .un] = .nx [Itm.dat (.list (ns.map .int)), t1, .un, .un, t4, t5, t6, .un, .un, .un] := by
  obtain ⟨k, hk, k8⟩ := min_max ns.length
  have L : bLen [.list (ns.map .int)] = some (.int ns.length) := by rw [p_lenl, List.length_map]
  obtain ⟨ρ', f1, t1, t4, t5, t6, e⟩ := forL_mem (i := 1) (body := cellB) (R := fun ρ => ∃ t1 t4 t5 t6, ρ = [Itm.dat (.list (ns.map .int)), t1, .un, .un, t4, t5, t6, .un, .un, .un]) ((List.range k).map fun (i : Nat) => .int ((i : Nat) : Int)) (law_step ns hl k k8) [Itm.dat (.list (ns.map .int)), .un, .un, .un, .un, .un, .un, .un, .un, .un] ⟨.un, .un, .un, .un, rfl⟩
  subst e
  exact ⟨t1, t4, t5, t6, for_at (law_e _ _ _ k L hk k8) f1⟩
theorem law_a {X : PyData} {t1 t4 t5 t6 : Itm} (k : SM) : ∃ t3, (mSeq (mSet 2 (liR (dTup (dCons (dC (.str "a")) (dCons (dC (.str "eightsgn")) dNil))))) (mSeq (mIf (liR (dB (dOp oNe (dCall M_parse_word (dCons (dVar 2) (dCons (dM1 mJoin (dC (.str " ")) (dRep (dCons (dC (.str "eightsgn")) dNil) (dC (.int 200)))) dNil))) (dOp oMul (dTup (dCons (dC (.str "eightsgn")) dNil)) (dC (.int 200))))))
  (mSeq (mRet (liR (dC (.bool false))))
  mNil)
  mNil) (mSeq (mIf (liO (sB (sOp oNotN (sTry isPE (dCall M_parse_word (dCons (dVar 2) (dCons (dM1 mJoin (dC (.str " ")) (dRep (dCons (dC (.str "a")) dNil) (dC (.int 201)))) dNil)))) (lS (dC .none)))))
  (mSeq (mRet (liR (dC (.bool false))))
  mNil)
  mNil) (mSeq (mSet 3 (liR (dLst (dCons (dOp oAdd (dC (.str "1")) (dOp oMul (dC (.str "0")) (dC (.int 40)))) (dCons (dOp oAdd (dC (.str "-1")) (dOp oMul (dC (.str "0")) (dC (.int 40)))) (dCons (dOp oMul (dC (.str "9")) (dC (.int 5000))) (dCons (dOp oAdd (dC (.str "-")) (dOp oMul (dC (.str "1")) (dC (.int 5000)))) (dCons (dOp oAdd (dC (.str "1 ")) (dOp oMul (dC (.str "7")) (dC (.int 6000)))) dNil)))))))) (mSeq (mIf (liO (sB (sOp oNe (sLc (lSs (dItems (dVar 3))) (gtN 9) (sB (sOp oNotN (sTry isPE (dCall M_parse_vector (dCons (dVar 9) dNil))) (lS (dC .none)))) (lS (dVar 9)) [9]) (lS (dLst dNil)))))
  (mSeq (mRet (liR (dC (.bool false))))
  mNil)
  mNil) (mSeq (mSet 3 (liR (dLst (dCons (dOp oAdd (dC (.str "1")) (dOp oMul (dC (.str "0")) (dC (.int 40)))) (dCons (dOp oMul (dC (.str "9")) (dC (.int 5000))) (dCons (dOp oAdd (dOp oMul (dC (.str "9")) (dC (.int 5000))) (dC (.str "/2"))) (dCons (dOp oAdd (dC (.str "1/")) (dOp oMul (dC (.str "3")) (dC (.int 5000)))) (dCons (dOp oAdd (dC (.str "1/1")) (dOp oMul (dC (.str "0")) (dC (.int 40)))) dNil)))))))) (mSeq (mIf (liO (sB (sOp oNe (sLc (lSs (dItems (dVar 3))) (gtN 9) (sB (sOp oNotN (sTry isPE (dCall M_parse_fraction (dCons (dVar 9) dNil))) (lS (dC .none)))) (lS (dVar 9)) [9]) (lS (dLst dNil)))))
  (mSeq (mRet (liR (dC (.bool false))))
  mNil)
  mNil) k))))))) [Itm.dat X, t1, .un, .un, t4, t5, t6, .un, .un, .un] = k [Itm.dat X, t1, .dat (.tuple [.str "a", .str "eightsgn"]), t3, t4, t5, t6, .un, .un, .un] :=
  ⟨_, (seq_nx s1).trans ((seq_nx s2).trans ((seq_nx s3).trans ((seq_nx s4).trans ((seq_nx s5).trans ((seq_nx s6).trans (seq_nx s7))))))⟩
theorem law_b {X : PyData} {t1 t3 t4 t5 t6 : Itm} : (mSeq (mAsg (gtSeq 2 (gtCons (gtN 7) (gtCons (gtN 8) gtNil))) (liR (dTup (dCons (dOp oMul (dC (.str "9")) (dC (.int 40))) (dCons (dOp oSub (dOp oPow (dC (.int 10)) (dC (.int 40))) (dC (.int 1))) dNil))))) (mSeq (mIf (liR (dB (dOp oNe (dLst (dCons (dCall M_parse_vector (dCons (dOp oAdd (dC (.str "1 -")) (dVar 7)) dNil)) (dCons (dCall M_parse_fraction (dCons (dOp oAdd (dVar 7) (dC (.str "/2"))) dNil)) dNil))) (dLst (dCons (dTup (dCons (dC (.int 1)) (dCons (dOp oSub (dC (.int 0)) (dVar 8)) dNil))) (dCons (dTup (dCons (dVar 8) (dCons (dC (.int 2)) dNil))) dNil))))))
  (mSeq (mRet (liR (dC (.bool false))))
  mNil)
  mNil) (mSeq (mIf (liR (dB (dOp oNe (dLst (dCons (dCall M_format_vector (dCons (dTup (dCons (dVar 8) (dCons (dC (.int 0)) dNil))) dNil)) (dCons (dCall M_format_fraction (dCons (dTup (dCons (dC (.int 1)) (dCons (dVar 8) dNil))) dNil)) dNil))) (dLst (dCons (dOp oAdd (dVar 7) (dC (.str " 0"))) (dCons (dOp oAdd (dC (.str "1/")) (dVar 7)) dNil))))))
  (mSeq (mRet (liR (dC (.bool false))))
  mNil)
  mNil) (mSeq (mIf (liO (sB (sOp oNotN (sTry isPE (dCall M_parse_vector (dCons (dOp oAdd (dC (.str "0")) (dVar 7)) dNil))) (lS (dC .none)))))
  (mSeq (mRet (liR (dC (.bool false))))
  mNil)
  mNil) (mSeq (mIf (liO (sB (sOp oNotN (sTry isPE (dCall M_parse_fraction (dCons (dOp oAdd (dOp oAdd (dVar 7) (dC (.str "/"))) (dVar 7)) dNil))) (lS (dC .none)))))
  (mSeq (mRet (liR (dC (.bool false))))
  mNil)
  mNil) (mSeq (mRet (liR (dAndV (dOp oEq (dCall M_format_fraction (dCons (dTup (dCons (dNeg (dC (.int 3))) (dCons (dC (.int 2)) dNil))) dNil)) (dC (.str "-3/2"))) (dAndV (dOp oEq (dCall M_parse_fraction (dCons (dC (.str "0")) dNil)) (dTup (dCons (dC (.int 0)) (dCons (dC (.int 1)) dNil)))) (dOp oEq (dCall M_parse_vector (dCons (dC (.str "1 -2")) dNil)) (dTup (dCons (dC (.int 1)) (dCons (dNeg (dC (.int 2))) dNil)))))))) mNil)))))) [Itm.dat X, t1, .dat (.tuple [.str "a", .str "eightsgn"]), t3, t4, t5, t6, .un, .un, .un] = .ret (.bool true) [Itm.dat X, t1, .dat (.tuple [.str "a", .str "eightsgn"]), t3, t4, t5, t6, .dat (.str d40), .dat (.int gg), .un] :=
  (seq_nx s8).trans ((seq_nx s9).trans ((seq_nx s10).trans ((seq_nx s11).trans ((seq_nx s12).trans (seq_ret s13)))))
theorem law_is : ∀ ns : List Int, ns.length ≤ 63 → (∀ z ∈ ns, Builtin.Int.intBits z ≤ 1048576) → M_law [.list (ns.map .int)] = .ok (.bool true) := by
  intro ns hl _
  obtain ⟨t1, t4, t5, t6, h0⟩ := law_h0 ns hl
  obtain ⟨t3, ha⟩ := law_a (X := .list (ns.map .int)) (t1 := t1) (t4 := t4) (t5 := t5) (t6 := t6) (mSeq (mAsg (gtSeq 2 (gtCons (gtN 7) (gtCons (gtN 8) gtNil))) (liR (dTup (dCons (dOp oMul (dC (.str "9")) (dC (.int 40))) (dCons (dOp oSub (dOp oPow (dC (.int 10)) (dC (.int 40))) (dC (.int 1))) dNil))))) (mSeq (mIf (liR (dB (dOp oNe (dLst (dCons (dCall M_parse_vector (dCons (dOp oAdd (dC (.str "1 -")) (dVar 7)) dNil)) (dCons (dCall M_parse_fraction (dCons (dOp oAdd (dVar 7) (dC (.str "/2"))) dNil)) dNil))) (dLst (dCons (dTup (dCons (dC (.int 1)) (dCons (dOp oSub (dC (.int 0)) (dVar 8)) dNil))) (dCons (dTup (dCons (dVar 8) (dCons (dC (.int 2)) dNil))) dNil))))))
  (mSeq (mRet (liR (dC (.bool false))))
  mNil)
  mNil) (mSeq (mIf (liR (dB (dOp oNe (dLst (dCons (dCall M_format_vector (dCons (dTup (dCons (dVar 8) (dCons (dC (.int 0)) dNil))) dNil)) (dCons (dCall M_format_fraction (dCons (dTup (dCons (dC (.int 1)) (dCons (dVar 8) dNil))) dNil)) dNil))) (dLst (dCons (dOp oAdd (dVar 7) (dC (.str " 0"))) (dCons (dOp oAdd (dC (.str "1/")) (dVar 7)) dNil))))))
  (mSeq (mRet (liR (dC (.bool false))))
  mNil)
  mNil) (mSeq (mIf (liO (sB (sOp oNotN (sTry isPE (dCall M_parse_vector (dCons (dOp oAdd (dC (.str "0")) (dVar 7)) dNil))) (lS (dC .none)))))
  (mSeq (mRet (liR (dC (.bool false))))
  mNil)
  mNil) (mSeq (mIf (liO (sB (sOp oNotN (sTry isPE (dCall M_parse_fraction (dCons (dOp oAdd (dOp oAdd (dVar 7) (dC (.str "/"))) (dVar 7)) dNil))) (lS (dC .none)))))
  (mSeq (mRet (liR (dC (.bool false))))
  mNil)
  mNil) (mSeq (mRet (liR (dAndV (dOp oEq (dCall M_format_fraction (dCons (dTup (dCons (dNeg (dC (.int 3))) (dCons (dC (.int 2)) dNil))) dNil)) (dC (.str "-3/2"))) (dAndV (dOp oEq (dCall M_parse_fraction (dCons (dC (.str "0")) dNil)) (dTup (dCons (dC (.int 0)) (dCons (dC (.int 1)) dNil)))) (dOp oEq (dCall M_parse_vector (dCons (dC (.str "1 -2")) dNil)) (dTup (dCons (dC (.int 1)) (dCons (dNeg (dC (.int 2))) dNil)))))))) mNil))))))
  have hs : startR N_law [.list (ns.map .int)] = [Itm.dat (.list (ns.map .int)), .un, .un, .un, .un, .un, .un, .un, .un, .un] := rfl
  have hm : m_law (startR N_law [.list (ns.map .int)]) = .ret (.bool true) [Itm.dat (.list (ns.map .int)), t1, .dat (.tuple [.str "a", .str "eightsgn"]), t3, t4, t5, t6, .dat (.str d40), .dat (.int gg), .un] := by
    rw [hs]
    exact (seq_nx h0).trans (ha.trans law_b)
  unfold M_law mir
  rw [if_pos (List.length_singleton ..), hm]
  rfl
end K77
end

open PySem PySem.W PyProof.Rows in
set_option maxRecDepth 100000 in
set_option maxHeartbeats 0 in
theorem PySem.Challenge.cw_leastnet_k77_words_vectors_fractions_as_holds : PySem.Challenge.rw_leastnet_k77_words_vectors_fractions_as.Holds := by
  w_on; o_law; k_head; (case hw => w_witness2)
  k_fill
  refine D.walk_end (l := PySem.Challenge.rw_leastnet_k77_words_vectors_fractions_as) (n := 63) (k := 13) (x := "script") ["_law_right", "law"] rfl (by decide) rfl ⟨rfl, by decide, by decide⟩ (by decide +kernel) (fun w h Y => Y.1) ?F
  case F =>
    intro w mg fa h KX G hmg tabs
    refine' K77.all_mk (l := PySem.Challenge.rw_leastnet_k77_words_vectors_fractions_as) KX G hmg tabs ?d_is_integer ?d_is_action ?d_is_alphabet ?d_is_word_of ?d_is_vector_of ?d_require_alphabet ?d_require_word ?d_is_vector ?d_common_in ?d_is_fraction ?d_require_fraction ?d_number_in ?d_require_text ?d_numbers_text ?d_word_text ?d_word_in ?d_format_word ?d_parse_word ?d_format_vector ?d_parse_vector ?d_fraction_text ?d_format_fraction ?d_parse_fraction ?d__law_stream ?d__law_draw ?d__law_pick ?d__law_mixed ?d__law_alphabet ?d__law_word ?d__law_is_word ?d__law_common ?d__law_spoilt ?d__law_number ?d__law_numbers ?d__law_no_text ?d__law_integer ?d__law_lowest ?d__law_word_due ?d__law_vector_due ?d__law_fraction_due ?d__law_told ?d__law_right ?d_law ?z_abs ?z_all ?z_bool ?z_int ?z_isinstance ?z_len ?z_list ?z_max ?z_min ?z_range ?z_repr ?z_sorted ?z_str ?z_tuple ?z_zip ?k_DIGITS ?k_LETTERS ?k_MAX_ACTIONS ?k_MAX_DIGITS ?k_MAX_LETTERS ?k_MAX_WORD ?k_NOTHING ?x_InvalidAlphabet ?x_InvalidFraction ?x_InvalidVector ?x_InvalidWord ?x_ParseError ?ne_0_1 ?law_is
    (case d_is_integer => refine' K77.defIn ?a ?l ?c ?k; (case a => k_is); (case l => k_is); (case c => k_is); (case k => k_is))
    (case d_is_action => refine' K77.defIn ?a ?l ?c ?k; (case a => k_is); (case l => k_is); (case c => k_is); (case k => k_is))
    (case d_is_alphabet => refine' K77.defIn ?a ?l ?c ?k; (case a => k_is); (case l => k_is); (case c => k_is); (case k => k_is))
    (case d_is_word_of => refine' K77.defIn ?a ?l ?c ?k; (case a => k_is); (case l => k_is); (case c => k_is); (case k => k_is))
    (case d_is_vector_of => refine' K77.defIn ?a ?l ?c ?k; (case a => k_is); (case l => k_is); (case c => k_is); (case k => k_is))
    (case d_require_alphabet => refine' K77.defIn ?a ?l ?c ?k; (case a => k_is); (case l => k_is); (case c => k_is); (case k => k_is))
    (case d_require_word => refine' K77.defIn ?a ?l ?c ?k; (case a => k_is); (case l => k_is); (case c => k_is); (case k => k_is))
    (case d_is_vector => refine' K77.defIn ?a ?l ?c ?k; (case a => k_is); (case l => k_is); (case c => k_is); (case k => k_is))
    (case d_common_in => refine' K77.defIn ?a ?l ?c ?k; (case a => k_is); (case l => k_is); (case c => k_is); (case k => k_is))
    (case d_is_fraction => refine' K77.defIn ?a ?l ?c ?k; (case a => k_is); (case l => k_is); (case c => k_is); (case k => k_is))
    (case d_require_fraction => refine' K77.defIn ?a ?l ?c ?k; (case a => k_is); (case l => k_is); (case c => k_is); (case k => k_is))
    (case d_number_in => refine' K77.defIn ?a ?l ?c ?k; (case a => k_is); (case l => k_is); (case c => k_is); (case k => k_is))
    (case d_require_text => refine' K77.defIn ?a ?l ?c ?k; (case a => k_is); (case l => k_is); (case c => k_is); (case k => k_is))
    (case d_numbers_text => refine' K77.defIn ?a ?l ?c ?k; (case a => k_is); (case l => k_is); (case c => k_is); (case k => k_is))
    (case d_word_text => refine' K77.defIn ?a ?l ?c ?k; (case a => k_is); (case l => k_is); (case c => k_is); (case k => k_is))
    (case d_word_in => refine' K77.defIn ?a ?l ?c ?k; (case a => k_is); (case l => k_is); (case c => k_is); (case k => k_is))
    (case d_format_word => refine' K77.defIn ?a ?l ?c ?k; (case a => k_is); (case l => k_is); (case c => k_is); (case k => k_is))
    (case d_parse_word => refine' K77.defIn ?a ?l ?c ?k; (case a => k_is); (case l => k_is); (case c => k_is); (case k => k_is))
    (case d_format_vector => refine' K77.defIn ?a ?l ?c ?k; (case a => k_is); (case l => k_is); (case c => k_is); (case k => k_is))
    (case d_parse_vector => refine' K77.defIn ?a ?l ?c ?k; (case a => k_is); (case l => k_is); (case c => k_is); (case k => k_is))
    (case d_fraction_text => refine' K77.defIn ?a ?l ?c ?k; (case a => k_is); (case l => k_is); (case c => k_is); (case k => k_is))
    (case d_format_fraction => refine' K77.defIn ?a ?l ?c ?k; (case a => k_is); (case l => k_is); (case c => k_is); (case k => k_is))
    (case d_parse_fraction => refine' K77.defIn ?a ?l ?c ?k; (case a => k_is); (case l => k_is); (case c => k_is); (case k => k_is))
    (case d__law_stream => refine' K77.defIn ?a ?l ?c ?k; (case a => k_is); (case l => k_is); (case c => k_is); (case k => k_is))
    (case d__law_draw => refine' K77.defIn ?a ?l ?c ?k; (case a => k_is); (case l => k_is); (case c => k_is); (case k => k_is))
    (case d__law_pick => refine' K77.defIn ?a ?l ?c ?k; (case a => k_is); (case l => k_is); (case c => k_is); (case k => k_is))
    (case d__law_mixed => refine' K77.defIn ?a ?l ?c ?k; (case a => k_is); (case l => k_is); (case c => k_is); (case k => k_is))
    (case d__law_alphabet => refine' K77.defIn ?a ?l ?c ?k; (case a => k_is); (case l => k_is); (case c => k_is); (case k => k_is))
    (case d__law_word => refine' K77.defIn ?a ?l ?c ?k; (case a => k_is); (case l => k_is); (case c => k_is); (case k => k_is))
    (case d__law_is_word => refine' K77.defIn ?a ?l ?c ?k; (case a => k_is); (case l => k_is); (case c => k_is); (case k => k_is))
    (case d__law_common => refine' K77.defIn ?a ?l ?c ?k; (case a => k_is); (case l => k_is); (case c => k_is); (case k => k_is))
    (case d__law_spoilt => refine' K77.defIn ?a ?l ?c ?k; (case a => k_is); (case l => k_is); (case c => k_is); (case k => k_is))
    (case d__law_number => refine' K77.defIn ?a ?l ?c ?k; (case a => k_is); (case l => k_is); (case c => k_is); (case k => k_is))
    (case d__law_numbers => refine' K77.defIn ?a ?l ?c ?k; (case a => k_is); (case l => k_is); (case c => k_is); (case k => k_is))
    (case d__law_no_text => refine' K77.defIn ?a ?l ?c ?k; (case a => k_is); (case l => k_is); (case c => k_is); (case k => k_is))
    (case d__law_integer => refine' K77.defIn ?a ?l ?c ?k; (case a => k_is); (case l => k_is); (case c => k_is); (case k => k_is))
    (case d__law_lowest => refine' K77.defIn ?a ?l ?c ?k; (case a => k_is); (case l => k_is); (case c => k_is); (case k => k_is))
    (case d__law_word_due => refine' K77.defIn ?a ?l ?c ?k; (case a => k_is); (case l => k_is); (case c => k_is); (case k => k_is))
    (case d__law_vector_due => refine' K77.defIn ?a ?l ?c ?k; (case a => k_is); (case l => k_is); (case c => k_is); (case k => k_is))
    (case d__law_fraction_due => refine' K77.defIn ?a ?l ?c ?k; (case a => k_is); (case l => k_is); (case c => k_is); (case k => k_is))
    (case d__law_told => refine' K77.defIn ?a ?l ?c ?k; (case a => k_is); (case l => k_is); (case c => k_is); (case k => k_is))
    (case d__law_right => refine' K77.defInC ?a ?l ?c ?k ?o ?v ?n; (case a => k_is); (case l => k_is); (case c => k_is); (case k => k_is); (case o => k_is); (case v => first | rfl | k_is); (case n => first | rfl | (with_unfolding_all rfl) | kernel_rfl | k_is))
    (case d_law => refine' K77.defInC ?a ?l ?c ?k ?o ?v ?n; (case a => k_is); (case l => k_is); (case c => k_is); (case k => k_is); (case o => k_is); (case v => first | rfl | k_is); (case n => first | rfl | (with_unfolding_all rfl) | kernel_rfl | k_is))
    (case z_abs => k_is)
    (case z_all => k_is)
    (case z_bool => k_is)
    (case z_int => k_is)
    (case z_isinstance => k_is)
    (case z_len => k_is)
    (case z_list => k_is)
    (case z_max => k_is)
    (case z_min => k_is)
    (case z_range => k_is)
    (case z_repr => k_is)
    (case z_sorted => k_is)
    (case z_str => k_is)
    (case z_tuple => k_is)
    (case z_zip => k_is)
    (case k_DIGITS => refine' K77.conS ?a; (case a => k_is))
    (case k_LETTERS => refine' K77.conS ?a; (case a => k_is))
    (case k_MAX_ACTIONS => refine' K77.conI ?a; (case a => k_is))
    (case k_MAX_DIGITS => refine' K77.conI ?a; (case a => k_is))
    (case k_MAX_LETTERS => refine' K77.conI ?a; (case a => k_is))
    (case k_MAX_WORD => refine' K77.conI ?a; (case a => k_is))
    (case k_NOTHING => refine' K77.conS ?a; (case a => k_is))
    (case x_InvalidAlphabet => refine' K77.excIn_mk ?a ?b ?c ?d ?e ?f ?g; (case a => k_is); (case b => k_exc); (case c => k_is); (case d => k_is); (case e => k_is); (case f => k_is); (case g => first | rfl | k_is))
    (case x_InvalidFraction => refine' K77.excIn_mk ?a ?b ?c ?d ?e ?f ?g; (case a => k_is); (case b => k_exc); (case c => k_is); (case d => k_is); (case e => k_is); (case f => k_is); (case g => first | rfl | k_is))
    (case x_InvalidVector => refine' K77.excIn_mk ?a ?b ?c ?d ?e ?f ?g; (case a => k_is); (case b => k_exc); (case c => k_is); (case d => k_is); (case e => k_is); (case f => k_is); (case g => first | rfl | k_is))
    (case x_InvalidWord => refine' K77.excIn_mk ?a ?b ?c ?d ?e ?f ?g; (case a => k_is); (case b => k_exc); (case c => k_is); (case d => k_is); (case e => k_is); (case f => k_is); (case g => first | rfl | k_is))
    (case x_ParseError => refine' K77.excIn_mk ?a ?b ?c ?d ?e ?f ?g; (case a => k_is); (case b => k_exc); (case c => k_is); (case d => k_is); (case e => k_is); (case f => k_is); (case g => first | rfl | k_is))
    (case ne_0_1 => decide)
    (case law_is => exact K77.law_is)
