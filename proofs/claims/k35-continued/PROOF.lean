import PyProof.Rows.All
import Wide.All
import OpenK.AllK
import Wide.FinOn
import HandS.ForMost
import HandS.Conv
import HandS.TupMul
import HandS.Deep
import HandS.SortKw
import HandS.Zip
import HandS.Wide
import HandS.Style
import HandS.NoneIn
import HandS.Defaults
import HandS.More
import HandS.TupAny
import HandS.WideBits
import KE.KExcSuper
import HandS.ExcInit
import HandS.ExcField
import HandS.Lambda
import HandS.HeadHook4
import HandS.HeadWalk
import HandS.HeadEnd
import HandS.Head0
import HandS.Head1
import HandS.Head2
import HandS.Words
import HandS.NestedK
import KE.KStateDown
import HandS.HeadHook1
import HandS.HeadHook2
import PySem.Challenge.RW_allgrids_k35_fractions_continued
set_option Elab.async false
set_option linter.all false
set_option maxRecDepth 100000
set_option maxHeartbeats 4000000
/-! The value layer: readings over plain data, no heap. Part A: the relation. -/
namespace VL
open PySem PySem.Spec PyProof.Rows L2
open Classical

abbrev D := PyData

/-! ### data and values -/
mutual
/-- the value v stands for the data d; lists are tracked ones -/
inductive Rp (K : PySem.W.Frag) (H : Hp) : V → D → Prop
  | non : Rp K H .non .none
  | bl (b : Bool) : Rp K H (.bl b) (.bool b)
  | int (i : Int) : Rp K H (.int i) (.int i)
  | str (x : Str) : Rp K H (.str x) (.str x)
  | lst {a : Addr} {xs : List V} {ds : List D} : H a = some (.lst xs) → Rps K H xs ds → Rp K H (.ref a) (.list ds)
  | tup {a : Addr} {xs : List V} {ds : List D} : SqT K H a xs → Rps K H xs ds → Rp K H (.ref a) (.tuple ds)
inductive Rps (K : PySem.W.Frag) (H : Hp) : List V → List D → Prop
  | nil : Rps K H [] []
  | cons {v : V} {vs : List V} {d : D} {ds : List D} : Rp K H v d → Rps K H vs ds → Rps K H (v :: vs) (d :: ds)
end

theorem same_seqT {K : PySem.W.Frag} {H H' : Hp} {a : Addr} {xs : List V} (e : Same H H') (h : SqT K H a xs) : SqT K H' a xs := by
  rcases h with (h | ⟨o, h⟩) | h
  · exact .inl (.inl (e _ _ h))
  · exact .inl (.inr ⟨o, e _ _ h⟩)
  · exact .inr h
mutual
theorem Rp.mono {K : PySem.W.Frag} {H H' : Hp} (e : Same H H') : ∀ {v : V} {d : D}, Rp K H v d → Rp K H' v d
  | _, _, .non => .non
  | _, _, .bl b => .bl b
  | _, _, .int i => .int i
  | _, _, .str x => .str x
  | _, _, .lst h a => .lst (e _ _ h) (Rps.mono e a)
  | _, _, .tup h a => .tup (same_seqT e h) (Rps.mono e a)
theorem Rps.mono {K : PySem.W.Frag} {H H' : Hp} (e : Same H H') : ∀ {vs : List V} {ds : List D}, Rps K H vs ds → Rps K H' vs ds
  | _, _, .nil => .nil
  | _, _, .cons h t => .cons (Rp.mono e h) (Rps.mono e t)
end
mutual
theorem Rp.dp {K : PySem.W.Frag} {H : Hp} : ∀ {v : V} {d : D}, Rp K H v d → Dp K H v d
  | _, _, .non => .non
  | _, _, .bl b => .bl b
  | _, _, .int i => .int i
  | _, _, .str x => .str x
  | _, _, .lst h a => .lst (SqL.of h) (Rps.dp a)
  | _, _, .tup h a => .tup h (Rps.dp a)
theorem Rps.dp {K : PySem.W.Frag} {H : Hp} : ∀ {vs : List V} {ds : List D}, Rps K H vs ds → DpAll K H vs ds
  | _, _, .nil => .nil
  | _, _, .cons h t => .cons (Rp.dp h) (Rps.dp t)
end
section
variable {K : PySem.W.Frag} {H : Hp} {vs ws : List V} {ds es : List D} {v : V} {d : D}
theorem Rps.len (h : Rps K H vs ds) : vs.length = ds.length := by
  induction ds generalizing vs with
  | nil => cases h; rfl
  | cons d ds ih =>
    cases h with
    | cons h1 h2 => simp [ih h2]
theorem Rps.get {i : Nat} (h : Rps K H vs ds) (e : ds[i]? = some d) : ∃ v, vs[i]? = some v ∧ Rp K H v d := by
  induction ds generalizing vs i with
  | nil => simp at e
  | cons c ds ih =>
    cases h with
    | cons h1 h2 =>
      cases i with
      | zero => simp at e; subst e; exact ⟨_, rfl, h1⟩
      | succ i => simp at e; simpa using ih h2 e
theorem Rps.app (h : Rps K H vs ds) (k : Rps K H ws es) : Rps K H (vs ++ ws) (ds ++ es) := by
  induction ds generalizing vs with
  | nil => cases h; exact k
  | cons c ds ih =>
    cases h with
    | cons h1 h2 => exact .cons h1 (ih h2)
theorem Rps.one (h : Rp K H v d) : Rps K H [v] [d] := .cons h .nil
theorem Rps.take (h : Rps K H vs ds) (n : Nat) : Rps K H (vs.take n) (ds.take n) := by
  induction ds generalizing vs n with
  | nil => cases h; simp; exact .nil
  | cons c ds ih =>
    cases h with
    | cons h1 h2 =>
      cases n with
      | zero => exact .nil
      | succ n => exact .cons h1 (ih h2 n)
theorem Rps.drop (h : Rps K H vs ds) (n : Nat) : Rps K H (vs.drop n) (ds.drop n) := by
  induction ds generalizing vs n with
  | nil => cases h; simp; exact .nil
  | cons c ds ih =>
    cases h with
    | cons h1 h2 =>
      cases n with
      | zero => exact .cons h1 h2
      | succ n => exact ih h2 n
theorem Rps.set (h : Rps K H vs ds) (i : Nat) (k : Rp K H v d) : Rps K H (vs.set i v) (ds.set i d) := by
  induction ds generalizing vs i with
  | nil => cases h; exact .nil
  | cons c ds ih =>
    cases h with
    | cons h1 h2 =>
      cases i with
      | zero => exact .cons k h2
      | succ i => exact .cons h1 (ih h2 i)
theorem Rps.rev (h : Rps K H vs ds) : Rps K H vs.reverse ds.reverse := by
  induction ds generalizing vs with
  | nil => cases h; exact .nil
  | cons c ds ih =>
    cases h with
    | cons h1 h2 => rw [List.reverse_cons, List.reverse_cons]; exact (ih h2).app (.one h1)
theorem Rps.dropLast (h : Rps K H vs ds) : Rps K H vs.dropLast ds.dropLast := by
  rw [List.dropLast_eq_take, List.dropLast_eq_take, h.len]; exact h.take _
theorem Rps.ints {ns : List Int} (h : Rps K H vs (ns.map .int)) : vs = ns.map V.int := by
  induction ns generalizing vs with
  | nil => cases h; rfl
  | cons n ns ih =>
    cases h with
    | cons h1 h2 => cases h1; rw [ih h2]; rfl
theorem Rps.bools {ns : List Bool} (h : Rps K H vs (ns.map .bool)) : vs = ns.map V.bl := by
  induction ns generalizing vs with
  | nil => cases h; rfl
  | cons n ns ih =>
    cases h with
    | cons h1 h2 => cases h1; rw [ih h2]; rfl
theorem Rps.flatten (h : Rps K H vs ds) (n : Nat) : Rps K H (List.replicate n vs).flatten (List.replicate n ds).flatten := by
  induction n with
  | zero => exact .nil
  | succ n ih => rw [List.replicate_succ, List.replicate_succ, List.flatten_cons, List.flatten_cons]; exact h.app ih
theorem Rps.nil_iff (h : Rps K H vs ds) : vs = [] ↔ ds = [] := by cases h <;> simp
theorem Rps.empty (h : Rps K H vs ds) : vs.isEmpty = ds.isEmpty := by cases h <;> rfl
end

/-! ### hiding -/
/-- the heap without the addresses in O -/
noncomputable def hid (O : Addr → Prop) (H : Hp) : Hp := fun b => if O b then none else H b
/-- the heap without a -/
def rem (H : Hp) (a : Addr) : Hp := fun b => if b = a then none else H b
section
variable {O O' : Addr → Prop} {H H' H2 : Hp} {a b : Addr} {o : HO}
theorem hid_out (h : ¬ O b) : hid O H b = H b := if_neg h
theorem hid_in (h : O b) : hid O H b = none := if_pos h
theorem hid_some : hid O H b = some o ↔ ¬ O b ∧ H b = some o := by
  unfold hid; split <;> simp_all
theorem rem_at : rem H a a = none := if_pos rfl
theorem rem_ne (h : b ≠ a) : rem H a b = H b := if_neg h
theorem rem_some : rem H a b = some o ↔ b ≠ a ∧ H b = some o := by
  unfold rem; split <;> simp_all
theorem rem_upd (h : H a = none) : rem (upd H a o) a = H := by
  funext b; unfold rem; split
  · next e => rw [e, h]
  · next e => exact upd_ne e
theorem rem_upd2 : rem (upd H a o) a = rem H a := by
  funext b; unfold rem; split
  · rfl
  · next e => exact upd_ne e
theorem same_upd (h : H a = none) : Same H (upd H a o) := fun b u e => by
  rw [upd_ne (ne_of_none e h)]; exact e
theorem same_rem : Same (rem H a) H := fun b u e => (rem_some.mp e).2
theorem same_remr (h : Same H H') : Same (rem H a) (rem H' a) := fun b u e =>
  let ⟨h1, h2⟩ := rem_some.mp e; rem_some.mpr ⟨h1, h _ _ h2⟩
theorem same_hid (h : Same H H') : Same (hid O H) (hid O H') := fun b u e =>
  let ⟨h1, h2⟩ := hid_some.mp e; hid_some.mpr ⟨h1, h _ _ h2⟩
theorem same_hid_of : Same (hid O H) H := fun b u e => (hid_some.mp e).2
theorem same_hid_sub (h : ∀ b, O' b → O b) : Same (hid O H) (hid O' H) := fun b u e =>
  let ⟨h1, h2⟩ := hid_some.mp e; hid_some.mpr ⟨fun z => h1 (h b z), h2⟩
theorem hid_none : hid (fun _ => False) H = H := by funext b; exact if_neg id
theorem hid_hid : hid O (hid O' H) = hid (fun b => O b ∨ O' b) H := by
  funext b; unfold hid; by_cases h1 : O b <;> by_cases h2 : O' b <;> simp [h1, h2]
end

/-! ### slots -/
inductive SV where
  /-- not known -/
  | un
  /-- data that does not change -/
  | fr (d : D)
  /-- a list that this slot alone holds -/
  | ow (ds : List D)
  /-- the script -/
  | rw (ns : List Int)
abbrev Ev := List SV
def sv (ev : Ev) (i : Nat) : SV := ev.getD i .un

structure Fm where
  B : Addr → Prop
  β : Option Addr

def Own (M : Fm) (ρ : Nat → Option Addr) : Addr → Prop := fun b => M.B b ∨ ∃ i, ρ i = some b
noncomputable abbrev hd (M : Fm) (ρ : Nat → Option Addr) (H : Hp) : Hp := hid (Own M ρ) H
def put (ρ : Nat → Option Addr) (i : Nat) (o : Option Addr) : Nat → Option Addr := fun j => if j = i then o else ρ j

/-- what a slot says -/
def SlotOk (K : PySem.W.Frag) (M : Fm) (σ : L2.St) (H : Hp) (ρ : Nat → Option Addr) (i : Nat) : SV → Prop
  | .un => True
  | .fr d => ρ i = none ∧ ∃ v, σ[i]? = some (some v) ∧ Rp K (hd M ρ H) v d
  | .ow ds => ∃ a vs, ρ i = some a ∧ σ[i]? = some (some (.ref a)) ∧ H a = some (.lst vs) ∧ Rps K (hd M ρ H) vs ds
  | .rw ns => ρ i = none ∧ ∃ a, σ[i]? = some (some (.ref a)) ∧ SqL K (hd M ρ H) a (ns.map V.int)

structure Rl (K : PySem.W.Frag) (M : Fm) (F : Hp) (ev : Ev) (σ : L2.St) (H : Hp) (ρ : Nat → Option Addr) : Prop where
  len : ev.length = σ.length
  frz : Same F H
  ofr : ∀ i a, ρ i = some a → F a = none ∧ ¬ M.B a
  btr : ∀ b, M.B b → H b ≠ none
  inj : ∀ i j a, ρ i = some a → ρ j = some a → i = j
  ex : ∀ i a, ρ i = some a → ∃ ds, sv ev i = .ow ds
  bx : ∀ a, M.β = some a → ρ 0 = some a
  sl : ∀ i, SlotOk K M σ H ρ i (sv ev i)

section
variable {K : PySem.W.Frag} {M : Fm} {F F' : Hp} {ev ev' : Ev} {σ : L2.St} {H H' : Hp} {ρ ρ' : Nat → Option Addr} {i : Nat} {d : D} {v : V} {ds : List D} {a : Addr} {vs : List V} {s : SV}
theorem sv_set (h : i < ev.length) (j : Nat) : sv (ev.set i s) j = if j = i then s else sv ev j := by
  unfold sv
  by_cases e : j = i
  · subst e; simp [List.getD, h]
  · simp [List.getD, e, List.getElem?_set_ne (Ne.symm e)]
theorem sv_len (h : sv ev i ≠ .un) : i < ev.length := by
  unfold sv at h
  by_cases hi : i < ev.length
  · exact hi
  · exact absurd (by simp [List.getD, List.getElem?_eq_none (Nat.le_of_not_lt hi)]) h
theorem Rl.ow (R : Rl K M F ev σ H ρ) : ∀ i a, ρ i = some a → ∃ vs, H a = some (.lst vs) := fun i a h => by
  obtain ⟨ds, e⟩ := R.ex i a h
  have q := R.sl i
  rw [e] at q
  obtain ⟨b, vs, h1, _, h3, _⟩ := q
  rw [h] at h1; cases h1
  exact ⟨vs, h3⟩
theorem Rl.tr (R : Rl K M F ev σ H ρ) : ∀ b, Own M ρ b → H b ≠ none := fun b h => by
  rcases h with h | ⟨i, h⟩
  · exact R.btr b h
  · obtain ⟨vs, e⟩ := R.ow i b h
    rw [e]; exact fun z => nomatch z
theorem Rl.nown (R : Rl K M F ev σ H ρ) (h : H a = none) : ¬ Own M ρ a := fun z => R.tr a z h
theorem same_tr {b : Addr} (e : Same H H') (h : H b ≠ none) : H' b ≠ none := fun z => h (e.free z)
/-- the heap has grown -/
theorem Rl.same (R : Rl K M F ev σ H ρ) (e : Same H H') : Rl K M F ev σ H' ρ where
  len := R.len
  frz := R.frz.trans e
  ofr := R.ofr
  btr := fun b z => same_tr e (R.btr b z)
  inj := R.inj
  ex := R.ex
  bx := R.bx
  sl := fun i => by
    have h := R.sl i
    revert h
    cases sv ev i with
    | un => exact id
    | fr d => exact fun ⟨h0, v, h1, h2⟩ => ⟨h0, v, h1, h2.mono (same_hid e)⟩
    | ow ds => exact fun ⟨a, vs, h1, h2, h3, h4⟩ => ⟨a, vs, h1, h2, e _ _ h3, h4.mono (same_hid e)⟩
    | rw ns => exact fun ⟨h0, a, h1, h2⟩ => ⟨h0, a, h1, (same_hid e).seq h2⟩
theorem Rl.weak (R : Rl K M F' ev σ H ρ) (e : Same F F') : Rl K M F ev σ H ρ :=
  { R with
    frz := e.trans R.frz
    ofr := fun i a h => ⟨e.free (R.ofr i a h).1, (R.ofr i a h).2⟩ }
theorem own_put_none {b : Addr} (h : Own M (put ρ i none) b) : Own M ρ b := by
  rcases h with h | ⟨j, h⟩
  · exact .inl h
  · unfold put at h
    split at h
    · cases h
    · exact .inr ⟨j, h⟩
/-- a slot is given data -/
theorem Rl.setFr (R : Rl K M F ev σ H ρ) (hi : i < ev.length) (hb : M.β = none ∨ i ≠ 0) (h : Rp K (hd M ρ H) v d) : Rl K M F (ev.set i (.fr d)) (σ.set i (some v)) H (put ρ i none) := by
  have up : Same (hd M ρ H) (hd M (put ρ i none) H) := same_hid_sub fun b z => own_put_none z
  have pn : ∀ {j a}, put ρ i none j = some a → ρ j = some a := fun {j a} e => by
    unfold put at e; split at e
    · cases e
    · exact e
  have pi : ∀ {j a}, put ρ i none j = some a → j ≠ i := fun {j a} e z => by rw [z] at e; unfold put at e; rw [if_pos rfl] at e; cases e
  refine ⟨by simp [R.len], R.frz, fun j a e => R.ofr j a (pn e), R.btr, fun j k a e1 e2 => R.inj j k a (pn e1) (pn e2), fun j a e => by rw [sv_set hi, if_neg (pi e)]; exact R.ex j a (pn e), fun a e => ?_, fun j => ?_⟩
  · have := R.bx a e
    unfold put
    rcases hb with z | z
    · rw [z] at e; cases e
    · rw [if_neg (Ne.symm z)]; exact this
  · rw [sv_set hi]
    by_cases e : j = i
    · subst e
      rw [if_pos rfl]
      exact ⟨if_pos rfl, v, by rw [List.getElem?_set_self (by rw [← R.len]; exact hi)], h.mono up⟩
    · rw [if_neg e]
      have q := R.sl j
      have s1 : (σ.set i (some v))[j]? = σ[j]? := List.getElem?_set_ne (Ne.symm e)
      have s2 : put ρ i none j = ρ j := if_neg e
      revert q
      cases sv ev j with
      | un => exact id
      | fr d => exact fun ⟨h0, v, h1, h2⟩ => ⟨s2.trans h0, v, s1.trans h1, h2.mono up⟩
      | ow ds => exact fun ⟨a, vs, h1, h2, h3, h4⟩ => ⟨a, vs, s2.trans h1, s1.trans h2, h3, h4.mono up⟩
      | rw ns => exact fun ⟨h0, a, h1, h2⟩ => ⟨s2.trans h0, a, s1.trans h1, up.seq h2⟩
/-- a slot is given a new list, that stands at a -/
theorem Rl.setOw (R : Rl K M F ev σ (rem H a) ρ) (hi : i < ev.length) (hb : M.β = none ∨ i ≠ 0) (ha : H a = some (.lst vs)) (h : Rps K (hd M ρ (rem H a)) vs ds) :
    Rl K M F (ev.set i (.ow ds)) (σ.set i (some (.ref a))) H (put ρ i (some a)) := by
  have na : ∀ {j}, ρ j ≠ some a := fun {j} e => by
    obtain ⟨ws, q⟩ := R.ow j a e
    rw [rem_at] at q; cases q
  have fa : F a = none := by
    cases q : F a with
    | none => rfl
    | some o => have := R.frz a o q; rw [rem_at] at this; cases this
  have nb : ¬ M.B a := fun z => R.btr a z rem_at
  have up : Same (hd M ρ (rem H a)) (hd M (put ρ i (some a)) H) := fun b o e => by
    obtain ⟨h1, h2⟩ := hid_some.mp e
    obtain ⟨h3, h4⟩ := rem_some.mp h2
    refine hid_some.mpr ⟨fun z => ?_, h4⟩
    rcases z with z | ⟨j, z⟩
    · exact h1 (.inl z)
    · unfold put at z
      split at z
      · exact h3 (Option.some.inj z).symm
      · exact h1 (.inr ⟨j, z⟩)
  have pn : ∀ {j b}, put ρ i (some a) j = some b → (j = i ∧ b = a) ∨ (j ≠ i ∧ ρ j = some b) := fun {j b} e => by
    unfold put at e; split at e
    · next q => exact .inl ⟨q, (Option.some.inj e).symm⟩
    · next q => exact .inr ⟨q, e⟩
  refine ⟨by simp [R.len], R.frz.trans same_rem, fun j b e => ?_, fun b z => same_tr same_rem (R.btr b z), fun j k b e1 e2 => ?_, fun j b e => ?_, fun b e => ?_, fun j => ?_⟩
  · rcases pn e with ⟨_, rfl⟩ | ⟨_, e⟩
    · exact ⟨fa, nb⟩
    · exact R.ofr j b e
  · rcases pn e1 with ⟨p1, p2⟩ | ⟨p1, p2⟩
    · rcases pn e2 with ⟨q1, q2⟩ | ⟨q1, q2⟩
      · exact p1.trans q1.symm
      · exact absurd (by rw [← p2]; exact q2) (na (j := k))
    · rcases pn e2 with ⟨q1, q2⟩ | ⟨q1, q2⟩
      · exact absurd (by rw [← q2]; exact p2) (na (j := j))
      · exact R.inj j k b p2 q2
  · rw [sv_set hi]
    rcases pn e with ⟨z, _⟩ | ⟨z, e⟩
    · rw [if_pos z]; exact ⟨_, rfl⟩
    · rw [if_neg z]; exact R.ex j b e
  · have := R.bx b e
    unfold put
    rcases hb with z | z
    · rw [z] at e; cases e
    · rw [if_neg (Ne.symm z)]; exact this
  · rw [sv_set hi]
    by_cases e : j = i
    · subst e
      rw [if_pos rfl]
      exact ⟨a, vs, if_pos rfl, by rw [List.getElem?_set_self (by rw [← R.len]; exact hi)], ha, h.mono up⟩
    · rw [if_neg e]
      have q := R.sl j
      have s1 : (σ.set i (some (.ref a)))[j]? = σ[j]? := List.getElem?_set_ne (Ne.symm e)
      have s2 : put ρ i (some a) j = ρ j := if_neg e
      revert q
      cases sv ev j with
      | un => exact id
      | fr d => exact fun ⟨h0, v, h1, h2⟩ => ⟨s2.trans h0, v, s1.trans h1, h2.mono up⟩
      | ow ds => exact fun ⟨b, ws, h1, h2, h3, h4⟩ => ⟨b, ws, s2.trans h1, s1.trans h2, (rem_some.mp h3).2, h4.mono up⟩
      | rw ns => exact fun ⟨h0, a, h1, h2⟩ => ⟨s2.trans h0, a, s1.trans h1, up.seq h2⟩
/-- an owned list is changed -/
theorem Rl.chg (R : Rl K M F ev σ H ρ) (hi : ρ i = some a) (ho : ∃ es, sv ev i = .ow es) (h : Rps K (hd M ρ H) vs ds) : Rl K M F (ev.set i (.ow ds)) σ (upd H a (.lst vs)) ρ ∧ hd M ρ (upd H a (.lst vs)) = hd M ρ H := by
  have he : hd M ρ (upd H a (.lst vs)) = hd M ρ H := by
    funext b
    show hid (Own M ρ) _ b = hid (Own M ρ) _ b
    by_cases z : Own M ρ b
    · rw [hid_in z, hid_in z]
    · rw [hid_out z, hid_out z]
      exact upd_ne fun e => z (.inr ⟨i, by rw [e]; exact hi⟩)
  obtain ⟨es, ho⟩ := ho
  have hl : i < ev.length := sv_len (by rw [ho]; exact fun z => nomatch z)
  refine ⟨⟨by simp [R.len], fun b o q => ?_, R.ofr, fun b z => by rw [upd_ne (fun y => (R.ofr i a hi).2 (by rw [← y]; exact z))]; exact R.btr b z, R.inj, fun j b e => ?_, R.bx, fun j => ?_⟩, he⟩
  · have : b ≠ a := fun z => by rw [z, (R.ofr i a hi).1] at q; cases q
    rw [upd_ne this]; exact R.frz b o q
  · rw [sv_set hl]
    by_cases z : j = i
    · rw [if_pos z]; exact ⟨_, rfl⟩
    · rw [if_neg z]; exact R.ex j b e
  · rw [sv_set hl]
    by_cases e : j = i
    · subst e
      rw [if_pos rfl]
      have q := R.sl j
      rw [ho] at q
      obtain ⟨b, ws, h1, h2, h3, h4⟩ := q
      rw [hi] at h1; cases h1
      exact ⟨a, vs, hi, h2, upd_same, by rw [he]; exact h⟩
    · rw [if_neg e]
      have q := R.sl j
      revert q
      cases sv ev j with
      | un => exact id
      | fr d => exact fun ⟨h0, v, h1, h2⟩ => ⟨h0, v, h1, by rw [he]; exact h2⟩
      | ow ds => exact fun ⟨b, ws, h1, h2, h3, h4⟩ => ⟨b, ws, h1, h2, by rw [upd_ne (fun z => e (R.inj j i b h1 (by rw [z]; exact hi)))]; exact h3, by rw [he]; exact h4⟩
      | rw ns => exact fun ⟨h0, a, h1, h2⟩ => ⟨h0, a, h1, by rw [he]; exact h2⟩
/-- an owned list is let go: it does not change any more -/
theorem Rl.frz1 (R : Rl K M F ev σ H ρ) (hb : M.β = none ∨ i ≠ 0) (ho : sv ev i = .ow ds) : Rl K M F (ev.set i (.fr (.list ds))) σ H (put ρ i none) := by
  have hl : i < ev.length := sv_len (by rw [ho]; exact fun z => nomatch z)
  have q := R.sl i
  rw [ho] at q
  obtain ⟨a, vs, h1, h2, h3, h4⟩ := q
  have up : Same (hd M ρ H) (hd M (put ρ i none) H) := same_hid_sub fun b z => own_put_none z
  have na : ¬ Own M (put ρ i none) a := fun z => by
    rcases z with z | ⟨j, z⟩
    · exact (R.ofr i a h1).2 z
    · unfold put at z
      split at z
      · cases z
      · next e => exact e (R.inj j i a z h1)
  have hr : Rp K (hd M (put ρ i none) H) (.ref a) (.list ds) := .lst (hid_some.mpr ⟨na, h3⟩) (h4.mono up)
  have pn : ∀ {j b}, put ρ i none j = some b → ρ j = some b := fun {j b} e => by
    unfold put at e; split at e
    · cases e
    · exact e
  have pi : ∀ {j b}, put ρ i none j = some b → j ≠ i := fun {j b} e z => by rw [z] at e; unfold put at e; rw [if_pos rfl] at e; cases e
  refine ⟨by simp [R.len], R.frz, fun j b e => R.ofr j b (pn e), R.btr, fun j k b e1 e2 => R.inj j k b (pn e1) (pn e2), fun j b e => by rw [sv_set hl, if_neg (pi e)]; exact R.ex j b (pn e), fun b e => ?_, fun j => ?_⟩
  · have := R.bx b e
    unfold put
    rcases hb with z | z
    · rw [z] at e; cases e
    · rw [if_neg (Ne.symm z)]; exact this
  · rw [sv_set hl]
    by_cases e : j = i
    · subst e
      rw [if_pos rfl]
      exact ⟨if_pos rfl, _, h2, hr⟩
    · rw [if_neg e]
      have q := R.sl j
      have s2 : put ρ i none j = ρ j := if_neg e
      revert q
      cases sv ev j with
      | un => exact id
      | fr d => exact fun ⟨h0, v, h1, h2⟩ => ⟨s2.trans h0, v, h1, h2.mono up⟩
      | ow ds => exact fun ⟨a, vs, h1, h2, h3, h4⟩ => ⟨a, vs, s2.trans h1, h2, h3, h4.mono up⟩
      | rw ns => exact fun ⟨h0, a, h1, h2⟩ => ⟨s2.trans h0, a, h1, up.seq h2⟩
theorem Rl.getFr (R : Rl K M F ev σ H ρ) (h : sv ev i = .fr d) : ∃ v, σ[i]? = some (some v) ∧ Rp K (hd M ρ H) v d := by
  have q := R.sl i
  rw [h] at q
  exact q.2
theorem Rl.getSc {ns : List Int} (R : Rl K M F ev σ H ρ) (h : sv ev i = .rw ns) : ∃ a, σ[i]? = some (some (.ref a)) ∧ SqL K (hd M ρ H) a (ns.map V.int) := by
  have q := R.sl i
  rw [h] at q
  exact q.2
theorem Rl.getOw (R : Rl K M F ev σ H ρ) (h : sv ev i = .ow ds) : ∃ a vs, ρ i = some a ∧ σ[i]? = some (some (.ref a)) ∧ H a = some (.lst vs) ∧ Rps K (hd M ρ H) vs ds := by
  have q := R.sl i
  rw [h] at q
  exact q
end
end VL

set_option Elab.async false
set_option linter.all false
set_option maxRecDepth 100000
set_option maxHeartbeats 4000000
/-! The value layer, part B: expressions. -/
namespace VL
open PySem PySem.Spec PyProof.Rows L2
open Classical

/-! ### readings -/
/-- an expression's, a test's, an argument list's reading -/
abbrev VT := Ev → (D → Ev → Prop) → Prop
abbrev VTB := Ev → (Bool → Ev → Prop) → Prop
abbrev VTA := Ev → (List D → Ev → Prop) → Prop
/-- an operation on data -/
abbrev V1 := D → (D → Prop) → Prop
abbrev V2 := D → D → (D → Prop) → Prop
abbrev VN := List D → (D → Prop) → Prop

/-- v stands for d, above what O hides; a list itself may be hidden -/
def RpT (K : PySem.W.Frag) (O : Addr → Prop) (H : Hp) (v : V) (d : D) : Prop := Rp K (hid O H) v d ∨ ∃ a xs ds, v = .ref a ∧ d = .list ds ∧ H a = some (.lst xs) ∧ Rps K (hid O H) xs ds
inductive RpTs (K : PySem.W.Frag) (O : Addr → Prop) (H : Hp) : List V → List D → Prop
  | nil : RpTs K O H [] []
  | cons {v : V} {vs : List V} {d : D} {ds : List D} : RpT K O H v d → RpTs K O H vs ds → RpTs K O H (v :: vs) (d :: ds)
theorem RpTs.of {K : PySem.W.Frag} {O : Addr → Prop} {H : Hp} {vs : List V} {ds : List D} (h : Rps K (hid O H) vs ds) : RpTs K O H vs ds := by
  induction ds generalizing vs with
  | nil => cases h; exact .nil
  | cons d ds ih =>
    cases h with
    | cons h1 h2 => exact .cons (.inl h1) (ih h2)
section
variable (K : PySem.W.Frag) (M : Fm) (F : Hp)
def LE (t : VT) : TE := fun σ H Q => ∃ ev ρ Qv, Rl K M F ev σ H ρ ∧ t ev Qv ∧
  ∀ d ev' v H', Qv d ev' → Rl K M F ev' σ H' ρ → Same (hd M ρ H) (hd M ρ H') → Rp K (hd M ρ H') v d → Q v H'
def LB (t : VTB) : TT := fun σ H Q => ∃ ev ρ Qv, Rl K M F ev σ H ρ ∧ t ev Qv ∧
  ∀ d ev' H', Qv d ev' → Rl K M F ev' σ H' ρ → Same (hd M ρ H) (hd M ρ H') → Q d H'
def LA (n : Nat) (t : VTA) : TA := fun σ H Q => ∃ ev ρ Qv, Rl K M F ev σ H ρ ∧ t ev Qv ∧
  ∀ ds ev' vs H', ds.length = n → Qv ds ev' → Rl K M F ev' σ H' ρ → Same (hd M ρ H) (hd M ρ H') → Rps K (hd M ρ H') vs ds → Q vs H'
/-- a new list at a, that nothing else knows -/
def LO (t : VTA) : TE := fun σ H Q => ∃ ev ρ Qv, Rl K M F ev σ H ρ ∧ t ev Qv ∧
  ∀ ds ev' a vs H', Qv ds ev' → Rl K M F ev' σ (rem H' a) ρ → Same (hd M ρ H) (hd M ρ (rem H' a)) → H' a = some (.lst vs) → Rps K (hd M ρ (rem H' a)) vs ds → Q (.ref a) H'
/-- as LA; a list may be one that a slot owns -/
def LT (t : VTA) : TA := fun σ H Q => ∃ ev ρ Qv, Rl K M F ev σ H ρ ∧ t ev Qv ∧
  ∀ ds ev' vs H', Qv ds ev' → Rl K M F ev' σ H' ρ → Same (hd M ρ H) (hd M ρ H') → RpTs K (Own M ρ) H' vs ds → Q vs H'
end
structure VE (X : Cx) (M : Fm) (e : Expr) (t : VT) : Prop where
  pe : ∀ F, PE X e (LE X.K M F t)
structure VB (X : Cx) (M : Fm) (e : Expr) (t : VTB) : Prop where
  pt : ∀ F, PT X e (LB X.K M F t)
structure VA (X : Cx) (M : Fm) (es : List Expr) (t : VTA) : Prop where
  pa : ∀ F, PA X es (LA X.K M F es.length t)
structure VO (X : Cx) (M : Fm) (e : Expr) (t : VTA) : Prop where
  pe : ∀ F, PE X e (LO X.K M F t)
structure VTs (X : Cx) (M : Fm) (es : List Expr) (t : VTA) : Prop where
  pa : ∀ F, PA X es (LT X.K M F t)

section
variable {X : Cx} {e a b : Expr} {t t' : TE} {pos : Pos} {M : Fm}
theorem peI (h : PE X e t) (k : ∀ σ H Q, t' σ H Q → t σ H Q) : PE X e t' := ⟨fun pins s σ H Q I q => h.run pins s σ H Q I (k σ H Q q)⟩
theorem ptI {t t' : TT} (h : PT X e t) (k : ∀ σ H Q, t' σ H Q → t σ H Q) : PT X e t' := ⟨fun pins s σ H Q I q => h.run pins s σ H Q I (k σ H Q q)⟩
theorem paI {es : List Expr} {t t' : TA} (h : PA X es t) (k : ∀ σ H Q, t' σ H Q → t σ H Q) : PA X es t' := ⟨fun pos pins s σ H Q I q => h.run pos pins s σ H Q I (k σ H Q q)⟩

/-! ### names, constants -/
def vC (d : D) : VT := fun ev Q => Q d ev
def vVar (i : Nat) : VT := fun ev Q => match sv ev i with
  | .fr d => Q d ev
  | _ => False
theorem ve_int {i j} : VE X M (.Constant (.int i) j pos) (vC (.int i)) := ⟨fun F => peI pe_int fun _ H _ ⟨ev, _, _, R, h, k⟩ => k _ ev _ H h R (Same.refl _) (.int i)⟩
theorem ve_bl {i j} : VE X M (.Constant (.bool i) j pos) (vC (.bool i)) := ⟨fun F => peI pe_bl fun _ H _ ⟨ev, _, _, R, h, k⟩ => k _ ev _ H h R (Same.refl _) (.bl i)⟩
theorem ve_non {j} : VE X M (.Constant .none j pos) (vC .none) := ⟨fun F => peI pe_non fun _ H _ ⟨ev, _, _, R, h, k⟩ => k _ ev _ H h R (Same.refl _) .non⟩
theorem ve_str {x j} : VE X M (.Constant (.str x) j pos) (vC (.str x)) := ⟨fun F => peI pe_str fun _ H _ ⟨ev, _, _, R, h, k⟩ => k _ ev _ H h R (Same.refl _) (.str x)⟩
theorem ve_pv {i : Nat} {x : Str} (p : PE X (.Name x pos) (tVar i)) : VE X M (.Name x pos) (vVar i) := ⟨fun F => peI p fun σ H Q ⟨ev, ρ, Qv, R, h, k⟩ => by
  unfold vVar at h
  cases e : sv ev i with
  | fr d =>
    rw [e] at h
    obtain ⟨v, h1, h2⟩ := R.getFr e
    exact ⟨v, h1, k d ev v H h R (Same.refl _) h2⟩
  | un => rw [e] at h; exact h.elim
  | ow _ => rw [e] at h; exact h.elim
  | rw _ => rw [e] at h; exact h.elim⟩
theorem ve_var (i : Nat) {x : Str} (hN : X.N[i]? = some x := by rfl) (hv : Vis X.env.scope x := by first | exact Or.inl rfl | exact Or.inr (Or.inl rfl) | exact Or.inr (Or.inr rfl)) (hd : (x == ("__debug__" : Str)) = false := by decide)
    (hcd : (x == ("__classdict__" : Str)) = false := by decide) : VE X M (.Name x pos) (vVar i) := ve_pv (pe_var hN hv hd hcd)
/-- a module's constant -/
theorem ve_glob {x : Str} {v : V} {d : D} {u : Value} (hg : Gl X x) (hm : X.mg x = some u) (r : RelV v u) (hr : Rp X.K (fun _ => none) v d) (hdb : (x == ("__debug__" : Str)) = false := by decide) : VE X M (.Name x pos) (vC d) :=
  ⟨fun F => peI (pe_glob hg hm r hdb) fun _ H _ ⟨ev, _, _, R, h, k⟩ => k _ ev _ H h R (Same.refl _) (hr.mono (by intro _ _ z; cases z))⟩

/-! ### argument lists -/
def vNil : VTA := fun ev Q => Q [] ev
def vCons (t : VT) (u : VTA) : VTA := fun ev Q => t ev fun d e1 => u e1 fun ds e2 => Q (d :: ds) e2
theorem va_nil : VA X M [] vNil := ⟨fun F => paI pa_nil fun _ H _ ⟨ev, _, _, R, h, k⟩ => k _ ev _ H rfl h R (Same.refl _) .nil⟩
theorem va_cons {es : List Expr} {t : VT} {u : VTA} (h1 : VE X M e t) (h2 : VA X M es u) (hs : starEach (e :: es) X.env = (false, eval e X.env) :: starEach es X.env := by rfl) : VA X M (e :: es) (vCons t u) :=
  ⟨fun F => paI (pa_cons (h1.pe F) (h2.pa F) hs) fun σ H Q ⟨ev, ρ, Qv, R, h, k⟩ =>
    ⟨ev, ρ, _, R, h, fun d e1 v H1 q1 R1 s1 r1 => ⟨e1, ρ, _, R1, q1, fun ds e2 vs H2 hn q2 R2 s2 r2 => k (d :: ds) e2 _ H2 (congrArg Nat.succ hn) q2 R2 (s1.trans s2) (.cons (r1.mono s2) r2)⟩⟩⟩
/-- one name that is looked at -/
def vLookA (i : Nat) : VTA := fun ev Q => match sv ev i with
  | .fr d => Q [d] ev
  | .ow ds => Q [.list ds] ev
  | _ => False
theorem VA.vt {es : List Expr} {t : VTA} (h : VA X M es t) : VTs X M es t := ⟨fun F => paI (h.pa F) fun σ H Q ⟨ev, ρ, Qv, R, q, k⟩ => ⟨ev, ρ, Qv, R, q, fun ds ev' vs H' _ q R' s r => k ds ev' vs H' q R' s (.of r)⟩⟩
theorem vt_look (i : Nat) {x : Str} (hN : X.N[i]? = some x := by rfl) (hv : Vis X.env.scope x := by first | exact Or.inl rfl | exact Or.inr (Or.inl rfl) | exact Or.inr (Or.inr rfl)) (hd : (x == ("__debug__" : Str)) = false := by decide)
    (hcd : (x == ("__classdict__" : Str)) = false := by decide) (hs : starEach [.Name x pos] X.env = (false, eval (.Name x pos) X.env) :: starEach [] X.env := by rfl) : VTs X M [.Name x pos] (vLookA i) := ⟨fun F => paI (pa_cons (pe_var hN hv hd hcd) pa_nil hs) fun σ H Q ⟨ev, ρ, Qv, R, h, k⟩ => by
  unfold vLookA at h
  cases e : sv ev i with
  | fr d =>
    rw [e] at h
    obtain ⟨v, h1, h2⟩ := R.getFr e
    exact ⟨v, h1, k _ ev _ H h R (Same.refl _) (.cons (.inl h2) .nil)⟩
  | un => rw [e] at h; exact h.elim
  | ow ds =>
    rw [e] at h
    obtain ⟨a, vs, h1, h2, h3, h4⟩ := R.getOw e
    exact ⟨_, h2, k _ ev _ H h R (Same.refl _) (.cons (.inr ⟨a, vs, ds, rfl, rfl, h3, h4⟩) .nil)⟩
  | rw _ => rw [e] at h; exact h.elim⟩

/-! ### operations by data -/
def OpV (K : PySem.W.Frag) (r : R2) (rv : V2) : Prop := ∀ (O : Addr → Prop) (H : Hp) (x y : V) (dx dy : D) (Q : VK) (Qv : D → Prop), (∀ b, O b → H b ≠ none) → RpT K O H x dx → RpT K O H y dy → rv dx dy Qv →
  (∀ v H' d, Qv d → Same H H' → Rp K (hid O H') v d → Q v H') → r x y H Q
def vBin (rv : V2) (ta tb : VT) : VT := fun ev Q => ta ev fun x e1 => tb e1 fun y e2 => rv x y fun d => Q d e2
/-- the left one is a name that is looked at -/
def vBinL (rv : V2) (i : Nat) (tb : VT) : VT := fun ev Q => match sv ev i with
  | .fr x => tb ev fun y e2 => rv x y fun d => Q d e2
  | .ow _ => tb ev fun y e2 => match sv e2 i with
    | .ow xs => rv (.list xs) y fun d => Q d e2
    | _ => False
  | _ => False
/-- the right one is -/
def vBinR (rv : V2) (ta : VT) (i : Nat) : VT := fun ev Q => ta ev fun x e1 => match sv e1 i with
  | .fr y => rv x y fun d => Q d e1
  | .ow ys => rv x (.list ys) fun d => Q d e1
  | _ => False
theorem ve_bin {r : R2} {rv : V2} {ta tb : VT} (hr : OpV X.K r rv) (mk : ∀ {ta tb : TE}, PE X a ta → PE X b tb → PE X e (tOp r ta tb)) (ha : VE X M a ta) (hb : VE X M b tb) : VE X M e (vBin rv ta tb) :=
  ⟨fun F => peI (mk (ha.pe F) (hb.pe F)) fun σ H Q ⟨ev, ρ, Qv, R, h, k⟩ =>
    ⟨ev, ρ, _, R, h, fun x e1 v1 H1 q1 R1 s1 r1 => ⟨e1, ρ, _, R1, q1, fun y e2 v2 H2 q2 R2 s2 r2 =>
      hr (Own M ρ) H2 v1 v2 x y Q _ R2.tr (.inl (r1.mono s2)) (.inl r2) q2 fun v H' d qd sm rr => k d e2 v H' qd (R2.same sm) ((s1.trans s2).trans (same_hid sm)) rr⟩⟩⟩
theorem ve_binL {r : R2} {rv : V2} {tb : VT} {x : Str} {p : Pos} (i : Nat) (hr : OpV X.K r rv) (mk : ∀ {ta tb : TE}, PE X (.Name x p) ta → PE X b tb → PE X e (tOp r ta tb)) (ha : PE X (.Name x p) (tVar i)) (hb : VE X M b tb) : VE X M e (vBinL rv i tb) :=
  ⟨fun F => peI (mk ha (hb.pe F)) fun σ H Q ⟨ev, ρ, Qv, R, h, k⟩ => by
    unfold vBinL at h
    cases e : sv ev i with
    | fr d =>
      rw [e] at h
      obtain ⟨v, h1, h2⟩ := R.getFr e
      exact ⟨v, h1, ev, ρ, _, R, h, fun y e2 v2 H2 q2 R2 s2 r2 => hr (Own M ρ) H2 v v2 d y Q _ R2.tr (.inl (h2.mono s2)) (.inl r2) q2 fun v H' d qd sm rr => k d e2 v H' qd (R2.same sm) (s2.trans (same_hid sm)) rr⟩
    | un => rw [e] at h; exact h.elim
    | ow ds =>
      rw [e] at h
      obtain ⟨a, vs, h1, h2, h3, h4⟩ := R.getOw e
      refine ⟨_, h2, ev, ρ, _, R, h, fun y e2 v2 H2 q2 R2 s2 r2 => ?_⟩
      cases e' : sv e2 i with
      | ow es =>
        rw [e'] at q2
        obtain ⟨a', vs', g1, g2, g3, g4⟩ := R2.getOw e'
        rw [h1] at g1; cases g1
        exact hr (Own M ρ) H2 _ v2 (.list es) y Q _ R2.tr (.inr ⟨a, vs', es, rfl, rfl, g3, g4⟩) (.inl r2) q2 fun v H' d qd sm rr => k d e2 v H' qd (R2.same sm) (s2.trans (same_hid sm)) rr
      | un => rw [e'] at q2; exact q2.elim
      | fr _ => rw [e'] at q2; exact q2.elim
      | rw _ => rw [e'] at q2; exact q2.elim
    | rw _ => rw [e] at h; exact h.elim⟩
theorem ve_binR {r : R2} {rv : V2} {ta : VT} {x : Str} {p : Pos} (i : Nat) (hr : OpV X.K r rv) (mk : ∀ {ta tb : TE}, PE X a ta → PE X (.Name x p) tb → PE X e (tOp r ta tb)) (ha : VE X M a ta) (hb : PE X (.Name x p) (tVar i)) : VE X M e (vBinR rv ta i) :=
  ⟨fun F => peI (mk (ha.pe F) hb) fun σ H Q ⟨ev, ρ, Qv, R, h, k⟩ => by
    refine ⟨ev, ρ, _, R, h, fun y e2 v2 H2 q2 R2 s2 r2 => ?_⟩
    cases e : sv e2 i with
    | fr d =>
      rw [e] at q2
      obtain ⟨v, h1, h2⟩ := R2.getFr e
      exact ⟨v, h1, hr (Own M ρ) H2 v2 v y d Q _ R2.tr (.inl r2) (.inl h2) q2 fun v H' d qd sm rr => k d e2 v H' qd (R2.same sm) (s2.trans (same_hid sm)) rr⟩
    | un => rw [e] at q2; exact q2.elim
    | ow ds =>
      rw [e] at q2
      obtain ⟨a, vs, h1, h2, h3, h4⟩ := R2.getOw e
      exact ⟨_, h2, hr (Own M ρ) H2 v2 _ y (.list ds) Q _ R2.tr (.inl r2) (.inr ⟨a, vs, ds, rfl, rfl, h3, h4⟩) q2 fun v H' d qd sm rr => k d e2 v H' qd (R2.same sm) (s2.trans (same_hid sm)) rr⟩
    | rw _ => rw [e] at q2; exact q2.elim⟩
/-- one operand -/
def UnV (K : PySem.W.Frag) (r : V → Hp → VK → Prop) (rv : V1) : Prop := ∀ (O : Addr → Prop) (H : Hp) (x : V) (dx : D) (Q : VK) (Qv : D → Prop), (∀ b, O b → H b ≠ none) → Rp K (hid O H) x dx → rv dx Qv →
  (∀ v H' d, Qv d → Same H H' → Rp K (hid O H') v d → Q v H') → r x H Q
def vUn (rv : V1) (ta : VT) : VT := fun ev Q => ta ev fun x e1 => rv x fun d => Q d e1
theorem ve_un {r : V → Hp → VK → Prop} {rv : V1} {ta : VT} (hr : UnV X.K r rv) (mk : ∀ {ta : TE}, PE X a ta → PE X e (tUn r ta)) (ha : VE X M a ta) : VE X M e (vUn rv ta) :=
  ⟨fun F => peI (mk (ha.pe F)) fun σ H Q ⟨ev, ρ, Qv, R, h, k⟩ => ⟨ev, ρ, _, R, h, fun x e1 v1 H1 q1 R1 s1 r1 =>
    hr (Own M ρ) H1 v1 x Q _ R1.tr r1 q1 fun v H' d qd sm rr => k d e1 v H' qd (R1.same sm) (s1.trans (same_hid sm)) rr⟩⟩
/-- built-ins -/
def CallV (K : PySem.W.Frag) (r : List V → Hp → VK → Prop) (rv : VN) : Prop := ∀ (O : Addr → Prop) (H : Hp) (xs : List V) (ds : List D) (Q : VK) (Qv : D → Prop), (∀ b, O b → H b ≠ none) → RpTs K O H xs ds → rv ds Qv →
  (∀ v H' d, Qv d → Same H H' → Rp K (hid O H') v d → Q v H') → r xs H Q
def vCall (rv : VN) (ta : VTA) : VT := fun ev Q => ta ev fun xs e1 => rv xs fun d => Q d e1
theorem ve_callC {r : List V → Hp → VK → Prop} {rv : VN} {es : List Expr} {ta : VTA} (hr : CallV X.K r rv) (mk : ∀ {ta : TA}, PA X es ta → PE X e (tCB r ta)) (ha : VTs X M es ta) : VE X M e (vCall rv ta) :=
  ⟨fun F => peI (mk (ha.pa F)) fun σ H Q ⟨ev, ρ, Qv, R, h, k⟩ => ⟨ev, ρ, _, R, h, fun x e1 v1 H1 q1 R1 s1 r1 =>
    hr (Own M ρ) H1 v1 x Q _ R1.tr r1 q1 fun v H' d qd sm rr => k d e1 v H' qd (R1.same sm) (s1.trans (same_hid sm)) rr⟩⟩
/-- built-ins that give a new list -/
def CallO (K : PySem.W.Frag) (r : List V → Hp → VK → Prop) (rv : List D → (List D → Prop) → Prop) : Prop := ∀ (O : Addr → Prop) (H : Hp) (xs : List V) (ds : List D) (Q : VK) (Qv : List D → Prop), (∀ b, O b → H b ≠ none) → RpTs K O H xs ds → rv ds Qv →
  (∀ p ys es, Qv es → H p = none → Rps K (hid O H) ys es → Q (.ref p) (upd H p (.lst ys))) → r xs H Q
def vCallO (rv : List D → (List D → Prop) → Prop) (ta : VTA) : VTA := fun ev Q => ta ev fun xs e1 => rv xs fun ds => Q ds e1
theorem vo_callC {r : List V → Hp → VK → Prop} {rv : List D → (List D → Prop) → Prop} {es : List Expr} {ta : VTA} (hr : CallO X.K r rv) (mk : ∀ {ta : TA}, PA X es ta → PE X e (tCB r ta)) (ha : VTs X M es ta) : VO X M e (vCallO rv ta) :=
  ⟨fun F => peI (mk (ha.pa F)) fun σ H Q ⟨ev, ρ, Qv, R, h, k⟩ => ⟨ev, ρ, _, R, h, fun x e1 v1 H1 q1 R1 s1 r1 =>
    hr (Own M ρ) H1 v1 x Q _ R1.tr r1 q1 fun p ys es q n r => by
      have e := rem_upd (o := .lst ys) n
      exact k es e1 p ys _ q (by rw [e]; exact R1) (by rw [e]; exact s1) upd_same (by rw [e]; exact r)⟩⟩
/-- a new list as data -/
def vOf (t : VTA) : VT := fun ev Q => t ev fun ds e1 => Q (.list ds) e1
theorem VO.ve {t : VTA} (h : VO X M e t) : VE X M e (vOf t) := ⟨fun F => peI (h.pe F) fun σ H Q ⟨ev, ρ, Qv, R, q, k⟩ => ⟨ev, ρ, _, R, q, fun ds e1 a vs H' q R' s hl r => by
    have n := R'.nown (a := a) rem_at
    have up : Same (hd M ρ (rem H' a)) (hd M ρ H') := same_hid same_rem
    exact k (.list ds) e1 (.ref a) H' q (R'.same same_rem) (s.trans up) (.lst (hid_some.mpr ⟨n, hl⟩) (r.mono up))⟩⟩

/-! ### displays -/
def vTup (t : VTA) : VT := fun ev Q => t ev fun ds e1 => Q (.tuple ds) e1
theorem ve_tup {es : List Expr} {k : Nat} {t : VTA} (h : VA X M es t) (hl : es.length ≤ sizeLine := by decide) : VE X M (.Tuple es k pos) (vTup t) :=
  ⟨fun F => peI (pe_tup (h.pa F)) fun σ H Q ⟨ev, ρ, Qv, R, q, k⟩ => ⟨ev, ρ, _, R, q, fun ds e1 vs H1 hn q1 R1 s1 r1 => ⟨by rw [r1.len, hn]; exact hl, fun p n => by
    have sm : Same H1 (upd H1 p (.tup vs)) := same_upd n
    refine k _ e1 _ _ q1 (R1.same sm) (s1.trans (same_hid sm)) (.tup (.inl (.inl (hid_some.mpr ⟨R1.nown n, upd_same⟩))) (r1.mono (same_hid sm)))⟩⟩⟩
theorem vo_lst {es : List Expr} {t : VTA} (h : VA X M es t) (hl : es.length ≤ sizeLine := by decide) : VO X M (.List es pos) t :=
  ⟨fun F => peI (pe_lst (h.pa F)) fun σ H Q ⟨ev, ρ, Qv, R, q, k⟩ => ⟨ev, ρ, _, R, q, fun ds e1 vs H1 hn q1 R1 s1 r1 => ⟨by rw [r1.len, hn]; exact hl, fun p n => by
    have e := rem_upd (o := .lst vs) n
    exact k ds e1 p vs _ q1 (by rw [e]; exact R1) (by rw [e]; exact s1) upd_same (by rw [e]; exact r1)⟩⟩⟩
end
end VL

set_option Elab.async false
set_option linter.all false
set_option maxRecDepth 100000
set_option maxHeartbeats 4000000
/-! The value layer, part C: tests, statements, loops, defs. -/
namespace VL
open PySem PySem.Spec PyProof.Rows L2
open Classical

section
variable {X : Cx} {e a b c : Expr} {pos : Pos} {M : Fm}
/-! ### tests -/
/-- a bool as a test -/
def vB (t : VT) : VTB := fun ev Q => t ev fun d e1 => match d with
  | .bool k => Q k e1
  | _ => False
theorem vb_of {t : VT} {tt : TE} (mk : ∀ {te : TE}, PE X e te → PT X e (tB te)) (h : VE X M e t) : VB X M e (vB t) :=
  ⟨fun F => ptI (mk (h.pe F)) fun σ H Q ⟨ev, ρ, Qv, R, q, k⟩ => ⟨ev, ρ, _, R, q, fun d e1 v H1 q1 R1 s1 r1 => by
    cases d with
    | bool z => cases r1; exact ⟨z, rfl, k z e1 H1 q1 R1 s1⟩
    | _ => exact q1.elim⟩⟩
def vTestBin (rv : V2) (ta tb : VT) : VTB := vB (vBin rv ta tb)
/-- a comparison as a test -/
theorem vb_cmp {op : CmpOp} {r : R2} {rv : V2} {ta tb : VT} (ho : OpR X (compareOp op) r) (hr : OpV X.K r rv) (hm : behindInMarks op b = false) (ha : VE X M a ta) (hb : VE X M b tb) : VB X M (.Compare a [op] [b] pos) (vB (vBin rv ta tb)) :=
  ⟨fun F => ptI (pt_cmpR ho (ha.pe F) (hb.pe F) hm) fun σ H Q ⟨ev, ρ, Qv, R, h, k⟩ =>
    ⟨ev, ρ, _, R, h, fun x e1 v1 H1 q1 R1 s1 r1 => ⟨e1, ρ, _, R1, q1, fun y e2 v2 H2 q2 R2 s2 r2 =>
      hr (Own M ρ) H2 v1 v2 x y _ _ R2.tr (.inl (r1.mono s2)) (.inl r2) q2 fun v H' d qd sm rr => by
        cases d with
        | bool z => cases rr; exact ⟨z, rfl, k z e2 H' qd (R2.same sm) ((s1.trans s2).trans (same_hid sm))⟩
        | _ => exact qd.elim⟩⟩⟩
theorem vb_cmpL {op : CmpOp} {r : R2} {rv : V2} {tb : VT} {x : Str} {p : Pos} (i : Nat) (ho : OpR X (compareOp op) r) (hr : OpV X.K r rv) (hm : behindInMarks op b = false) (ha : PE X (.Name x p) (tVar i)) (hb : VE X M b tb) : VB X M (.Compare (.Name x p) [op] [b] pos) (vB (vBinL rv i tb)) :=
  ⟨fun F => ptI (pt_cmpR ho ha (hb.pe F) hm) fun σ H Q ⟨ev, ρ, Qv, R, h, k⟩ => by
    unfold vB vBinL at h
    cases e : sv ev i with
    | fr d =>
      rw [e] at h
      obtain ⟨v, h1, h2⟩ := R.getFr e
      refine ⟨v, h1, ev, ρ, _, R, h, fun y e2 v2 H2 q2 R2 s2 r2 => hr (Own M ρ) H2 v v2 d y _ _ R2.tr (.inl (h2.mono s2)) (.inl r2) q2 fun v H' d qd sm rr => ?_⟩
      cases d with
      | bool z => cases rr; exact ⟨z, rfl, k z e2 H' qd (R2.same sm) (s2.trans (same_hid sm))⟩
      | _ => exact qd.elim
    | un => rw [e] at h; exact h.elim
    | ow ds =>
      rw [e] at h
      obtain ⟨a, vs, h1, h2, h3, h4⟩ := R.getOw e
      refine ⟨_, h2, ev, ρ, _, R, h, fun y e2 v2 H2 q2 R2 s2 r2 => ?_⟩
      cases e' : sv e2 i with
      | ow es =>
        rw [e'] at q2
        obtain ⟨a', vs', g1, g2, g3, g4⟩ := R2.getOw e'
        rw [h1] at g1; cases g1
        refine hr (Own M ρ) H2 _ v2 (.list es) y _ _ R2.tr (.inr ⟨a, vs', es, rfl, rfl, g3, g4⟩) (.inl r2) q2 fun v H' d qd sm rr => ?_
        cases d with
        | bool z => cases rr; exact ⟨z, rfl, k z e2 H' qd (R2.same sm) (s2.trans (same_hid sm))⟩
        | _ => exact qd.elim
      | un => rw [e'] at q2; exact q2.elim
      | fr _ => rw [e'] at q2; exact q2.elim
      | rw _ => rw [e'] at q2; exact q2.elim
    | rw _ => rw [e] at h; exact h.elim⟩
theorem vb_cmpR {op : CmpOp} {r : R2} {rv : V2} {ta : VT} {x : Str} {p : Pos} (i : Nat) (ho : OpR X (compareOp op) r) (hr : OpV X.K r rv) (hm : behindInMarks op (.Name x p) = false) (ha : VE X M a ta) (hb : PE X (.Name x p) (tVar i)) : VB X M (.Compare a [op] [.Name x p] pos) (vB (vBinR rv ta i)) :=
  ⟨fun F => ptI (pt_cmpR ho (ha.pe F) hb hm) fun σ H Q ⟨ev, ρ, Qv, R, h, k⟩ => by
    refine ⟨ev, ρ, _, R, h, fun y e2 v2 H2 q2 R2 s2 r2 => ?_⟩
    cases e : sv e2 i with
    | fr d =>
      rw [e] at q2
      obtain ⟨v, h1, h2⟩ := R2.getFr e
      refine ⟨v, h1, hr (Own M ρ) H2 v2 v y d _ _ R2.tr (.inl r2) (.inl h2) q2 fun v H' d qd sm rr => ?_⟩
      cases d with
      | bool z => cases rr; exact ⟨z, rfl, k z e2 H' qd (R2.same sm) (s2.trans (same_hid sm))⟩
      | _ => exact qd.elim
    | un => rw [e] at q2; exact q2.elim
    | ow ds =>
      rw [e] at q2
      obtain ⟨a, vs, h1, h2, h3, h4⟩ := R2.getOw e
      refine ⟨_, h2, hr (Own M ρ) H2 v2 _ y (.list ds) _ _ R2.tr (.inl r2) (.inr ⟨a, vs, ds, rfl, rfl, h3, h4⟩) q2 fun v H' d qd sm rr => ?_⟩
      cases d with
      | bool z => cases rr; exact ⟨z, rfl, k z e2 H' qd (R2.same sm) (s2.trans (same_hid sm))⟩
      | _ => exact qd.elim
    | rw _ => rw [e] at q2; exact q2.elim⟩
/-- a op1 b op2 c -/
def vChain (rv rv' : V2) (ta tb tc : VT) : VT := fun ev Q => ta ev fun x e1 => tb e1 fun y e2 => rv x y fun d => match d with
  | .bool true => tc e2 fun z e3 => rv' y z fun d => Q d e3
  | .bool false => Q (.bool false) e2
  | _ => False
theorem ve_chain {op op' : CmpOp} {r r' : R2} {rv rv' : V2} {ta tb tc : VT} (ho : OpR X (compareOp op) r) (ho' : OpR X (compareOp op') r') (hr : OpV X.K r rv) (hr' : OpV X.K r' rv') (ha : VE X M a ta) (hb : VE X M b tb) (hc : VE X M c tc)
    (hm : lastMarks [op, op'] [b, c] = false := by with_unfolding_all rfl) : VE X M (.Compare a [op, op'] [b, c] pos) (vChain rv rv' ta tb tc) :=
  ⟨fun F => peI (pe_chain ho ho' (ha.pe F) (hb.pe F) (hc.pe F) hm) fun σ H Q ⟨ev, ρ, Qv, R, h, k⟩ =>
    ⟨ev, ρ, _, R, h, fun x e1 v1 H1 q1 R1 s1 r1 => ⟨e1, ρ, _, R1, q1, fun y e2 v2 H2 q2 R2 s2 r2 =>
      hr (Own M ρ) H2 v1 v2 x y _ _ R2.tr (.inl (r1.mono s2)) (.inl r2) q2 fun v H3 d qd sm rr => by
        have R3 := R2.same sm
        have s3 := (s1.trans s2).trans (same_hid sm)
        cases d with
        | bool z =>
          cases rr
          refine ⟨z, rfl, ?_⟩
          cases z with
          | false => exact k _ e2 _ H3 qd R3 s3 (.bl false)
          | true => exact ⟨e2, ρ, _, R3, qd, fun z e3 v3 H4 q4 R4 s4 r4 => hr' (Own M ρ) H4 v2 v3 y z _ _ R4.tr (.inl ((r2.mono (same_hid sm)).mono s4)) (.inl r4) q4 fun v H5 d q5 sm5 r5 => k d e3 v H5 q5 (R4.same sm5) ((s3.trans s4).trans (same_hid sm5)) r5⟩
        | _ => exact qd.elim⟩⟩⟩
theorem vb_chain {op op' : CmpOp} {r r' : R2} {rv rv' : V2} {ta tb tc : VT} (ho : OpR X (compareOp op) r) (ho' : OpR X (compareOp op') r') (hr : OpV X.K r rv) (hr' : OpV X.K r' rv') (ha : VE X M a ta) (hb : VE X M b tb) (hc : VE X M c tc)
    (hm : lastMarks [op, op'] [b, c] = false := by with_unfolding_all rfl) : VB X M (.Compare a [op, op'] [b, c] pos) (vB (vChain rv rv' ta tb tc)) :=
  ⟨fun F => ptI (pt_chain ho ho' (ha.pe F) (hb.pe F) (hc.pe F) hm) fun σ H Q ⟨ev, ρ, Qv, R, h, k⟩ =>
    ⟨ev, ρ, _, R, h, fun x e1 v1 H1 q1 R1 s1 r1 => ⟨e1, ρ, _, R1, q1, fun y e2 v2 H2 q2 R2 s2 r2 =>
      hr (Own M ρ) H2 v1 v2 x y _ _ R2.tr (.inl (r1.mono s2)) (.inl r2) q2 fun v H3 d qd sm rr => by
        have R3 := R2.same sm
        have s3 := (s1.trans s2).trans (same_hid sm)
        cases d with
        | bool z =>
          cases rr
          refine ⟨z, rfl, ?_⟩
          cases z with
          | false => exact ⟨false, rfl, k _ e2 H3 qd R3 s3⟩
          | true => exact ⟨e2, ρ, _, R3, qd, fun z e3 v3 H4 q4 R4 s4 r4 => hr' (Own M ρ) H4 v2 v3 y z _ _ R4.tr (.inl ((r2.mono (same_hid sm)).mono s4)) (.inl r4) q4 fun v H5 d q5 sm5 r5 => by
              cases d with
              | bool w => cases r5; exact ⟨w, rfl, k w e3 H5 q5 (R4.same sm5) ((s3.trans s4).trans (same_hid sm5))⟩
              | _ => exact q5.elim⟩
        | _ => exact qd.elim⟩⟩⟩
/-- the truth of a value -/
def truD (d : D) (Q : Bool → Prop) : Prop := match d with
  | .none => Q false
  | .bool k => Q k
  | .int i => Q (i != 0)
  | .list ds => Q (!ds.isEmpty)
  | .tuple ds => Q (!ds.isEmpty)
  | _ => False
def vTru (t : VT) : VTB := fun ev Q => t ev fun d e1 => truD d fun k => Q k e1
theorem truD_ok {K : PySem.W.Frag} {H : Hp} {v : V} {d : D} {Q : Bool → Prop} (r : Rp K H v d) (q : truD d Q) : ∃ k, TruV K v H k ∧ Q k := by
  cases r with
  | non => exact ⟨_, rfl, q⟩
  | bl b => exact ⟨_, rfl, q⟩
  | int i => exact ⟨_, rfl, q⟩
  | str x => exact q.elim
  | lst h a => exact ⟨_, .inl ⟨_, SqL.of h, rfl⟩, by rw [a.empty]; exact q⟩
  | tup h a => exact ⟨_, .inr (.inl ⟨_, h, rfl⟩), by rw [a.empty]; exact q⟩
theorem vb_tru {t : VT} (ha : VE X M a t) (he : ∀ whole, isTrue a X.env whole = (do let v ← whole; standAt a.pos; holding [v] (truthy v)) := by intro _; rfl) : VB X M a (vTru t) :=
  ⟨fun F => ptI (pt_truth (ha.pe F) he) fun σ H Q ⟨ev, ρ, Qv, R, q, k⟩ => ⟨ev, ρ, _, R, q, fun d e1 v H1 q1 R1 s1 r1 =>
    let ⟨z, h1, h2⟩ := truD_ok (r1.mono same_hid_of) q1
    ⟨z, h1, k z e1 H1 h2 R1 s1⟩⟩⟩
/-- .. of a list that a slot owns -/
def vTruO (i : Nat) : VTB := fun ev Q => match sv ev i with
  | .ow ds => Q (!ds.isEmpty) ev
  | .fr d => truD d fun k => Q k ev
  | _ => False
theorem vb_truO {x : Str} (i : Nat) (ha : PE X (.Name x pos) (tVar i)) (he : ∀ whole, isTrue (.Name x pos) X.env whole = (do let v ← whole; standAt pos; holding [v] (truthy v)) := by intro _; rfl) : VB X M (.Name x pos) (vTruO i) :=
  ⟨fun F => ptI (pt_truth ha he) fun σ H Q ⟨ev, ρ, Qv, R, h, k⟩ => by
    unfold vTruO at h
    cases e : sv ev i with
    | fr d =>
      rw [e] at h
      obtain ⟨v, h1, h2⟩ := R.getFr e
      obtain ⟨z, g1, g2⟩ := truD_ok (h2.mono same_hid_of) h
      exact ⟨v, h1, z, g1, k z ev H g2 R (Same.refl _)⟩
    | un => rw [e] at h; exact h.elim
    | ow ds =>
      rw [e] at h
      obtain ⟨a, vs, h1, h2, h3, h4⟩ := R.getOw e
      exact ⟨_, h2, _, .inl ⟨_, SqL.of h3, rfl⟩, k _ ev H (by rw [h4.empty]; exact h) R (Same.refl _)⟩
    | rw _ => rw [e] at h; exact h.elim⟩
/-- and, or, not -/
def vAnd (t u : VTB) : VTB := fun ev Q => t ev fun c e1 => match c with
  | true => u e1 Q
  | false => Q false e1
def vOr (t u : VTB) : VTB := fun ev Q => t ev fun c e1 => match c with
  | true => Q true e1
  | false => u e1 Q
def vNot (t : VTB) : VTB := fun ev Q => t ev fun c e1 => Q (!c) e1
structure VW (X : Cx) (M : Fm) (e : Expr) (t : VTB) : Prop where
  pw : ∀ F, PW X e (LB X.K M F t)
theorem pwI {t t' : TT} (h : PW X e t) (k : ∀ σ H Q, t' σ H Q → t σ H Q) : PW X e t' := ⟨fun w pins s σ H Q I q => h.run w pins s σ H Q I (k σ H Q q)⟩
theorem VW.vb {t : VTB} (h : VW X M e t) : VB X M e t := ⟨fun F => (h.pw F).pt⟩
theorem vw_and1 {t : VTB} (h : VB X M a t) : VW X M (.BoolOp .And [a] pos) t := ⟨fun F => pw_and1 (h.pt F)⟩
theorem vw_or1 {t : VTB} (h : VB X M a t) : VW X M (.BoolOp .Or [a] pos) t := ⟨fun F => pw_or1 (h.pt F)⟩
theorem vw_and {t u : VTB} {rest : List Expr} (h : VB X M a t) (h2 : VW X M (.BoolOp .And (b :: rest) pos) u) : VW X M (.BoolOp .And (a :: b :: rest) pos) (vAnd t u) :=
  ⟨fun F => pwI (pw_and (h.pt F) (h2.pw F)) fun σ H Q ⟨ev, ρ, Qv, R, q, k⟩ => ⟨ev, ρ, _, R, q, fun c e1 H1 q1 R1 s1 => by
    cases c with
    | true => exact ⟨e1, ρ, _, R1, q1, fun d e2 H2 q2 R2 s2 => k d e2 H2 q2 R2 (s1.trans s2)⟩
    | false => exact k false e1 H1 q1 R1 s1⟩⟩
theorem vw_or {t u : VTB} {rest : List Expr} (h : VB X M a t) (h2 : VW X M (.BoolOp .Or (b :: rest) pos) u) : VW X M (.BoolOp .Or (a :: b :: rest) pos) (vOr t u) :=
  ⟨fun F => pwI (pw_or (h.pt F) (h2.pw F)) fun σ H Q ⟨ev, ρ, Qv, R, q, k⟩ => ⟨ev, ρ, _, R, q, fun c e1 H1 q1 R1 s1 => by
    cases c with
    | false => exact ⟨e1, ρ, _, R1, q1, fun d e2 H2 q2 R2 s2 => k d e2 H2 q2 R2 (s1.trans s2)⟩
    | true => exact k true e1 H1 q1 R1 s1⟩⟩
theorem vb_not {t : VTB} (h : VB X M a t) : VB X M (.UnaryOp .Not a pos) (vNot t) :=
  ⟨fun F => ptI (pt_not (h.pt F)) fun σ H Q ⟨ev, ρ, Qv, R, q, k⟩ => ⟨ev, ρ, _, R, q, fun c e1 H1 q1 R1 s1 => k _ e1 H1 q1 R1 s1⟩⟩
/-- .. as values, of bools -/
def vAndV (t u : VT) : VT := fun ev Q => t ev fun d e1 => match d with
  | .bool true => u e1 Q
  | .bool false => Q (.bool false) e1
  | _ => False
def vOrV (t u : VT) : VT := fun ev Q => t ev fun d e1 => match d with
  | .bool true => Q (.bool true) e1
  | .bool false => u e1 Q
  | _ => False
def vNotV (t : VT) : VT := fun ev Q => t ev fun d e1 => match d with
  | .bool k => Q (.bool (!k)) e1
  | _ => False
theorem ve_one {op} {t : VT} (h : VE X M a t) : VE X M (.BoolOp op [a] pos) t := ⟨fun F => pe_one (h.pe F)⟩
theorem ve_and {t u : VT} {rest : List Expr} (h : VE X M a t) (h2 : VE X M (.BoolOp .And (b :: rest) pos) u) : VE X M (.BoolOp .And (a :: b :: rest) pos) (vAndV t u) :=
  ⟨fun F => peI (pe_and (h.pe F) (h2.pe F)) fun σ H Q ⟨ev, ρ, Qv, R, q, k⟩ => ⟨ev, ρ, _, R, q, fun d e1 v H1 q1 R1 s1 r1 => by
    cases d with
    | bool z =>
      cases r1
      refine ⟨z, rfl, ?_⟩
      cases z with
      | true => exact ⟨e1, ρ, _, R1, q1, fun d e2 v H2 q2 R2 s2 r2 => k d e2 v H2 q2 R2 (s1.trans s2) r2⟩
      | false => exact k _ e1 _ H1 q1 R1 s1 (.bl false)
    | _ => exact q1.elim⟩⟩
theorem ve_or {t u : VT} {rest : List Expr} (h : VE X M a t) (h2 : VE X M (.BoolOp .Or (b :: rest) pos) u) : VE X M (.BoolOp .Or (a :: b :: rest) pos) (vOrV t u) :=
  ⟨fun F => peI (pe_or (h.pe F) (h2.pe F)) fun σ H Q ⟨ev, ρ, Qv, R, q, k⟩ => ⟨ev, ρ, _, R, q, fun d e1 v H1 q1 R1 s1 r1 => by
    cases d with
    | bool z =>
      cases r1
      refine ⟨z, rfl, ?_⟩
      cases z with
      | false => exact ⟨e1, ρ, _, R1, q1, fun d e2 v H2 q2 R2 s2 r2 => k d e2 v H2 q2 R2 (s1.trans s2) r2⟩
      | true => exact k _ e1 _ H1 q1 R1 s1 (.bl true)
    | _ => exact q1.elim⟩⟩
theorem ve_not {t : VT} (h : VE X M a t) : VE X M (.UnaryOp .Not a pos) (vNotV t) :=
  ⟨fun F => peI (pe_not (h.pe F)) fun σ H Q ⟨ev, ρ, Qv, R, q, k⟩ => ⟨ev, ρ, _, R, q, fun d e1 v H1 q1 R1 s1 r1 => by
    cases d with
    | bool z => cases r1; exact ⟨z, rfl, k _ e1 _ H1 q1 R1 s1 (.bl _)⟩
    | _ => exact q1.elim⟩⟩
/-- a if c else b -/
def vIf (t : VTB) (u w : VT) : VT := fun ev Q => t ev fun c e1 => match c with
  | true => u e1 Q
  | false => w e1 Q
theorem ve_if {t : VTB} {u w : VT} (hc : VB X M c t) (ha : VE X M a u) (hb : VE X M b w) : VE X M (.IfExp c a b pos) (vIf t u w) :=
  ⟨fun F => peI (pe_ifExp (hc.pt F) (ha.pe F) (hb.pe F)) fun σ H Q ⟨ev, ρ, Qv, R, q, k⟩ => ⟨ev, ρ, _, R, q, fun z e1 H1 q1 R1 s1 => by
    cases z with
    | true => exact ⟨e1, ρ, _, R1, q1, fun d e2 v H2 q2 R2 s2 r2 => k d e2 v H2 q2 R2 (s1.trans s2) r2⟩
    | false => exact ⟨e1, ρ, _, R1, q1, fun d e2 v H2 q2 R2 s2 r2 => k d e2 v H2 q2 R2 (s1.trans s2) r2⟩⟩⟩
end
end VL

set_option Elab.async false
set_option linter.all false
set_option maxRecDepth 100000
set_option maxHeartbeats 4000000
/-! The value layer, part D: statements, loops, defs. -/
namespace VL
open PySem PySem.Spec PyProof.Rows L2
open Classical

structure VEnds where
  nx : Ev → Prop
  rt : D → Ev → Prop
  bk : Ev → Prop := fun _ => False
  ct : Ev → Prop := fun _ => False
abbrev VS := VEnds → Ev → Prop
abbrev VG := D → Ev → (Ev → Prop) → Prop
abbrev VGs := List D → Ev → (Ev → Prop) → Prop

section
variable (K : PySem.W.Frag) (M : Fm) (F : Hp)
/-- what the ends by data say of the ends by values -/
structure Post (D' : VEnds) (D : Ends) : Prop where
  nx : ∀ ev σ H ρ, D'.nx ev → Rl K M F ev σ H ρ → D.nx σ H
  rt : ∀ d v ev σ H ρ, D'.rt d ev → Rl K M F ev σ H ρ → Rp K (hd M ρ H) v d → D.rt v H
  bk : ∀ ev σ H ρ, D'.bk ev → Rl K M F ev σ H ρ → D.bk σ H
  ct : ∀ ev σ H ρ, D'.ct ev → Rl K M F ev σ H ρ → D.ct σ H
def LS (t : VS) : TS := fun D σ H => ∃ ev ρ D', Rl K M F ev σ H ρ ∧ t D' ev ∧ Post K M F D' D
/-- fewer owners, but for slots among vs the same -/
def Fewer (vs : List Nat) (ρ' ρ : Nat → Option Addr) : Prop := (∀ j a, ρ' j = some a → ρ j = some a) ∧ ∀ j, j ∉ vs → ρ' j = ρ j
theorem Fewer.refl {vs : List Nat} {ρ : Nat → Option Addr} : Fewer vs ρ ρ := ⟨fun _ _ h => h, fun _ _ => rfl⟩
theorem Fewer.trans {vs : List Nat} {ρ ρ1 ρ2 : Nat → Option Addr} (a : Fewer vs ρ2 ρ1) (b : Fewer vs ρ1 ρ) : Fewer vs ρ2 ρ := ⟨fun j x h => b.1 j x (a.1 j x h), fun j h => (a.2 j h).trans (b.2 j h)⟩
theorem Fewer.put {vs : List Nat} {ρ : Nat → Option Addr} {i : Nat} (h : i ∈ vs) : Fewer vs (put ρ i none) ρ := ⟨fun j a e => by
  unfold VL.put at e; split at e
  · cases e
  · exact e, fun j hj => if_neg fun e => hj (by rw [e]; exact h)⟩
theorem Fewer.eq {vs : List Nat} {ρ ρ' : Nat → Option Addr} (h : Fewer vs ρ' ρ) (n : ∀ i ∈ vs, ρ i = none) : ρ' = ρ := by
  funext j
  by_cases hj : j ∈ vs
  · rw [n j hj]
    cases e : ρ' j with
    | none => rfl
    | some a => have := h.1 j a e; rw [n j hj] at this; cases this
  · exact h.2 j hj
/-- a target; the slots it may set are among vs -/
def LG (vs : List Nat) (g : VG) : TG := fun v σ H Q => ∃ d ev ρ Qv, Rl K M F ev σ H ρ ∧ Rp K (hd M ρ H) v d ∧ g d ev Qv ∧
  ∀ ev' σ' H' ρ', Qv ev' → Rl K M F ev' σ' H' ρ' → Same (hd M ρ H) (hd M ρ' H') → wipe σ' vs = wipe σ vs → Fewer vs ρ' ρ → Q σ' H'
def LGs (vs : List Nat) (g : VGs) : TGs := fun ws σ H Q => ∃ ds ev ρ Qv, Rl K M F ev σ H ρ ∧ Rps K (hd M ρ H) ws ds ∧ g ds ev Qv ∧
  ∀ ev' σ' H' ρ', Qv ev' → Rl K M F ev' σ' H' ρ' → Same (hd M ρ H) (hd M ρ' H') → wipe σ' vs = wipe σ vs → Fewer vs ρ' ρ → Q σ' H'
end
structure VSt (X : Cx) (M : Fm) (s : Stmt) (t : VS) : Prop where
  ps : ∀ F, PS X s (LS X.K M F t)
structure VSs (X : Cx) (M : Fm) (s : List Stmt) (t : VS) : Prop where
  ps : ∀ F, PSs X s (LS X.K M F t)
structure VTg (X : Cx) (M : Fm) (vs : List Nat) (e : Expr) (t : VG) : Prop where
  pg : ∀ F, PG X e (LG X.K M F vs t)
structure VTgs (X : Cx) (M : Fm) (vs : List Nat) (es : List Expr) (t : VGs) : Prop where
  pg : ∀ F, PGs X es (LGs X.K M F vs t)

section
variable {X : Cx} {e a b c : Expr} {pos : Pos} {M : Fm} {st : Stmt} {rest : List Stmt}
theorem psI {s : Stmt} {t t' : TS} (h : PS X s t) (k : ∀ D σ H, t' D σ H → t D σ H) : PS X s t' := ⟨fun pins s σ H D I q => h.run pins s σ H D I (k D σ H q)⟩
theorem pssI {s : List Stmt} {t t' : TS} (h : PSs X s t) (k : ∀ D σ H, t' D σ H → t D σ H) : PSs X s t' := ⟨fun pins s σ H D I q => h.run pins s σ H D I (k D σ H q)⟩
theorem pgI {t t' : TG} (h : PG X e t) (k : ∀ v σ H Q, t' v σ H Q → t v σ H Q) : PG X e t' := ⟨fun pins s σ H v u Q I r q => h.run pins s σ H v u Q I r (k v σ H Q q)⟩
theorem pgsI {es : List Expr} {t t' : TGs} (h : PGs X es t) (k : ∀ v σ H Q, t' v σ H Q → t v σ H Q) : PGs X es t' := ⟨fun pins s σ H v u Q I r q => h.run pins s σ H v u Q I r (k v σ H Q q)⟩

/-! ### blocks -/
def vNext : VS := fun D ev => D.nx ev
def vSeq (t u : VS) : VS := fun D ev => t { D with nx := u D } ev
theorem vs_nil : VSs X M [] vNext := ⟨fun F => pssI pss_nil fun D σ H ⟨ev, ρ, D', R, h, k⟩ => k.nx ev σ H ρ h R⟩
theorem vs_cons {t u : VS} (h1 : VSt X M st t) (h2 : VSs X M rest u) : VSs X M (st :: rest) (vSeq t u) :=
  ⟨fun F => pssI (pss_cons (h1.ps F) (h2.ps F)) fun D σ H ⟨ev, ρ, D', R, h, k⟩ => ⟨ev, ρ, _, R, h, fun e1 σ1 H1 ρ1 q1 R1 => ⟨e1, ρ1, D', R1, q1, k⟩, k.rt, k.bk, k.ct⟩⟩
theorem vs_one {t : VS} (h1 : VSt X M st t) : VSs X M [st] t := ⟨fun F => pss_one (h1.ps F)⟩
def vNever : VS := fun _ _ => False
theorem vs_never : VSt X M st vNever := ⟨fun F => psI ps_never fun D σ H ⟨_, _, _, _, h, _⟩ => h⟩
theorem vss_never {sts : List Stmt} : VSs X M sts vNever := ⟨fun F => pssI pss_never fun D σ H ⟨_, _, _, _, h, _⟩ => h⟩
def vBrk : VS := fun D ev => D.bk ev
def vCnt : VS := fun D ev => D.ct ev
theorem vs_break : VSt X M (.Break pos) vBrk := ⟨fun F => psI ps_break fun D σ H ⟨ev, ρ, D', R, h, k⟩ => k.bk ev σ H ρ h R⟩
theorem vs_cont : VSt X M (.Continue pos) vCnt := ⟨fun F => psI ps_continue fun D σ H ⟨ev, ρ, D', R, h, k⟩ => k.ct ev σ H ρ h R⟩
theorem vs_pass : VSt X M (.Pass pos) vNext := ⟨fun F => psI ps_pass fun D σ H ⟨ev, ρ, D', R, h, k⟩ => k.nx ev σ H ρ h R⟩
def vDrop (t : VT) : VS := fun D ev => t ev fun _ e1 => D.nx e1
theorem vs_expr {t : VT} (h : VE X M e t) (hs : swapsWith e none pos.line X.env = pure false := by rfl) : VSt X M (.Expr e pos) (vDrop t) :=
  ⟨fun F => psI (ps_expr (h.pe F) hs) fun D σ H ⟨ev, ρ, D', R, h, k⟩ => ⟨ev, ρ, _, R, h, fun d e1 v H1 q1 R1 s1 r1 => k.nx e1 σ H1 ρ q1 R1⟩⟩
def vRet (t : VT) : VS := fun D ev => t ev D.rt
theorem vs_ret {t : VT} (h : VE X M e t) : VSt X M (.Return (some e) pos) (vRet t) :=
  ⟨fun F => psI (ps_ret (h.pe F)) fun D σ H ⟨ev, ρ, D', R, h, k⟩ => ⟨ev, ρ, _, R, h, fun d e1 v H1 q1 R1 s1 r1 => k.rt d v e1 σ H1 ρ q1 R1 r1⟩⟩
def vRetN : VS := fun D ev => D.rt .none ev
theorem vs_retN : VSt X M (.Return none pos) vRetN := ⟨fun F => psI ps_retN fun D σ H ⟨ev, ρ, D', R, h, k⟩ => k.rt _ _ ev σ H ρ h R .non⟩
def vIfS (t : VTB) (u w : VS) : VS := fun D ev => t ev fun c e1 => match c with
  | true => u D e1
  | false => w D e1
theorem vs_if {t : VTB} {u w : VS} {bs cs : List Stmt} (hc : VB X M c t) (ha : VSs X M bs u) (hb : VSs X M cs w) : VSt X M (.If c bs cs pos) (vIfS t u w) :=
  ⟨fun F => psI (ps_if (hc.pt F) (ha.ps F) (hb.ps F)) fun D σ H ⟨ev, ρ, D', R, h, k⟩ => ⟨ev, ρ, _, R, h, fun z e1 H1 q1 R1 s1 => by
    cases z with
    | true => exact ⟨e1, ρ, D', R1, q1, k⟩
    | false => exact ⟨e1, ρ, D', R1, q1, k⟩⟩⟩

/-! ### letting a list go -/
def vFz (i : Nat) (t : VS) : VS := fun D ev => match sv ev i with
  | .ow ds => t D (ev.set i (.fr (.list ds)))
  | _ => t D ev
theorem vs_fz (i : Nat) {t : VS} (hb : M.β = none ∨ i ≠ 0) (h : VSt X M st t) : VSt X M st (vFz i t) :=
  ⟨fun F => psI (h.ps F) fun D σ H ⟨ev, ρ, D', R, q, k⟩ => by
    unfold vFz at q
    cases e : sv ev i with
    | ow ds => rw [e] at q; exact ⟨_, _, D', R.frz1 hb e, q, k⟩
    | un => rw [e] at q; exact ⟨ev, ρ, D', R, q, k⟩
    | fr _ => rw [e] at q; exact ⟨ev, ρ, D', R, q, k⟩
    | rw _ => rw [e] at q; exact ⟨ev, ρ, D', R, q, k⟩⟩

/-! ### targets -/
theorem wipe_comm (σ : L2.St) (i : Nat) (o : Option V) (h : i ∈ vs) : wipe (σ.set i o) vs = wipe σ vs := by
  induction vs with
  | nil => exact absurd h (by simp)
  | cons v r ih =>
    unfold wipe
    by_cases e : i ∈ r
    · rw [ih e]
    · have e2 : i = v := by simpa [e] using h
      subst e2
      have key : ∀ r : List Nat, i ∉ r → wipe (σ.set i o) r = (wipe σ r).set i o := by
        intro r
        induction r with
        | nil => intro _; rfl
        | cons w r ih2 =>
          intro hn
          have h1 : i ≠ w := fun z => hn (by simp [z])
          have h2 : i ∉ r := fun z => hn (by simp [z])
          unfold wipe
          rw [ih2 h2, List.set_comm _ _ h1]
      rw [key r e, List.set_set]
def gN (i : Nat) : VG := fun d ev Q => Q (ev.set i (.fr d))
theorem vg_name {vs : List Nat} (i : Nat) {x : Str} (hN : X.N.Nodup) (hi : X.N[i]? = some x) (hx : Loc X.env.scope x) (hb : M.β = none ∨ i ≠ 0) (hv : i ∈ vs) (hf : X.fn x = true ∨ X.env.scope.names.lookup x = some .local := by first | exact .inl rfl | exact .inr rfl | assumption) : VTg X M vs (.Name x pos) (gN i) := by
  refine ⟨fun F => ⟨fun pins s σ H v u Q I r ⟨d, ev, ρ, Qv, R, rr, h, k⟩ => (pg_name hN hi hx hf).run pins s σ H v u Q I r ?_⟩⟩
  have hl : i < ev.length := by rw [R.len, I.len]; exact (List.getElem?_eq_some_iff.mp hi).1
  exact k _ _ H _ h (R.setFr hl hb rr) (same_hid_sub fun b z => own_put_none z) (wipe_comm σ i _ hv) (Fewer.put hv)
def gs0 : VGs := fun ds ev Q => match ds with
  | [] => Q ev
  | _ => False
def gsC (g : VG) (u : VGs) : VGs := fun ds ev Q => match ds with
  | d :: r => g d ev fun e1 => u r e1 Q
  | [] => False
theorem vgs_nil {vs : List Nat} : VTgs X M vs [] gs0 := ⟨fun F => pgsI pgs_nil fun ws σ H Q ⟨ds, ev, ρ, Qv, R, rr, h, k⟩ => by
  cases rr with
  | nil => exact ⟨rfl, k ev σ H ρ h R (Same.refl _) rfl Fewer.refl⟩
  | cons _ _ => exact h.elim⟩
theorem vgs_cons {vs : List Nat} {es : List Expr} {g : VG} {u : VGs} (h1 : VTg X M vs e g) (h2 : VTgs X M vs es u) (hs : (assignEach (e :: es) X.env).map (·.2) = assign e X.env :: (assignEach es X.env).map (·.2) := by rfl) : VTgs X M vs (e :: es) (gsC g u) :=
  ⟨fun F => pgsI (pgs_cons (h1.pg F) (h2.pg F) hs) fun ws σ H Q ⟨ds, ev, ρ, Qv, R, rr, h, k⟩ => by
    cases rr with
    | nil => exact h.elim
    | cons r1 r2 => exact ⟨_, _, rfl, _, ev, ρ, _, R, r1, h, fun e1 σ1 H1 ρ1 q1 R1 s1 w1 f1 => ⟨_, e1, ρ1, _, R1, r2.mono s1, q1, fun e2 σ2 H2 ρ2 q2 R2 s2 w2 f2 => k e2 σ2 H2 ρ2 q2 R2 (s1.trans s2) (w2.trans w1) (f2.trans f1)⟩⟩⟩
def gT (n : Nat) (u : VGs) : VG := fun d ev Q => match d with
  | .tuple ds => ds.length = n ∧ u ds ev Q
  | _ => False
theorem vg_tup {vs : List Nat} {es : List Expr} {k n : Nat} {u : VGs} (hc : X.calm = true) (h : VTgs X M vs es u) (hn : (assignEach es X.env).length = n := by rfl) (hst : (assignEach es X.env).findIdx? (·.1) = none := by rfl) : VTg X M vs (.Tuple es k pos) (gT n u) :=
  ⟨fun F => pgI (pg_tup hc (h.pg F) hn hst) fun v σ H Q ⟨d, ev, ρ, Qv, R, rr, q, k⟩ => by
    cases rr with
    | tup h1 h2 => exact ⟨_, _, rfl, same_seqT same_hid_of h1, by rw [h2.len]; exact q.1, _, ev, ρ, Qv, R, h2, q.2, k⟩
    | _ => exact q.elim⟩
/-- name = value -/
def vSet (i : Nat) (t : VT) : VS := fun D ev => t ev fun d e1 => D.nx (e1.set i (.fr d))
theorem vs_set (i : Nat) {x : Str} {t : VT} {pos' : Pos} (hN : X.N.Nodup) (hi : X.N[i]? = some x) (hx : Loc X.env.scope x) (hb : M.β = none ∨ i ≠ 0) (he : VE X M e t) (hs : swapsWith e (some (.Name x pos')) pos.line X.env = pure false := by rfl) (hf : X.fn x = true ∨ X.env.scope.names.lookup x = some .local := by first | exact .inl rfl | exact .inr rfl | assumption) :
    VSt X M (.Assign [.Name x pos'] e pos) (vSet i t) := by
  refine ⟨fun F => ⟨fun pins s σ H D I ⟨ev, ρ, D', R, h, k⟩ => (ps_set hN hi hx (he.pe F) hs hf).run pins s σ H D I ⟨ev, ρ, _, R, h, fun d e1 v H1 q1 R1 s1 r1 => ?_⟩⟩⟩
  have hl : i < e1.length := by rw [R1.len, I.len]; exact (List.getElem?_eq_some_iff.mp hi).1
  exact k.nx _ _ H1 _ q1 (R1.setFr hl hb r1)
/-- name = a new list, held by this name alone -/
def vSetO (i : Nat) (t : VTA) : VS := fun D ev => t ev fun ds e1 => D.nx (e1.set i (.ow ds))
theorem vs_setO (i : Nat) {x : Str} {t : VTA} {pos' : Pos} (hN : X.N.Nodup) (hi : X.N[i]? = some x) (hx : Loc X.env.scope x) (hb : M.β = none ∨ i ≠ 0) (he : VO X M e t) (hs : swapsWith e (some (.Name x pos')) pos.line X.env = pure false := by rfl) (hf : X.fn x = true ∨ X.env.scope.names.lookup x = some .local := by first | exact .inl rfl | exact .inr rfl | assumption) :
    VSt X M (.Assign [.Name x pos'] e pos) (vSetO i t) := by
  refine ⟨fun F => ⟨fun pins s σ H D I ⟨ev, ρ, D', R, h, k⟩ => (ps_set hN hi hx (he.pe F) hs hf).run pins s σ H D I ⟨ev, ρ, _, R, h, fun d e1 a vs H1 q1 R1 s1 ha r1 => ?_⟩⟩⟩
  have hl : i < e1.length := by rw [R1.len, I.len]; exact (List.getElem?_eq_some_iff.mp hi).1
  exact k.nx _ _ H1 _ q1 (R1.setOw hl hb ha r1)
/-- target = value -/
def vAsg (t : VT) (g : VG) : VS := fun D ev => t ev fun d e1 => g d e1 D.nx
theorem vs_asg {tg : Expr} {t : VT} {g : VG} {vs : List Nat} (he : VE X M e t) (hg : VTg X M vs tg g) (hs : swapsWithSole [tg] e pos.line X.env = pure false := by rfl) (hw : swappedStores [tg] e X.env = pure none := by rfl)
    (h1 : (assignEach [tg] X.env).map (·.2) = [assign tg X.env] := by rfl) : VSt X M (.Assign [tg] e pos) (vAsg t g) :=
  ⟨fun F => psI (ps_asg (he.pe F) (hg.pg F) hs hw h1) fun D σ H ⟨ev, ρ, D', R, h, k⟩ => ⟨ev, ρ, _, R, h, fun d e1 v H1 q1 R1 s1 r1 => ⟨d, e1, ρ, _, R1, r1, q1, fun e2 σ2 H2 ρ2 q2 R2 s2 w2 _ => k.nx e2 σ2 H2 ρ2 q2 R2⟩⟩⟩
/-- a, b = x, y of plain local names -/
def vPar (i j : Nat) (ta tb : VT) : VS := fun D ev => ta ev fun d e1 => tb e1 fun d2 e2 => D.nx ((e2.set i (.fr d)).set j (.fr d2))
theorem vs_par (i j : Nat) {x y : Str} {ta tb : VT} {px py pt : Pos} {kt k2 pt2} (hc : X.calm = true) (hN : X.N.Nodup) (hi : X.N[i]? = some x) (hj : X.N[j]? = some y) (hij : i ≠ j) (hb : M.β = none ∨ (i ≠ 0 ∧ j ≠ 0))
    (hx : X.env.scope.names.lookup x = some .local) (hy : X.env.scope.names.lookup y = some .local) (ha : VE X M a ta) (hb2 : VE X M b tb)
    (hw : swappedStores [.Tuple [.Name x px, .Name y py] kt pt] (.Tuple [a, b] k2 pt2) X.env = pure (some [x, y]))
    (hs : swapsWithSole [.Tuple [.Name x px, .Name y py] kt pt] (.Tuple [a, b] k2 pt2) pos.line X.env = pure false := by rfl)
    (hq : starEach [a, b] X.env = (false, eval a X.env) :: starEach [b] X.env := by rfl) (hq2 : starEach [b] X.env = (false, eval b X.env) :: starEach [] X.env := by rfl) :
    VSt X M (.Assign [.Tuple [.Name x px, .Name y py] kt pt] (.Tuple [a, b] k2 pt2) pos) (vPar i j ta tb) := by
  refine ⟨fun F => ⟨fun pins s σ H D I ⟨ev, ρ, D', R, h, k⟩ => (ps_par hc hN hi hj hij hx hy (pa_cons (ha.pe F) (pa_cons (hb2.pe F) pa_nil hq2) hq) hw hs).run pins s σ H D I ?_⟩⟩
  refine ⟨ev, ρ, _, R, h, fun d e1 v H1 q1 R1 s1 r1 => ⟨e1, ρ, _, R1, q1, fun d2 e2 v2 H2 q2 R2 s2 r2 => ⟨v, v2, rfl, ?_⟩⟩⟩
  have hl : i < e2.length := by rw [R2.len, I.len]; exact (List.getElem?_eq_some_iff.mp hi).1
  have hl2 : j < e2.length := by rw [R2.len, I.len]; exact (List.getElem?_eq_some_iff.mp hj).1
  have R3 := R2.setFr hl (hb.imp id (·.1)) (r1.mono s2)
  have up : Same (hd M ρ H2) (hd M (put ρ i none) H2) := same_hid_sub fun b z => own_put_none z
  exact k.nx _ _ H2 _ q2 (R3.setFr (by simpa using hl2) (hb.imp id (·.2)) (r2.mono up))
/-- name op= e -/
def vAug (rv : V2) (i : Nat) (t : VT) : VS := fun D ev => match sv ev i with
  | .fr x => t ev fun y e1 => rv x y fun d => D.nx (e1.set i (.fr d))
  | _ => False
theorem vs_aug (i : Nat) {x : Str} {t : VT} {op : Operator} {ti : R2} {rv : V2} {pos' : Pos} (hN : X.N.Nodup) (hi : X.N[i]? = some x) (hx : Loc X.env.scope x) (hb : M.β = none ∨ i ≠ 0) (he : VE X M e t) (ho : OpR X (inplaceOp op) ti) (hr : OpV X.K ti rv) (hf : X.fn x = true ∨ X.env.scope.names.lookup x = some .local := by first | exact .inl rfl | exact .inr rfl | assumption) :
    VSt X M (.AugAssign (.Name x pos') op e pos) (vAug rv i t) := by
  refine ⟨fun F => ⟨fun pins s σ H D I ⟨ev, ρ, D', R, h, k⟩ => (ps_aug hN hi hx (he.pe F) (ti := ti) ho hf).run pins s σ H D I ?_⟩⟩
  unfold vAug at h
  cases e0 : sv ev i with
  | fr d0 =>
    rw [e0] at h
    obtain ⟨v, h1, h2⟩ := R.getFr e0
    refine ⟨v, h1, ev, ρ, _, R, h, fun y e1 v1 H1 q1 R1 s1 r1 => hr (Own M ρ) H1 v v1 d0 y _ _ R1.tr (.inl (h2.mono s1)) (.inl r1) q1 fun v2 H2 d qd sm rr => ?_⟩
    have R2 := R1.same sm
    have hl : i < e1.length := by rw [R1.len, I.len]; exact (List.getElem?_eq_some_iff.mp hi).1
    exact k.nx _ _ H2 _ qd (R2.setFr hl hb rr)
  | un => rw [e0] at h; exact h.elim
  | ow _ => rw [e0] at h; exact h.elim
  | rw _ => rw [e0] at h; exact h.elim

/-! ### while -/
def wit (c : VTB) (b : VS) (D : VEnds) : Nat → Ev → Prop
  | 0, _ => False
  | n + 1, ev => c ev fun t e1 => match t with
    | true => b { nx := wit c b D n, rt := D.rt, bk := D.nx, ct := wit c b D n } e1
    | false => D.nx e1
def vWhile (c : VTB) (b : VS) : VS := fun D ev => ∃ n, wit c b D n ev
theorem vs_while {body : List Stmt} {tc : VTB} {tb : VS} (hp : PassesOwn (model X.prog X.w) X.A X.env X.xe) (hc : VB X M c tc) (hb : VSs X M body tb) : VSt X M (.While c body [] pos) (vWhile tc tb) :=
  ⟨fun F => psI (ps_while hp (hc.pt F) (hb.ps F)) fun D σ H ⟨ev, ρ, D', R, ⟨n, h⟩, k⟩ => by
    refine ⟨fun m σ H => ∃ ev ρ, Rl X.K M F ev σ H ρ ∧ wit tc tb D' m ev, ⟨n, ev, ρ, R, h⟩, fun m σ H ⟨ev, ρ, R, h⟩ => ?_⟩
    cases m with
    | zero => exact h.elim
    | succ m =>
      refine ⟨ev, ρ, _, R, h, fun t e1 H1 q1 R1 s1 => ?_⟩
      cases t with
      | true =>
        rw [if_pos rfl]
        refine ⟨fun σ H => ∃ ev ρ, Rl X.K M F ev σ H ρ ∧ wit tc tb D' m ev, fun σ' H' w => ⟨m, Nat.lt_succ_self _, w⟩, e1, ρ, _, R1, q1, ?_⟩
        exact ⟨fun ev σ H ρ q R => ⟨ev, ρ, R, q⟩, k.rt, k.nx, fun ev σ H ρ q R => ⟨ev, ρ, R, q⟩⟩
      | false => rw [if_neg Bool.false_ne_true]; exact k.nx e1 σ H1 ρ q1 R1⟩
end

/-! ### what is walked -/
/-- the walk J serves the data xs, wherever what G tells stands -/
def Srv (K : PySem.W.Frag) (G : Hp) (J : It) (xs : List D) : Prop := ∀ H, Same G H → (∀ i x, xs[i]? = some x → J.go i H ∧ ∀ v H3, J.yld i H v H3 → Same H H3 ∧ ∀ O, (∀ b, O b → H b ≠ none) → Same G (hid O H) → Rp K (hid O H3) v x) ∧ J.stop xs.length H
def LW (K : PySem.W.Frag) (M : Fm) (F : Hp) (t : VTA) : TI := fun σ H R => ∃ ev ρ Qv, Rl K M F ev σ H ρ ∧ t ev Qv ∧
  ∀ xs ev' J H', Qv xs ev' → Rl K M F ev' σ H' ρ → Same (hd M ρ H) (hd M ρ H') → Srv K (hd M ρ H') J xs → R J H'
structure VW' (X : Cx) (M : Fm) (tg e : Expr) (t : VTA) : Prop where
  pi : ∀ F, PI X tg e (LW X.K M F t)
section
variable {X : Cx} {e a b c tg : Expr} {pos : Pos} {M : Fm}
theorem piI {t t' : TI} (h : PI X tg e t) (k : ∀ σ H R, t' σ H R → t σ H R) : PI X tg e t' := ⟨fun pins s σ H R I q => h.run pins s σ H R I (k σ H R q)⟩
theorem srv_list {K : PySem.W.Frag} {G : Hp} {a : Addr} {vs : List V} {xs : List D} (h : G a = some (.lst vs)) (r : Rps K G vs xs) : Srv K G (Itl K a) xs := fun H sm => by
  have hs : SqL K H a vs := SqL.of (sm _ _ h)
  refine ⟨fun i x e => ?_, vs, hs, by rw [r.len]; exact Nat.le_refl _⟩
  obtain ⟨v, h1, h2⟩ := r.get e
  refine ⟨⟨vs, v, hs, h1⟩, fun w H3 y => ?_⟩
  obtain ⟨e3, y⟩ := y
  subst e3
  have : v = w := Option.some.inj (h1.symm.trans (y vs hs))
  subst this
  exact ⟨Same.refl _, fun O _ g => h2.mono g⟩
theorem srv_tup {K : PySem.W.Frag} {G : Hp} {a : Addr} {vs : List V} {xs : List D} (h : SqT K G a vs) (r : Rps K G vs xs) : Srv K G (Itt K a) xs := fun H sm => by
  have hs : SqT K H a vs := same_seqT sm h
  refine ⟨fun i x e => ?_, vs, hs, by rw [r.len]; exact Nat.le_refl _⟩
  obtain ⟨v, h1, h2⟩ := r.get e
  refine ⟨⟨vs, v, hs, h1⟩, fun w H3 y => ?_⟩
  obtain ⟨e3, y⟩ := y
  subst e3
  have : v = w := Option.some.inj (h1.symm.trans (y vs hs))
  subst this
  exact ⟨Same.refl _, fun O _ g => h2.mono g⟩
def rngD (lo : Int) (n : Nat) : List D := (List.range n).map fun i => .int (lo + (i : Nat))
theorem srv_rng {K : PySem.W.Frag} {G : Hp} (lo : Int) (n : Nat) : Srv K G (Itr lo n) (rngD lo n) := fun H sm => by
  refine ⟨fun i x e => ?_, by show n ≤ _; simp [rngD]⟩
  have hi : i < n := by
    have := (List.getElem?_eq_some_iff.mp e).1
    simpa [rngD] using this
  have hx : x = .int (lo + (i : Nat)) := by
    simp [rngD, hi] at e
    exact e.symm
  subst hx
  refine ⟨hi, fun w H3 y => ?_⟩
  obtain ⟨e3, y⟩ := y
  subst e3; subst y
  exact ⟨Same.refl _, fun O _ g => .int _⟩
/-- a list -/
def wL (t : VT) : VTA := fun ev Q => t ev fun d e1 => match d with
  | .list xs => Q xs e1
  | _ => False
def wT (t : VT) : VTA := fun ev Q => t ev fun d e1 => match d with
  | .tuple xs => Q xs e1
  | _ => False
theorem vw_list {t : VT} (h : VE X M e t) : VW' X M tg e (wL t) := ⟨fun F => piI (pi_list (h.pe F)) fun σ H R ⟨ev, ρ, Qv, Rr, q, k⟩ => ⟨ev, ρ, _, Rr, q, fun d e1 v H1 q1 R1 s1 r1 => by
  cases r1 with
  | lst h1 h2 => exact ⟨_, rfl, ⟨_, SqL.of (same_hid_of _ _ h1)⟩, k _ e1 _ H1 q1 R1 s1 (srv_list h1 h2)⟩
  | _ => exact q1.elim⟩⟩
theorem vw_tup {t : VT} (h : VE X M e t) : VW' X M tg e (wT t) := ⟨fun F => piI (pi_tup (h.pe F)) fun σ H R ⟨ev, ρ, Qv, Rr, q, k⟩ => ⟨ev, ρ, _, Rr, q, fun d e1 v H1 q1 R1 s1 r1 => by
  cases r1 with
  | tup h1 h2 => exact ⟨_, rfl, ⟨_, same_seqT same_hid_of h1⟩, k _ e1 _ H1 q1 R1 s1 (srv_tup h1 h2)⟩
  | _ => exact q1.elim⟩⟩
def wR1 (t : VT) : VTA := fun ev Q => t ev fun d e1 => match d with
  | .int j => (-(2 ^ 62) ≤ j ∧ j < 2 ^ 62) ∧ Q (rngD 0 j.toNat) e1
  | _ => False
def wR2 (t u : VT) : VTA := fun ev Q => t ev fun d e1 => u e1 fun d2 e2 => match d, d2 with
  | .int i, .int j => (-(2 ^ 62) ≤ i ∧ i < 2 ^ 62 ∧ -(2 ^ 62) ≤ j ∧ j < 2 ^ 62) ∧ Q (rngD i (j - i).toNat) e2
  | _, _ => False
theorem vw_rng1 {t : VT} {p : Pos} (hg : Gl X "range") (hm : X.mg "range" = none) (h : VE X M a t) (hs : starEach [a] X.env = [(false, eval a X.env)] := by rfl) : VW' X M tg (.Call (.Name "range" p) [a] [] pos) (wR1 t) :=
  ⟨fun F => piI (pi_range1 hg hm (pa_cons (h.pe F) pa_nil (by rw [hs] <;> rfl)) hs) fun σ H R ⟨ev, ρ, Qv, Rr, q, k⟩ => ⟨ev, ρ, _, Rr, q, fun d e1 v H1 q1 R1 s1 r1 => by
    cases d with
    | int j => cases r1; exact ⟨j, rfl, q1.1.1, q1.1.2, k _ e1 _ H1 q1.2 R1 s1 (srv_rng 0 _)⟩
    | _ => exact q1.elim⟩⟩
theorem vw_rng2 {t u : VT} {p : Pos} (hg : Gl X "range") (hm : X.mg "range" = none) (h : VE X M a t) (h2 : VE X M b u) (hs : starEach [a, b] X.env = [(false, eval a X.env), (false, eval b X.env)] := by rfl) (hs2 : starEach [b] X.env = [(false, eval b X.env)] := by rfl) : VW' X M tg (.Call (.Name "range" p) [a, b] [] pos) (wR2 t u) :=
  ⟨fun F => piI (pi_range2 hg hm (pa_cons (h.pe F) (pa_cons (h2.pe F) pa_nil (by rw [hs2] <;> rfl)) (by rw [hs, hs2])) hs hs2) fun σ H R ⟨ev, ρ, Qv, Rr, q, k⟩ => ⟨ev, ρ, _, Rr, q, fun d e1 v H1 q1 R1 s1 r1 => ⟨e1, ρ, _, R1, q1, fun d2 e2 v2 H2 q2 R2 s2 r2 => by
    cases d with
    | int i =>
      cases d2 with
      | int j => cases r1; cases r2; exact ⟨i, j, rfl, q2.1, k _ e2 _ H2 q2.2 R2 (s1.trans s2) (srv_rng i _)⟩
      | _ => exact q2.elim
    | _ => exact q2.elim⟩⟩⟩

/-! ### for -/
def vFor (g : VG) (b : VS) (Z : VEnds) : List D → Ev → Prop
  | [], ev => Z.nx ev
  | x :: xs, ev => g x ev fun e1 => b { nx := vFor g b Z xs, rt := Z.rt, bk := Z.nx, ct := vFor g b Z xs } e1
def vForS (t : VTA) (g : VG) (b : VS) : VS := fun D ev => t ev fun xs e1 => vFor g b D xs e1
theorem vs_for {iter : Expr} {body : List Stmt} {t : VTA} {g : VG} {tb : VS} {vs : List Nat} (hp : PassesOwn (model X.prog X.w) X.A X.env X.xe) (hc : X.calm = true) (hi : VW' X M tg iter t) (hg : VTg X M vs tg g) (hb : VSs X M body tb)
    (hs : ∀ x, foldedSetIterable iter X.env x = pure x := by intro _; rfl) : VSt X M (.For tg iter body [] pos) (vForS t g tb) := by
  refine ⟨fun F => ⟨fun pins s σ H D I ⟨ev, ρ, D', R, h, k⟩ => ?_⟩⟩
  -- the frozen part for the loop: all but the owned lists, chosen when the walk has begun
  refine (ps_for (wi := LW X.K M F t) (g := fun v σ H Q => ∃ F', LG X.K M F' vs g v σ H Q) (tb := fun D σ H => ∃ F', LS X.K M F' tb D σ H) hp hc (hi.pi F) ⟨fun pins s σ H v u Q I r ⟨F', q⟩ => (hg.pg F').run pins s σ H v u Q I r q⟩ ⟨fun pins s σ H D I ⟨F', q⟩ => (hb.ps F').run pins s σ H D I q⟩ hs).run pins s σ H D I ?_
  refine ⟨ev, ρ, _, R, h, fun xs e1 J H1 q1 R1 s1 sv1 => ?_⟩
  -- F': the heap at the start without the owned lists
  let F' : Hp := hid (fun b => ∃ i, ρ i = some b) H1
  have hF : Same F F' := fun b o e => hid_some.mpr ⟨(fun ⟨i, z⟩ => by have q := (R1.ofr i b z).1.symm.trans e; cases q), R1.frz b o e⟩
  have RF : Rl X.K M F' e1 σ H1 ρ := { R1 with
    frz := same_hid_of
    ofr := fun i a z => ⟨hid_in ⟨i, z⟩, (R1.ofr i a z).2⟩ }
  have hG : Same (hd M ρ H1) F' := same_hid_sub fun b z => .inr z
  refine ⟨fun i m σ H => i + m = xs.length ∧ ∃ ev ρ, Rl X.K M F' ev σ H ρ ∧ vFor g tb D' (xs.drop i) ev, ⟨xs.length, Nat.zero_add _, e1, ρ, RF, q1⟩, fun i m σ H ⟨hm, ev2, ρ2, R2, q2⟩ => ?_⟩
  have hsm : Same (hd M ρ H1) H := hG.trans R2.frz
  have hsh : Same (hd M ρ H1) (hd M ρ2 H) := fun b o e => by
    have hb' := hG b o e
    refine hid_some.mpr ⟨fun z => ?_, R2.frz b o hb'⟩
    rcases z with z | ⟨j, z⟩
    · exact (hid_some.mp e).1 (.inl z)
    · rw [(R2.ofr j b z).1] at hb'; cases hb'
  obtain ⟨go, stop⟩ := sv1 H hsm
  by_cases hi' : i < xs.length
  · have hx : xs[i]? = some xs[i] := List.getElem?_eq_getElem hi'
    obtain ⟨g1, g2⟩ := go i _ hx
    rw [List.drop_eq_getElem_cons hi'] at q2
    refine .inr ⟨g1, fun σ H => ∃ ev ρ, Rl X.K M F' ev σ H ρ ∧ vFor g tb D' (xs.drop (i + 1)) ev, fun σ' H' w => ⟨m - 1, by omega, by omega, w⟩, fun v H3 y => ?_⟩
    obtain ⟨s3, r3⟩ := g2 v H3 y
    have R3 := R2.same s3
    refine ⟨F', xs[i], ev2, ρ2, _, R3, r3 (Own M ρ2) R2.tr hsh, q2, fun e4 σ4 H4 ρ4 q4 R4 s4 w4 _ => ⟨F', e4, ρ4, _, R4, q4, ?_⟩⟩
    exact ⟨fun ev σ H ρ q R => ⟨ev, ρ, R, q⟩, fun d v ev σ H ρ q R r => k.rt d v ev σ H ρ q (R.weak hF) r, fun ev σ H ρ q R => k.nx ev σ H ρ q (R.weak hF), fun ev σ H ρ q R => ⟨ev, ρ, R, q⟩⟩
  · have e0 : i = xs.length := by omega
    subst e0
    refine .inl ⟨stop, ?_⟩
    rw [List.drop_length] at q2
    exact k.nx ev2 σ H ρ2 q2 (R2.weak hF)
end
end VL

set_option Elab.async false
set_option linter.all false
set_option maxRecDepth 100000
set_option maxHeartbeats 4000000
/-! The value layer, part E: owned lists, comprehensions, defs, calls. -/
namespace VL
open PySem PySem.Spec PyProof.Rows L2
open Classical

section
variable {X : Cx} {e a b c tg : Expr} {pos : Pos} {M : Fm} {st : Stmt} {rest : List Stmt}
/-! ### owned lists -/
theorem own_list {K : PySem.W.Frag} {H : Hp} {a : Addr} {vs : List V} (h : H a = some (.lst vs)) : tyV K "list" (.ref a) H := Or.inl ⟨rfl, _, SqL.of h⟩
def vAppend (i : Nat) (t : VT) : VS := fun D ev => match sv ev i with
  | .ow _ => t ev fun d e1 => match sv e1 i with
    | .ow ds => ds.length < sizeLine ∧ D.nx (e1.set i (.ow (ds ++ [d])))
    | _ => False
  | _ => False
theorem vs_append {x : Str} {p ap cp : Pos} (i : Nat) {t : VT} (hp : PE X (.Name x p) (tVar i)) (he : VE X M e t)
    (mk : ∀ {te : TE}, PE X e te → PS X (.Expr (.Call (.Attribute (.Name x p) "append" ap) [e] [] cp) pos) (tDrop (tBM X.K "list" rAppend (tVar i) (tCons te tNil)))) :
    VSt X M (.Expr (.Call (.Attribute (.Name x p) "append" ap) [e] [] cp) pos) (vAppend i t) :=
  ⟨fun F => psI (mk (he.pe F)) fun D σ H ⟨ev, ρ, D', R, h, k⟩ => by
    unfold vAppend at h
    cases e0 : sv ev i with
    | ow ds =>
      rw [e0] at h
      obtain ⟨a, vs, h1, h2, h3, h4⟩ := R.getOw e0
      refine ⟨_, h2, own_list h3, ev, ρ, _, R, h, fun d e1 v H1 q1 R1 s1 r1 => ?_⟩
      cases e2 : sv e1 i with
      | ow es =>
        rw [e2] at q1
        obtain ⟨a', vs', g1, g2, g3, g4⟩ := R1.getOw e2
        rw [h1] at g1; cases g1
        obtain ⟨R2, _⟩ := R1.chg h1 ⟨_, e2⟩ (g4.app (.one r1))
        exact ⟨a, vs', v, rfl, rfl, g3, by rw [g4.len]; exact q1.1, k.nx _ σ _ ρ q1.2 R2⟩
      | un => rw [e2] at q1; exact q1.elim
      | fr _ => rw [e2] at q1; exact q1.elim
      | rw _ => rw [e2] at q1; exact q1.elim
    | un => rw [e0] at h; exact h.elim
    | fr _ => rw [e0] at h; exact h.elim
    | rw _ => rw [e0] at h; exact h.elim⟩
theorem mk_append {x : Str} {p ap cp : Pos} {i : Nat} (hp : PE X (.Name x p) (tVar i))
    (hbase : attributeBase (.Name x p) "append" X.env (eval (.Name x p) X.env) = eval (.Name x p) X.env := by rfl)
    (hfew : ((backTo cp (starEach [e] X.env)).all (fun x => !x.1) && (backToKw cp (keywordEach [] X.env)).all (fun x => x.1.isSome)
      && decide ([e].length + ([] : List Keyword).length + (if ([] : List Keyword).isEmpty then 0 else 1) < 30)) = true := by rfl)
    (hline : (ap.endLine == cp.line) = true := by rfl) (hs : starEach [e] X.env = (false, eval e X.env) :: starEach [] X.env := by rfl) (hplain : (backTo cp (starEach [] X.env)).any (·.1) = false := by rfl)
    (hsw : swapsWith (.Call (.Attribute (.Name x p) "append" ap) [e] [] cp) none pos.line X.env = pure false := by rfl) {te : TE} (he : PE X e te) :
    PS X (.Expr (.Call (.Attribute (.Name x p) "append" ap) [e] [] cp) pos) (tDrop (tBM X.K "list" rAppend (tVar i) (tCons te tNil))) :=
  ps_expr (pe_bm PySem.F.plainAttrs_list PySem.F.slot_list_append PySem.F.type_list_append mt_append hp (pa_cons he pa_nil hs) hbase hfew hline hs hplain) hsw
/-- x.pop() -/
def vPop (i : Nat) : VT := fun ev Q => match sv ev i with
  | .ow ds => ∃ d, ds[ds.length - 1]? = some d ∧ Q d (ev.set i (.ow ds.dropLast))
  | _ => False
theorem ve_pop {x : Str} {p ap cp : Pos} (i : Nat) (mk : PE X (.Call (.Attribute (.Name x p) "pop" ap) [] [] cp) (tBM0 X.K "list" rPop (tVar i))) : VE X M (.Call (.Attribute (.Name x p) "pop" ap) [] [] cp) (vPop i) :=
  ⟨fun F => peI mk fun σ H Q ⟨ev, ρ, Qv, R, h, k⟩ => by
    unfold vPop at h
    cases e0 : sv ev i with
    | ow ds =>
      rw [e0] at h
      obtain ⟨d, hd', h⟩ := h
      obtain ⟨a, vs, h1, h2, h3, h4⟩ := R.getOw e0
      obtain ⟨v, g1, g2⟩ := h4.get hd'
      obtain ⟨R2, e2⟩ := R.chg h1 ⟨_, e0⟩ h4.dropLast
      refine ⟨_, h2, own_list h3, a, vs, v, rfl, rfl, h3, by rw [h4.len]; exact g1, k d _ v _ h R2 ?_ ?_⟩
      · rw [e2]; exact Same.refl _
      · rw [e2]; exact g2
    | un => rw [e0] at h; exact h.elim
    | fr _ => rw [e0] at h; exact h.elim
    | rw _ => rw [e0] at h; exact h.elim⟩
theorem mk_pop {x : Str} {p ap cp : Pos} {i : Nat} (hp : PE X (.Name x p) (tVar i))
    (hbase : attributeBase (.Name x p) "pop" X.env (eval (.Name x p) X.env) = eval (.Name x p) X.env := by rfl) (hline : (ap.endLine == cp.line) = true := by rfl) :
    PE X (.Call (.Attribute (.Name x p) "pop" ap) [] [] cp) (tBM0 X.K "list" rPop (tVar i)) :=
  pe_bm0 PySem.F.plainAttrs_list PySem.F.slot_list_pop PySem.F.type_list_pop mt_pop hp hbase hline
/-- x[k] = .. -/
def gSet (i : Nat) (t : VT) : VG := fun d ev Q => match sv ev i with
  | .ow _ => t ev fun k e1 => match k, sv e1 i with
    | .int k, .ow ds => ∃ j, ixN ds.length k = some j ∧ Q (e1.set i (.ow (ds.set j d)))
    | _, _ => False
  | _ => False
theorem vg_set {vs : List Nat} {x : Str} {p : Pos} (i : Nat) {t : VT} (hp : PE X (.Name x p) (tVar i)) (he : VE X M e t)
    (ha : ∀ v, assign (.Subscript (.Name x p) e pos) X.env v = (do
      let ov ← holding [v] (eval (.Name x p) X.env)
      let iv ← holding [v, ov] (eval e X.env)
      standAt pos
      holding [v, ov, iv] (setItem ov iv v)
      release [v, ov, iv] []) := by intro _; rfl) : VTg X M vs (.Subscript (.Name x p) e pos) (gSet i t) :=
  ⟨fun F => pgI (pg_sub hp (he.pe F) set_list ha) fun v σ H Q ⟨d, ev, ρ, Qv, R, r, h, k⟩ => by
    unfold gSet at h
    cases e0 : sv ev i with
    | ow ds =>
      rw [e0] at h
      obtain ⟨a, us, h1, h2, h3, h4⟩ := R.getOw e0
      refine ⟨_, h2, ev, ρ, _, R, h, fun kd e1 kv H1 q1 R1 s1 r1 => ?_⟩
      cases kd with
      | int z =>
        cases r1
        cases e2 : sv e1 i with
        | ow es =>
          rw [e2] at q1
          obtain ⟨j, hj, q1⟩ := q1
          obtain ⟨a', vs', g1, g2, g3, g4⟩ := R1.getOw e2
          rw [h1] at g1; cases g1
          obtain ⟨R2, e3⟩ := R1.chg h1 ⟨_, e2⟩ (g4.set j (r.mono s1))
          exact ⟨a, vs', z, j, rfl, rfl, g3, by rw [g4.len]; exact hj, k _ σ _ ρ q1 R2 (by rw [e3]; exact s1) rfl Fewer.refl⟩
        | un => rw [e2] at q1; exact q1.elim
        | fr _ => rw [e2] at q1; exact q1.elim
        | rw _ => rw [e2] at q1; exact q1.elim
      | _ => exact q1.elim
    | un => rw [e0] at h; exact h.elim
    | fr _ => rw [e0] at h; exact h.elim
    | rw _ => rw [e0] at h; exact h.elim⟩
/-- a, b, .. = x, a list that is looked at -/
def vUnp (n : Nat) (i : Nat) (u : VGs) : VS := fun D ev => match sv ev i with
  | .ow ds => ds.length = n ∧ u ds ev D.nx
  | .fr (.list ds) => ds.length = n ∧ u ds ev D.nx
  | _ => False
theorem vs_unp {vs : List Nat} {es : List Expr} {x : Str} {p tp : Pos} {k n : Nat} {u : VGs} (i : Nat) (hc : X.calm = true) (hp : PE X (.Name x p) (tVar i)) (h : VTgs X M vs es u)
    (mk : ∀ {t : TGs}, PGs X es t → PG X (.Tuple es k tp) (gUnl X.K n t))
    (hs : swapsWithSole [.Tuple es k tp] (.Name x p) pos.line X.env = pure false := by rfl) (hw : swappedStores [.Tuple es k tp] (.Name x p) X.env = pure none := by rfl)
    (h1 : (assignEach [.Tuple es k tp] X.env).map (·.2) = [assign (.Tuple es k tp) X.env] := by rfl) : VSt X M (.Assign [.Tuple es k tp] (.Name x p) pos) (vUnp n i u) :=
  ⟨fun F => psI (ps_asg hp (mk (h.pg F)) hs hw h1) fun D σ H ⟨ev, ρ, D', R, q, kk⟩ => by
    unfold vUnp at q
    cases e0 : sv ev i with
    | ow ds =>
      rw [e0] at q
      obtain ⟨a, us, h1, h2, h3, h4⟩ := R.getOw e0
      exact ⟨_, h2, a, us, rfl, SqL.of h3, by rw [h4.len]; exact q.1, ds, ev, ρ, _, R, h4, q.2, fun e2 σ2 H2 ρ2 q2 R2 s2 w2 _ => kk.nx e2 σ2 H2 ρ2 q2 R2⟩
    | fr d =>
      rw [e0] at q
      obtain ⟨v, h2, h4⟩ := R.getFr e0
      cases h4 with
      | lst h3 h4 => exact ⟨_, h2, _, _, rfl, SqL.of (same_hid_of _ _ h3), by rw [h4.len]; exact q.1, _, ev, ρ, _, R, h4, q.2, fun e2 σ2 H2 ρ2 q2 R2 s2 w2 _ => kk.nx e2 σ2 H2 ρ2 q2 R2⟩
      | _ => exact q.elim
    | un => rw [e0] at q; exact q.elim
    | rw _ => rw [e0] at q; exact q.elim⟩
/-- x += a list -/
def vExt (i : Nat) (t : VT) : VS := fun D ev => match sv ev i with
  | .ow _ => t ev fun d e1 => match d, sv e1 i with
    | .list es, .ow ds => ds.length + es.length ≤ sizeLine ∧ D.nx (e1.set i (.ow (ds ++ es)))
    | _, _ => False
  | _ => False
theorem vs_ext {x : Str} {p : Pos} (i : Nat) {t : VT} (hN : X.N.Nodup) (hi : X.N[i]? = some x) (hx : Loc X.env.scope x) (he : VE X M e t) (hf : X.fn x = true ∨ X.env.scope.names.lookup x = some .local := by first | exact .inl rfl | exact .inr rfl | assumption) :
    VSt X M (.AugAssign (.Name x p) .Add e pos) (vExt i t) :=
  ⟨fun F => psI (ps_aug hN hi hx (he.pe F) (ti := rExt2) iop_ext hf) fun D σ H ⟨ev, ρ, D', R, h, k⟩ => by
    unfold vExt at h
    cases e0 : sv ev i with
    | ow ds0 =>
      rw [e0] at h
      obtain ⟨a, us, h1, h2, h3, h4⟩ := R.getOw e0
      refine ⟨_, h2, ev, ρ, _, R, h, fun d e1 v H1 q1 R1 s1 r1 => ?_⟩
      cases d with
      | list es =>
        cases r1 with
        | lst g3 g4 =>
          cases e2 : sv e1 i with
          | ow ds =>
            rw [e2] at q1
            obtain ⟨a', vs', k1, k2, k3, k4⟩ := R1.getOw e2
            rw [h1] at k1; cases k1
            obtain ⟨R2, e3⟩ := R1.chg h1 ⟨_, e2⟩ (k4.app g4)
            have hset : σ.set i (some (.ref a)) = σ := by
              have := List.getElem?_eq_some_iff.mp h2
              obtain ⟨z1, z2⟩ := this
              rw [← z2]; exact List.set_getElem_self z1
            refine ⟨a, _, vs', _, rfl, rfl, k3, same_hid_of _ _ g3, by rw [k4.len, g4.len]; exact q1.1, ?_⟩
            show D.nx (σ.set i (some (.ref a))) _
            rw [hset]
            exact k.nx _ σ _ ρ q1.2 R2
          | un => rw [e2] at q1; exact q1.elim
          | fr _ => rw [e2] at q1; exact q1.elim
          | rw _ => rw [e2] at q1; exact q1.elim
      | _ => exact q1.elim
    | un => rw [e0] at h; exact h.elim
    | fr _ => rw [e0] at h; exact h.elim
    | rw _ => rw [e0] at h; exact h.elim⟩
end

/-! ### a list that is being made -/
section
variable {K : PySem.W.Frag} {M : Fm} {F : Hp} {ev : Ev} {σ : L2.St} {H : Hp} {ρ : Nat → Option Addr} {a : Addr} {o : HO}
def Fm.add (M : Fm) (a : Addr) : Fm := ⟨fun b => M.B b ∨ b = a, M.β⟩
theorem hd_add : hd (M.add a) ρ H = hd M ρ (rem H a) := by
  funext b
  show hid _ _ b = hid _ _ b
  unfold hid rem Own Fm.add
  by_cases h1 : M.B b <;> by_cases h2 : b = a <;> by_cases h3 : ∃ i, ρ i = some b <;> simp [h1, h2, h3]
theorem Rl.into (R : Rl K M F ev σ (rem H a) ρ) (h : H a = some o) : Rl K (M.add a) (upd F a o) ev σ H ρ := by
  have na : ∀ {i b}, ρ i = some b → b ≠ a := fun {i b} e z => by
    obtain ⟨vs, q⟩ := R.ow i b e
    exact (rem_some.mp q).1 z
  refine ⟨R.len, fun b u e => ?_, fun i b e => ?_, fun b z => ?_, R.inj, R.ex, R.bx, fun i => ?_⟩
  · by_cases hb : b = a
    · rw [hb, upd_same] at e; rw [hb, h]; exact e
    · rw [upd_ne hb] at e; exact (rem_some.mp (R.frz b u e)).2
  · refine ⟨by rw [upd_ne (na e)]; exact (R.ofr i b e).1, fun z => ?_⟩
    rcases z with z | z
    · exact (R.ofr i b e).2 z
    · exact na e z
  · rcases z with z | z
    · exact same_tr same_rem (R.btr b z)
    · rw [z, h]; exact fun y => nomatch y
  · have q := R.sl i
    unfold SlotOk at q ⊢
    rw [hd_add]
    cases e : sv ev i with
    | un => trivial
    | fr d => rw [e] at q; exact q
    | ow ds =>
      rw [e] at q
      obtain ⟨b, vs, h1, h2, h3, h4⟩ := q
      exact ⟨b, vs, h1, h2, (rem_some.mp h3).2, h4⟩
    | rw v => rw [e] at q; exact q
theorem Rl.outof (R : Rl K (M.add a) (upd F a o) ev σ H ρ) (hf : F a = none) (hMa : ¬ M.B a) : Rl K M F ev σ (rem H a) ρ ∧ H a = some o := by
  have ha : H a = some o := R.frz a o upd_same
  have na : ∀ {i b}, ρ i = some b → b ≠ a := fun {i b} e z => by
    have := (R.ofr i b e).1
    rw [z, upd_same] at this; cases this
  refine ⟨⟨R.len, fun b u e => ?_, fun i b e => ?_, fun b z => by rw [rem_ne (fun y => hMa (by rw [← y]; exact z))]; exact R.btr b (.inl z), R.inj, R.ex, R.bx, fun i => ?_⟩, ha⟩
  · have hb : b ≠ a := fun z => by rw [z, hf] at e; cases e
    exact rem_some.mpr ⟨hb, R.frz b u (by rw [upd_ne hb]; exact e)⟩
  · obtain ⟨h1, h2⟩ := R.ofr i b e
    rw [upd_ne (na e)] at h1
    exact ⟨h1, fun z => h2 (.inl z)⟩
  · have q := R.sl i
    unfold SlotOk at q ⊢
    rw [hd_add] at q
    cases e : sv ev i with
    | un => trivial
    | fr d => rw [e] at q; exact q
    | ow ds =>
      rw [e] at q
      obtain ⟨b, vs, h1, h2, h3, h4⟩ := q
      exact ⟨b, vs, h1, h2, rem_some.mpr ⟨na h1, h3⟩, h4⟩
    | rw v => rw [e] at q; exact q
end

/-! ### comprehensions -/
def wipeE (ev : Ev) : List Nat → Ev
  | [] => ev
  | v :: vs => (wipeE ev vs).set v .un
/-- the block's own slots as they were ahead -/
def back (ev e1 : Ev) : List Nat → Ev
  | [] => e1
  | v :: vs => (back ev e1 vs).set v (sv ev v)
section
variable {K : PySem.W.Frag} {M : Fm} {F : Hp} {ev e1 : Ev} {σ σ1 : L2.St} {H H1 : Hp} {ρ ρ1 : Nat → Option Addr} {vs : List Nat}
theorem wipeE_len (ev : Ev) (vs : List Nat) : (wipeE ev vs).length = ev.length := by
  induction vs with
  | nil => rfl
  | cons v r ih => unfold wipeE; rw [List.length_set, ih]
theorem back_len (ev e1 : Ev) (vs : List Nat) : (back ev e1 vs).length = e1.length := by
  induction vs with
  | nil => rfl
  | cons v r ih => unfold back; rw [List.length_set, ih]
theorem sv_set' (i : Nat) (s : SV) (j : Nat) : sv (ev.set i s) j = if j = i ∧ i < ev.length then s else sv ev j := by
  by_cases h : i < ev.length
  · rw [sv_set h]; simp [h]
  · rw [List.set_eq_of_length_le (Nat.le_of_not_lt h)]; simp [h]
theorem sv_wipeE (j : Nat) : sv (wipeE ev vs) j = if j ∈ vs then .un else sv ev j := by
  induction vs with
  | nil => simp [wipeE]
  | cons v r ih =>
    unfold wipeE
    rw [sv_set', ih, wipeE_len]
    by_cases h1 : j = v
    · subst h1
      by_cases h2 : j < ev.length
      · simp [h2]
      · have : sv ev j = .un := by unfold sv; simp [List.getD, List.getElem?_eq_none (Nat.le_of_not_lt h2)]
        simp [h2, this]
    · simp [h1]
theorem sv_back (j : Nat) (hl : ev.length = e1.length) : sv (back ev e1 vs) j = if j ∈ vs then sv ev j else sv e1 j := by
  induction vs with
  | nil => simp [back]
  | cons v r ih =>
    unfold back
    rw [sv_set', ih, back_len]
    by_cases h1 : j = v
    · subst h1
      by_cases h2 : j < e1.length
      · simp [h2]
      · have e2 : sv e1 j = .un := by unfold sv; simp [List.getD, List.getElem?_eq_none (Nat.le_of_not_lt h2)]
        have e3 : sv ev j = .un := by unfold sv; simp [List.getD, List.getElem?_eq_none (by rw [hl]; exact Nat.le_of_not_lt h2)]
        simp [h2, e2, e3]
    · simp [h1]
theorem wipe_get {σ : L2.St} {j : Nat} (h : j ∉ vs) : (wipe σ vs)[j]? = σ[j]? := by
  induction vs with
  | nil => rfl
  | cons v r ih =>
    have h1 : j ≠ v := fun z => h (by simp [z])
    have h2 : j ∉ r := fun z => h (by simp [z])
    unfold wipe
    rw [List.getElem?_set_ne (Ne.symm h1), ih h2]
/-- into a block: its own slots forgotten -/
theorem Rl.wipe (R : Rl K M F ev σ H ρ) (hn : ∀ i ∈ vs, ρ i = none) : Rl K M F (wipeE ev vs) (L2.wipe σ vs) H ρ := by
  refine ⟨by rw [wipeE_len, L2.wipe_length, R.len], R.frz, R.ofr, R.btr, R.inj, fun j a e => by
    rw [sv_wipeE, if_neg (fun z => by rw [hn j z] at e; cases e)]; exact R.ex j a e, R.bx, fun j => ?_⟩
  rw [sv_wipeE]
  by_cases h : j ∈ vs
  · rw [if_pos h]; trivial
  · rw [if_neg h]
    have q := R.sl j
    unfold SlotOk at q ⊢
    rw [wipe_get h]
    exact q
/-- out of it -/
theorem Rl.back (R : Rl K M F ev σ H ρ) (R1 : Rl K M F e1 σ1 H1 ρ) (s : Same (hd M ρ H) (hd M ρ H1)) (hw : L2.wipe σ1 vs = L2.wipe σ vs) (hn : ∀ i ∈ vs, ρ i = none) : Rl K M F (back ev e1 vs) σ H1 ρ := by
  have hl : ev.length = e1.length := by
    have h1 := congrArg List.length hw
    rw [L2.wipe_length, L2.wipe_length] at h1
    rw [R.len, R1.len, h1]
  refine ⟨by rw [back_len, ← hl, R.len], R1.frz, R1.ofr, R1.btr, R1.inj, fun j a e => by
    rw [sv_back j hl, if_neg (fun z => by rw [hn j z] at e; cases e)]; exact R1.ex j a e, R1.bx, fun j => ?_⟩
  rw [sv_back j hl]
  by_cases h : j ∈ vs
  · rw [if_pos h]
    have q := R.sl j
    unfold SlotOk at q ⊢
    cases e : sv ev j with
    | un => trivial
    | fr d => rw [e] at q; exact ⟨q.1, q.2.imp fun v z => ⟨z.1, z.2.mono s⟩⟩
    | ow ds => rw [e] at q; obtain ⟨a, vs', h1, _⟩ := q; rw [hn j h] at h1; cases h1
    | rw v => rw [e] at q; exact ⟨q.1, q.2.imp fun a z => ⟨z.1, s.seq z.2⟩⟩
  · rw [if_neg h]
    have q := R1.sl j
    have e : σ[j]? = σ1[j]? := by rw [← wipe_get (vs := vs) (σ := σ) h, ← hw, wipe_get h]
    unfold SlotOk at q ⊢
    rw [e]
    exact q
end
structure VBs (X : Cx) (M : Fm) (ifs : List Expr) (t : VTB) : Prop where
  pt : ∀ F, PTs X ifs (LB X.K M F t)
def vYes : VTB := fun ev Q => Q true ev
/-- a turn: C is what follows with the list so far -/
def vTurn (g : VG) (tt : VTB) (te : VT) (vs : List Nat) (x : D) (ev : Ev) (acc : List D) (C : List D → Ev → Prop) : Prop :=
  g x (wipeE ev vs) fun e1 => tt e1 fun b e2 => match b with
    | true => te e2 fun y e3 => C (acc ++ [y]) (back ev e3 vs)
    | false => C acc (back ev e2 vs)
def vComp (g : VG) (tt : VTB) (te : VT) (vs : List Nat) (Q : List D → Ev → Prop) : List D → Ev → List D → Prop
  | [], ev, acc => Q acc ev
  | x :: xs, ev, acc => vTurn g tt te vs x ev acc fun acc' ev' => vComp g tt te vs Q xs ev' acc'
def noOw (ev : Ev) (vs : List Nat) : Prop := ∀ i ∈ vs, ∀ ds, sv ev i ≠ .ow ds
def vLc (t : VTA) (g : VG) (tt : VTB) (te : VT) (vs : List Nat) : VTA := fun ev Q => t ev fun xs e1 => xs.length ≤ sizeLine ∧ noOw e1 vs ∧ vComp g tt te vs Q xs e1 []
section
variable {X : Cx} {e a b c tg : Expr} {pos : Pos} {M : Fm} {st : Stmt} {rest : List Stmt}
theorem vbs_nil : VBs X M [] vYes := ⟨fun F => ⟨fun pins s σ H Q I ⟨ev, ρ, Qv, R, h, k⟩ => pts_nil.run pins s σ H Q I (k true ev H h R (Same.refl _))⟩⟩
theorem vbs_one {t : VTB} (h : VB X M c t) : VBs X M [c] t := ⟨fun F => pts_one (h.pt F)⟩
theorem noOw_none {K : PySem.W.Frag} {M : Fm} {F : Hp} {ev : Ev} {σ : L2.St} {H : Hp} {ρ : Nat → Option Addr} {vs : List Nat} (R : Rl K M F ev σ H ρ) (h : noOw ev vs) : ∀ i ∈ vs, ρ i = none := fun i hi => by
  cases e : ρ i with
  | none => rfl
  | some a => obtain ⟨ds, q⟩ := R.ex i a e; exact absurd q (h i hi ds)
end
end VL

set_option Elab.async false
set_option linter.all false
set_option maxRecDepth 100000
set_option maxHeartbeats 4000000
/-! The value layer, part F: comprehensions run; defs and calls. -/
namespace VL
open PySem PySem.Spec PyProof.Rows L2
open Classical

theorem wipe_nil_at {σ : L2.St} {vs : List Nat} {i : Nat} (h : i ∈ vs) : (wipe σ vs)[i]? = none ∨ (wipe σ vs)[i]? = some none := by
  induction vs with
  | nil => exact absurd h (by simp)
  | cons v r ih =>
    unfold wipe
    by_cases e : i = v
    · subst e
      by_cases hl : i < (wipe σ r).length
      · exact .inr (List.getElem?_set_self hl)
      · exact .inl (by simp at hl ⊢; exact hl)
    · rw [List.getElem?_set_ne (Ne.symm e)]
      exact ih (by simpa [e] using h)
theorem wipe_idem {σ : L2.St} {vs : List Nat} : wipe (wipe σ vs) vs = wipe σ vs := by
  refine List.ext_getElem? fun i => ?_
  by_cases h : i ∈ vs
  · have h1 := wipe_nil_at (σ := σ) h
    have h2 := wipe_nil_at (σ := wipe σ vs) h
    have l1 : (wipe (wipe σ vs) vs).length = (wipe σ vs).length := wipe_length _ _
    by_cases hi : i < (wipe σ vs).length
    · rw [List.getElem?_eq_getElem hi] at h1 ⊢
      rw [List.getElem?_eq_getElem (by rw [l1]; exact hi)] at h2 ⊢
      rcases h1 with h1 | h1
      · cases h1
      · rcases h2 with h2 | h2
        · cases h2
        · rw [h1, h2]
    · rw [List.getElem?_eq_none (by omega), List.getElem?_eq_none (by omega)]
  · rw [wipe_get h]
theorem wipe_len2 {σ σ' : L2.St} {vs : List Nat} (h : wipe σ' vs = wipe σ vs) : σ'.length = σ.length := by
  have := congrArg List.length h
  rwa [wipe_length, wipe_length] at this

section
variable {X : Cx} {M : Fm} {F : Hp} {tg iter elt : Expr} {t : VTA} {g : VG} {tt : VTB} {te : VT} {vs : List Nat}
theorem lc_read (σ : L2.St) (H : Hp) (Q : VK) (h : LO X.K M F (vLc t g tt te vs) σ H Q) :
    tLc (LW X.K M F t) (fun v σ H Q => ∃ (B : Addr → Prop) (F' : Hp), LG X.K ⟨B, M.β⟩ F' vs g v σ H Q) (fun σ H Q => ∃ (B : Addr → Prop) (F' : Hp), LB X.K ⟨B, M.β⟩ F' tt σ H Q) (fun σ H Q => ∃ (B : Addr → Prop) (F' : Hp), LE X.K ⟨B, M.β⟩ F' te σ H Q) vs σ H Q := by
  obtain ⟨ev, ρ, Qv, R, h, k⟩ := h
  refine ⟨ev, ρ, _, R, h, fun xs e1 J H1 q1 R1 s1 sv1 L nL => ?_⟩
  obtain ⟨hsz, hno, q1⟩ := q1
  let F' : Hp := hid (fun b => ∃ i, ρ i = some b) H1
  have hF : Same F F' := fun b o e => hid_some.mpr ⟨(fun ⟨i, z⟩ => by have q := (R1.ofr i b z).1.symm.trans e; cases q), R1.frz b o e⟩
  have hML : ¬ M.B L := fun z => R1.btr L z nL
  have RF : Rl X.K M F' e1 σ H1 ρ := { R1 with
    frz := same_hid_of
    ofr := fun i a z => ⟨hid_in ⟨i, z⟩, (R1.ofr i a z).2⟩ }
  have hG : Same (hd M ρ H1) F' := same_hid_sub fun b z => .inr z
  have nF : F' L = none := same_hid_of.free nL
  have hn : ∀ i ∈ vs, ρ i = none := noOw_none R1 hno
  let W : Nat → Nat → Hp → Prop := fun i m Hc => i + m = xs.length ∧ ∃ ev acc ds, Rl X.K M F' ev σ (rem Hc L) ρ ∧ Hc L = some (.lst acc) ∧ Rps X.K (hd M ρ (rem Hc L)) acc ds ∧ ds.length ≤ i ∧ vComp g tt te vs Qv (xs.drop i) ev ds
  refine ⟨W, ⟨xs.length, Nat.zero_add _, e1, [], [], ?_, upd_same, .nil, Nat.le_refl _, q1⟩, fun i m Hc ⟨hm, ev2, acc, ds, R2, hL, rs, hlen, q2⟩ => ?_⟩
  · rw [rem_upd nL]; exact RF
  have hsh : Same (hd M ρ H1) (hd M ρ (rem Hc L)) := fun b o e => by
    have hb' := hG b o e
    refine hid_some.mpr ⟨fun z => ?_, R2.frz b o hb'⟩
    rcases z with z | ⟨j, z⟩
    · exact (hid_some.mp e).1 (.inl z)
    · rw [(R2.ofr j b z).1] at hb'; cases hb'
  have hsm : Same (hd M ρ H1) Hc := (hsh.trans same_hid_of).trans same_rem
  obtain ⟨go, stop⟩ := sv1 Hc hsm
  by_cases hi' : i < xs.length
  · have hx : xs[i]? = some xs[i] := List.getElem?_eq_getElem hi'
    obtain ⟨g1, g2⟩ := go i _ hx
    rw [List.drop_eq_getElem_cons hi'] at q2
    refine .inr ⟨g1, fun Hn => W (i + 1) (m - 1) Hn, fun Hn w => ⟨m - 1, by omega, w⟩, fun v H3 y => ?_⟩
    obtain ⟨s3, r3⟩ := g2 v H3 y
    have R3 : Rl X.K (M.add L) (upd F' L (.lst acc)) ev2 σ Hc ρ := R2.into hL
    have R4 := R3.same s3
    have R5 := R4.wipe hn
    have hO : Same (hd M ρ H1) (hid (Own (M.add L) ρ) Hc) := by
      have : hid (Own (M.add L) ρ) Hc = hd M ρ (rem Hc L) := hd_add
      rw [this]; exact hsh
    have rp := r3 (Own (M.add L) ρ) R3.tr hO
    -- the end of a turn, whatever it kept
    have fin : ∀ (e6 : Ev) (σ4 : L2.St) (H6 : Hp), Rl X.K (M.add L) (upd F' L (.lst acc)) e6 σ4 H6 ρ → Same (hd (M.add L) ρ H3) (hd (M.add L) ρ H6) → wipe σ4 vs = wipe (wipe σ vs) vs →
        Rl X.K M F' (back ev2 e6 vs) σ (rem H6 L) ρ ∧ H6 L = some (.lst acc) ∧ Same (hd M ρ (rem Hc L)) (hd M ρ (rem H6 L)) := fun e6 σ4 H6 R8 s8 w8 => by
      obtain ⟨R9, hl9⟩ := R8.outof nF hML
      have s9 : Same (hd M ρ (rem Hc L)) (hd M ρ (rem H6 L)) := by
        have a1 : Same (hd (M.add L) ρ Hc) (hd (M.add L) ρ H3) := same_hid s3
        have a2 := a1.trans s8
        rwa [hd_add, hd_add] at a2
      exact ⟨R2.back R9 s9 (w8.trans wipe_idem) hn, hl9, s9⟩
    refine ⟨(M.add L).B, _, xs[i], wipeE ev2 vs, ρ, _, R5, rp, q2, fun e4 σ4 H4 ρ4 q4 R6 s4 w4 f4 => ?_⟩
    have e4' : ρ4 = ρ := f4.eq hn
    subst e4'
    refine ⟨w4.trans wipe_idem, (M.add L).B, _, e4, ρ4, _, R6, q4, fun b e5 H5 q5 R7 s5 => ?_⟩
    cases b with
    | true =>
      rw [if_pos rfl]
      refine ⟨(M.add L).B, _, e5, ρ4, _, R7, q5, fun y e6 v6 H6 q6 R8 s6 r6 => ?_⟩
      obtain ⟨R9, hl9, s9⟩ := fin e6 σ4 H6 R8 ((s4.trans s5).trans s6) w4
      refine ⟨acc, hl9, ?_, ?_⟩
      · rw [rs.len]; omega
      · refine ⟨by omega, _, _, ds ++ [y], ?_, upd_same, ?_, by rw [List.length_append, List.length_singleton]; omega, q6⟩
        · rw [rem_upd2]; exact R9
        · rw [rem_upd2]
          refine (rs.mono s9).app (.one ?_)
          have : hd (M.add L) ρ4 H6 = hd M ρ4 (rem H6 L) := hd_add
          rw [← this]; exact r6
    | false =>
      rw [if_neg Bool.false_ne_true]
      obtain ⟨R9, hl9, s9⟩ := fin e5 σ4 H5 R7 (s4.trans s5) w4
      exact ⟨by omega, _, acc, ds, R9, hl9, rs.mono s9, by omega, q5⟩
  · have e0 : i = xs.length := by omega
    subst e0
    refine .inl ⟨stop, ?_⟩
    rw [List.drop_length] at q2
    exact k ds ev2 L acc Hc q2 (R2.weak hF) (s1.trans hsh) hL rs
end
section
variable {X : Cx} {M : Fm} {tg iter elt : Expr} {ifs : List Expr} {scope : Scope} {own : List (Str × Nat)} {pos : Pos} {t : VTA} {g : VG} {tt : VTB} {te : VT}
abbrev gX (K : PySem.W.Frag) (M : Fm) (vs : List Nat) (g : VG) : TG := fun v σ H Q => ∃ (B : Addr → Prop) (F' : Hp), LG K ⟨B, M.β⟩ F' vs g v σ H Q
abbrev tX (K : PySem.W.Frag) (M : Fm) (tt : VTB) : TT := fun σ H Q => ∃ (B : Addr → Prop) (F' : Hp), LB K ⟨B, M.β⟩ F' tt σ H Q
abbrev eX (K : PySem.W.Frag) (M : Fm) (te : VT) : TE := fun σ H Q => ∃ (B : Addr → Prop) (F' : Hp), LE K ⟨B, M.β⟩ F' te σ H Q
theorem pgX {X : Cx} {vs : List Nat} (h : ∀ B, VTg X ⟨B, M.β⟩ vs tg g) : PG X tg (gX X.K M vs g) := ⟨fun pins s' σ H' v u Q I r ⟨B, F', q⟩ => ((h B).pg F').run pins s' σ H' v u Q I r q⟩
theorem ptsX {X : Cx} (h : ∀ B, VBs X ⟨B, M.β⟩ ifs tt) : PTs X ifs (tX X.K M tt) := ⟨fun pins s' σ H' Q I ⟨B, F', q⟩ => ((h B).pt F').run pins s' σ H' Q I q⟩
theorem peX {X : Cx} (h : ∀ B, VE X ⟨B, M.β⟩ elt te) : PE X elt (eX X.K M te) := ⟨fun pins s' σ H' Q I ⟨B, F', q⟩ => ((h B).pe F').run pins s' σ H' Q I q⟩
/-- [elt for tg in iter if ..] -/
theorem vo_lc (hc : X.calm = true) (hN : X.N.Nodup) (hi : VW' X M tg iter t) (ok : BlkOk X.N X.env.scope scope own)
    (hg : ∀ (s : Shared) (H : Hp) (C : Addr) (cl : List (Str × Addr)) (fp : List Addr) (B : Addr → Prop), VTg (X.blk s H scope (compEnvC scope cl C X.env) fp) ⟨B, M.β⟩ (own.map (·.2)) tg g)
    (ht : ∀ (s : Shared) (H : Hp) (C : Addr) (cl : List (Str × Addr)) (fp : List Addr) (B : Addr → Prop), VBs (X.blk s H scope (compEnvC scope cl C X.env) fp) ⟨B, M.β⟩ ifs tt)
    (he : ∀ (s : Shared) (H : Hp) (C : Addr) (cl : List (Str × Addr)) (fp : List Addr) (B : Addr → Prop), VE (X.blk s H scope (compEnvC scope cl C X.env) fp) ⟨B, M.β⟩ elt te)
    (hs : ∀ x, foldedSetIterable iter X.env x = pure x := by intro _; rfl) :
    VO X M (.ListComp elt [⟨tg, iter, ifs, 0⟩] scope pos) (vLc t g tt te (own.map (·.2))) :=
  ⟨fun F => peI (pe_lc (g := gX X.K M (own.map (·.2)) g) (tt := tX X.K M tt) (te := eX X.K M te) hc hN (hi.pi F) ok (fun s H C cl fp => pgX (hg s H C cl fp)) (fun s H C cl fp => ptsX (ht s H C cl fp)) (fun s H C cl fp => peX (he s H C cl fp)) hs) lc_read⟩
/-- y = [..] on one line -/
theorem vs_setLc (i : Nat) {y : Str} {py spos : Pos} (hc : X.calm = true) (hN : X.N.Nodup) (hy : X.N[i]? = some y) (hyl : X.env.scope.names.lookup y = some .local) (hb : M.β = none ∨ i ≠ 0)
    (hsw : swapsWith (.ListComp elt [⟨tg, iter, ifs, 0⟩] scope pos) (some (.Name y py)) spos.line X.env = pure true) (hi : VW' X M tg iter t) (ok : BlkOk X.N X.env.scope scope own)
    (hg : ∀ (s : Shared) (H : Hp) (C : Addr) (cl : List (Str × Addr)) (fp : List Addr) (B : Addr → Prop), VTg (X.blk s H scope (compEnvC scope cl C X.env) fp) ⟨B, M.β⟩ (own.map (·.2)) tg g)
    (ht : ∀ (s : Shared) (H : Hp) (C : Addr) (cl : List (Str × Addr)) (fp : List Addr) (B : Addr → Prop), VBs (X.blk s H scope (compEnvC scope cl C X.env) fp) ⟨B, M.β⟩ ifs tt)
    (he : ∀ (s : Shared) (H : Hp) (C : Addr) (cl : List (Str × Addr)) (fp : List Addr) (B : Addr → Prop), VE (X.blk s H scope (compEnvC scope cl C X.env) fp) ⟨B, M.β⟩ elt te)
    (hs : ∀ x, foldedSetIterable iter X.env x = pure x := by intro _; rfl) :
    VSt X M (.Assign [.Name y py] (.ListComp elt [⟨tg, iter, ifs, 0⟩] scope pos) spos) (vSetO i (vLc t g tt te (own.map (·.2)))) := by
  refine ⟨fun F => ⟨fun pins s σ H D I ⟨ev, ρ, D', R, h, k⟩ => ?_⟩⟩
  have P := ps_setLc (g := gX X.K M (own.map (·.2)) g) (tt := tX X.K M tt) (te := eX X.K M te) hc hN hy hyl hsw (hi.pi F) ok (fun s H C cl fp => pgX (hg s H C cl fp)) (fun s H C cl fp => ptsX (ht s H C cl fp)) (fun s H C cl fp => peX (he s H C cl fp)) hs
  refine P.run pins s σ H D I (lc_read σ H _ ⟨ev, ρ, _, R, h, fun d e1 a vs H1 q1 R1 s1 ha r1 => ?_⟩)
  have hl : i < e1.length := by rw [R1.len, I.len]; exact (List.getElem?_eq_some_iff.mp hy).1
  exact k.nx _ _ H1 _ q1 (R1.setOw hl hb ha r1)
end

/-! ### defs -/
abbrev FnP (K : PySem.W.Frag) (x : Str) (st : Stmt) (f : Addr) (fd : FuncData) : Prop := FunD K x x (defArgs st) (defBody st) (defScope st) [] [] f fd
/-- a promise by data: nothing that stood is changed -/
def LF (K : PySem.W.Frag) (sp : VN) : Sp := fun vs H Q _ => ∃ (B : Addr → Prop) (ds : List D) (Qv : D → Prop), (∀ b, B b → H b ≠ none) ∧ Rps K (hid B H) vs ds ∧ sp ds Qv ∧
  ∀ d v H', Qv d → Same H H' → Rp K (hid B H') v d → Q v H'
def ev0 (N : List Str) (ds : List D) : Ev := ds.map .fr ++ List.replicate (N.length - ds.length) .un
theorem rl_start {K : PySem.W.Frag} {N : List Str} {B : Addr → Prop} {H : Hp} {vs : List V} {ds : List D} (hB : ∀ b, B b → H b ≠ none) (r : Rps K (hid B H) vs ds) : Rl K ⟨B, none⟩ H (ev0 N ds) (L2.start N vs) H (fun _ => none) := by
  have hh : hd ⟨B, none⟩ (fun _ => none) H = hid B H := by
    funext b
    show hid _ _ b = _
    unfold hid Own
    simp
  refine ⟨by unfold ev0 L2.start; simp [r.len], Same.refl _, fun i a e => (nomatch e), hB, fun i j a e => (nomatch e), fun i a e => (nomatch e), fun a e => (nomatch e), fun i => ?_⟩
  unfold SlotOk
  rw [hh]
  by_cases hi : i < ds.length
  · have e1 : sv (ev0 N ds) i = .fr ds[i] := by
      unfold sv ev0
      simp [List.getD, hi, List.getElem?_append_left]
    obtain ⟨v, h1, h2⟩ := r.get (List.getElem?_eq_getElem hi)
    rw [e1]
    refine ⟨rfl, v, ?_, h2⟩
    unfold L2.start
    rw [List.getElem?_append_left (by rw [List.length_map, r.len]; exact hi), List.getElem?_map, h1]
    rfl
  · have e1 : sv (ev0 N ds) i = .un := by
      unfold sv ev0
      simp only [List.getD]
      rw [List.getElem?_append_right (by simpa using hi), List.getElem?_replicate]
      split <;> rfl
    rw [e1]
    trivial
section
variable {P : Program} {w : World} {K : PySem.W.Frag} {mg : Str → Option Value} {base : Heap}
theorem fn_ok {x : Str} {st : Stmt} {f : Addr} {fd : FuncData} {N ps : List Str} {k : Nat} {sp : VN} {t : VS} (F : FnP K x st f fd) (S : FnScope N ps (defScope st)) (len : ∀ ds Q, sp ds Q → ds.length = ps.length)
    (hb : ∀ (cdv : Value) (A : Around) (outer : List Env) (s : Shared) (H : Hp) (E : XK) (B : Addr → Prop), Room k (A.deeper (envOfC x (defScope st) s.heap.objs.size f cdv)) →
      VSs (cxOf CX0 P w K mg base N x (defScope st) f cdv A outer s H E).nox ⟨B, none⟩ (defBody st) t)
    (hq : ∀ ds Q, sp ds Q → t { nx := fun _ => Q .none, rt := fun d _ => Q d } (ev0 N ds)) : FnOk P w K mg base CX0 (k + 1) f fd ps (LF K sp) := by
  refine F.ok S (fun vs H Q E ⟨B, ds, Qv, _, r, h, _⟩ => r.len.trans (len ds Qv h)) fun cdv A outer s H vs Q E hr ⟨B, ds, Qv, hB, r, h, post⟩ => ⟨_, PSs.nox ((hb cdv A outer s H E B hr).ps H), ev0 N ds, fun _ => none, _, rl_start hB r, hq ds Qv h, ?_⟩
  have up : ∀ {ρ : Nat → Option Addr} {H' : Hp}, Same (hd ⟨B, none⟩ ρ H') (hid B H') := same_hid_sub fun b z => .inl z
  exact ⟨fun ev σ H' ρ q R => post .none .non H' q R.frz .non, fun d v ev σ H' ρ q R rr => post d v H' q R.frz (rr.mono up), fun ev σ H' ρ q R => q.elim, fun ev σ H' ρ q R => q.elim⟩
end
section
variable {X : Cx} {M : Fm} {x : Str} {f : Addr} {fd : FuncData} {ps : List Str} {k : Nat} {sp : VN} {e : Expr} {es : List Expr} {t : VTA} {p pos : Pos}
theorem own_hid {M : Fm} {ρ : Nat → Option Addr} {H : Hp} : hid (Own M ρ) H = hd M ρ H := rfl
theorem ve_call (G : FnOk X.prog X.w X.K X.mg X.base CX0 k f fd ps (LF X.K sp)) (hr : Room k X.A) (hg : Gl X x) (hm : X.mg x = some (.ref f)) (hk : PySem.W.keepIn X.K (.ref f) = true) (hb : L2.Binds X.K fd ps []) (ha : VA X M (e :: es) t)
    (hdb : (x == ("__debug__" : Str)) = false := by decide) (he : starEach (e :: es) X.env = (false, eval e X.env) :: starEach es X.env := by rfl) (hpl : (backTo pos (starEach es X.env)).any (·.1) = false := by rfl) :
    VE X M (.Call (.Name x p) (e :: es) [] pos) (vCall sp t) :=
  ⟨fun F => peI (pe_call G hr hg hm hk hb .nil pass0 (ha.pa F) hdb he hpl) fun σ H Q ⟨ev, ρ, Qv, R, h, kk⟩ => ⟨ev, ρ, _, R, h, fun ds e1 vs H1 hn q1 R1 s1 r1 =>
    ⟨Own M ρ, ds, _, R1.tr, by rw [List.append_nil]; exact r1, q1, fun d v H' qd sm rr => kk d e1 v H' qd (R1.same sm) (s1.trans (same_hid sm)) rr⟩⟩⟩
theorem ve_call0 (G : FnOk X.prog X.w X.K X.mg X.base CX0 k f fd ps (LF X.K sp)) (hr : Room k X.A) (hg : Gl X x) (hm : X.mg x = some (.ref f)) (hk : PySem.W.keepIn X.K (.ref f) = true) (hb : L2.Binds X.K fd ps [])
    (hdb : (x == ("__debug__" : Str)) = false := by decide) : VE X M (.Call (.Name x p) [] [] pos) (vCall sp vNil) :=
  ⟨fun F => peI (pe_call0 G hr hg hm hk hb .nil pass0 hdb) fun σ H Q ⟨ev, ρ, Qv, R, h, kk⟩ =>
    ⟨Own M ρ, [], _, R.tr, .nil, h, fun d v H' qd sm rr => kk d ev v H' qd (R.same sm) (same_hid sm) rr⟩⟩
end

/-! ### defs that change the list that is their first argument -/
abbrev VIO := List D → List D → (List D → D → Prop) → Prop
def LFio (K : PySem.W.Frag) (sp : VIO) : Sp := fun vs H Q _ => ∃ (B : Addr → Prop) (a : Addr) (us ws : List V) (xs ds : List D) (Qv : List D → D → Prop), vs = .ref a :: ws ∧ (∀ b, B b → H b ≠ none) ∧ ¬ B a ∧ H a = some (.lst us) ∧
  Rps K (hid B (rem H a)) us xs ∧ Rps K (hid B (rem H a)) ws ds ∧ sp xs ds Qv ∧
  ∀ xs' d v us' H', Qv xs' d → Same (rem H a) H' → H' a = some (.lst us') → Rps K (hid B (rem H' a)) us' xs' → Rp K (hid B (rem H' a)) v d → Q v H'
def ev1 (N : List Str) (xs ds : List D) : Ev := .ow xs :: (ds.map .fr ++ List.replicate (N.length - (ds.length + 1)) .un)
theorem hd_one {B : Addr → Prop} {β : Option Addr} {a : Addr} {H : Hp} {ρ : Nat → Option Addr} (h : ∀ b, (∃ i, ρ i = some b) ↔ b = a) : hd ⟨B, β⟩ ρ H = hid B (rem H a) := by
  funext b
  show hid _ _ b = _
  unfold hid rem Own
  rw [h b]
  by_cases h1 : B b <;> by_cases h2 : b = a <;> simp [h1, h2]
theorem rl_start1 {K : PySem.W.Frag} {N : List Str} {B : Addr → Prop} {H : Hp} {a : Addr} {us ws : List V} {xs ds : List D} (hB : ∀ b, B b → H b ≠ none) (hBa : ¬ B a) (ha : H a = some (.lst us)) (r : Rps K (hid B (rem H a)) us xs) (r2 : Rps K (hid B (rem H a)) ws ds) :
    Rl K ⟨B, some a⟩ (rem H a) (ev1 N xs ds) (L2.start N (.ref a :: ws)) H (fun i => if i = 0 then some a else none) := by
  have hh : hd ⟨B, some a⟩ (fun i => if i = 0 then some a else none) H = hid B (rem H a) := hd_one fun b => ⟨(fun ⟨i, e⟩ => by
    split at e
    · exact (Option.some.inj e).symm
    · cases e), fun e => ⟨0, by rw [if_pos rfl, e]⟩⟩
  have one : ∀ {i b}, (fun i => if i = 0 then some a else none : Nat → Option Addr) i = some b → i = 0 ∧ b = a := fun {i b} e => by
    dsimp only at e
    split at e
    · next z => exact ⟨z, (Option.some.inj e).symm⟩
    · cases e
  refine ⟨by unfold ev1 L2.start; simp [r2.len], same_rem, fun i b e => ?_, fun b z => ?_, fun i j b e1 e2 => (one e1).1.trans (one e2).1.symm, fun i b e => ⟨xs, by rw [(one e).1]; rfl⟩, fun b e => by cases e; exact if_pos rfl, fun i => ?_⟩
  · rw [(one e).2]; exact ⟨rem_at, hBa⟩
  · exact hB b z
  · unfold SlotOk
    rw [hh]
    cases i with
    | zero => exact ⟨a, us, if_pos rfl, rfl, ha, r⟩
    | succ i =>
      by_cases hi : i < ds.length
      · have e1 : sv (ev1 N xs ds) (i + 1) = .fr ds[i] := by
          unfold sv ev1
          simp [List.getD, hi, List.getElem?_append_left]
        obtain ⟨v, h1, h2⟩ := r2.get (List.getElem?_eq_getElem hi)
        rw [e1]
        refine ⟨if_neg (Nat.succ_ne_zero i), v, ?_, h2⟩
        unfold L2.start
        rw [List.getElem?_append_left (by rw [List.length_map, List.length_cons, r2.len]; omega), List.getElem?_map, List.getElem?_cons_succ, h1]
        rfl
      · have e1 : sv (ev1 N xs ds) (i + 1) = .un := by
          unfold sv ev1
          simp only [List.getD, List.getElem?_cons_succ]
          rw [List.getElem?_append_right (by simpa using hi), List.getElem?_replicate]
          split <;> rfl
        rw [e1]
        trivial
section
variable {P : Program} {w : World} {K : PySem.W.Frag} {mg : Str → Option Value} {base : Heap}
/-- what is wanted at the end: the list that slot 0 holds -/
def held (ev : Ev) (Q : List D → Prop) : Prop := match sv ev 0 with
  | .ow xs => Q xs
  | _ => False
def endIO (Q : List D → D → Prop) : VEnds := { nx := fun ev => held ev fun xs => Q xs .none, rt := fun d ev => held ev fun xs => Q xs d }
theorem fn_okIO {x : Str} {st : Stmt} {f : Addr} {fd : FuncData} {N ps : List Str} {k : Nat} {sp : VIO} {t : VS} (F : FnP K x st f fd) (S : FnScope N ps (defScope st)) (len : ∀ xs ds Q, sp xs ds Q → ds.length + 1 = ps.length)
    (hb : ∀ (cdv : Value) (A : Around) (outer : List Env) (s : Shared) (H : Hp) (E : XK) (B : Addr → Prop) (a : Addr), Room k (A.deeper (envOfC x (defScope st) s.heap.objs.size f cdv)) →
      VSs (cxOf CX0 P w K mg base N x (defScope st) f cdv A outer s H E).nox ⟨B, some a⟩ (defBody st) t)
    (hq : ∀ xs ds Q, sp xs ds Q → t (endIO Q) (ev1 N xs ds)) : FnOk P w K mg base CX0 (k + 1) f fd ps (LFio K sp) := by
  refine F.ok S (fun vs H Q E ⟨B, a, us, ws, xs, ds, Qv, e, _, _, _, _, r2, h, _⟩ => by rw [e, List.length_cons, r2.len]; exact len xs ds Qv h) fun cdv A outer s H vs Q E hr ⟨B, a, us, ws, xs, ds, Qv, e, hB, hBa, ha, r, r2, h, post⟩ => ?_
  subst e
  refine ⟨_, PSs.nox ((hb cdv A outer s H E B a hr).ps (rem H a)), ev1 N xs ds, _, _, rl_start1 hB hBa ha r r2, hq xs ds Qv h, ?_⟩
  have key : ∀ {d : D} {v : V} {ev : Ev} {σ : L2.St} {H' : Hp} {ρ : Nat → Option Addr} (q : held ev fun xs => Qv xs d) (R : Rl K ⟨B, some a⟩ (rem H a) ev σ H' ρ) (rr : Rp K (hd ⟨B, some a⟩ ρ H') v d), Q v H' := fun {d v ev σ H' ρ} q R rr => by
    have h0 := R.bx a rfl
    obtain ⟨es, e0⟩ := R.ex 0 a h0
    unfold held at q
    rw [e0] at q
    obtain ⟨b, us', g1, g2, g3, g4⟩ := R.getOw e0
    rw [h0] at g1; cases g1
    have up : Same (hd ⟨B, some a⟩ ρ H') (hid B (rem H' a)) := fun b o z => by
      obtain ⟨z1, z2⟩ := hid_some.mp z
      exact hid_some.mpr ⟨fun y => z1 (.inl y), rem_some.mpr ⟨fun y => z1 (.inr ⟨0, by rw [y]; exact h0⟩), z2⟩⟩
    exact post es d v us' H' q R.frz g3 (g4.mono up) (rr.mono up)
  exact ⟨fun ev σ H' ρ q R => key (d := .none) (v := .non) q R .non, fun d v ev σ H' ρ q R rr => key q R rr, fun ev σ H' ρ q R => q.elim, fun ev σ H' ρ q R => q.elim⟩
end
section
variable {X : Cx} {M : Fm} {x y : Str} {f : Addr} {fd : FuncData} {ps : List Str} {k : Nat} {sp : VIO} {e : Expr} {es : List Expr} {t : VTA} {p p2 pos : Pos}
def vCallIO (i : Nat) (sp : VIO) (t : VTA) : VT := fun ev Q => match sv ev i with
  | .ow _ => t ev fun ds e1 => match sv e1 i with
    | .ow xs => sp xs ds fun xs' d => Q d (e1.set i (.ow xs'))
    | _ => False
  | _ => False
theorem ve_callIO (i : Nat) (G : FnOk X.prog X.w X.K X.mg X.base CX0 k f fd ps (LFio X.K sp)) (hr : Room k X.A) (hg : Gl X x) (hm : X.mg x = some (.ref f)) (hk : PySem.W.keepIn X.K (.ref f) = true) (hb : L2.Binds X.K fd ps []) (hp : PE X (.Name y p2) (tVar i)) (ha : VA X M es t)
    (hdb : (x == ("__debug__" : Str)) = false := by decide) (he : starEach (.Name y p2 :: es) X.env = (false, eval (.Name y p2) X.env) :: starEach es X.env := by rfl) (hpl : (backTo pos (starEach es X.env)).any (·.1) = false := by rfl) :
    VE X M (.Call (.Name x p) (.Name y p2 :: es) [] pos) (vCallIO i sp t) :=
  ⟨fun F => peI (pe_call G hr hg hm hk hb .nil pass0 (pa_cons hp (ha.pa F) he) hdb he hpl) fun σ H Q ⟨ev, ρ, Qv, R, h, kk⟩ => by
    unfold vCallIO at h
    cases e0 : sv ev i with
    | ow ds0 =>
      rw [e0] at h
      obtain ⟨a, us0, h1, h2, h3, h4⟩ := R.getOw e0
      refine ⟨_, h2, ev, ρ, _, R, h, fun ds e1 vs H1 hn q1 R1 s1 r1 => ?_⟩
      cases e2 : sv e1 i with
      | ow xs =>
        rw [e2] at q1
        obtain ⟨a', us, g1, g2, g3, g4⟩ := R1.getOw e2
        rw [h1] at g1; cases g1
        have hh : ∀ {H' : Hp}, hid (fun b => Own M ρ b ∧ b ≠ a) (rem H' a) = hd M ρ H' := fun {H'} => by
          funext b
          show _ = hid _ _ b
          unfold hid rem
          by_cases z1 : b = a
          · have : Own M ρ b := .inr ⟨i, by rw [z1]; exact h1⟩
            simp [z1] at this ⊢
            exact fun z => absurd this z
          · simp [z1]
        refine ⟨fun b => Own M ρ b ∧ b ≠ a, a, us, vs ++ [], xs, ds, _, rfl, fun b z => R1.tr b z.1, fun z => z.2 rfl, g3, by rw [hh]; exact g4, by rw [hh, List.append_nil]; exact r1, q1, fun xs' d v us' H' qd sm ha' ru rv => ?_⟩
        rw [hh] at ru rv
        have eu : upd H' a (.lst us') = H' := by
          funext b
          by_cases z : b = a
          · rw [z, upd_same, ha']
          · rw [upd_ne z]
        have s2 : Same (hd M ρ H1) (hd M ρ H') := by
          rw [← hh (H' := H1), ← hh (H' := H')]
          exact same_hid fun b o z => by
            obtain ⟨z1, z2⟩ := rem_some.mp z
            exact rem_some.mpr ⟨z1, sm b o z⟩
        have R2 : Rl X.K M F (e1.set i (.ow xs')) σ H' ρ := by
          have hl : i < e1.length := sv_len (by rw [e2]; exact fun z => nomatch z)
          refine ⟨by rw [List.length_set]; exact R1.len, fun b o z => sm b o (rem_some.mpr ⟨(fun y => by rw [y, (R1.ofr i a h1).1] at z; cases z), R1.frz b o z⟩), R1.ofr, fun b z => same_tr sm (fun y => R1.btr b z (by rw [rem_ne (fun q => (R1.ofr i a h1).2 (by rw [← q]; exact z))] at y; exact y)), R1.inj, fun j b z => ?_, R1.bx, fun j => ?_⟩
          · rw [sv_set hl]
            by_cases y : j = i
            · rw [if_pos y]; exact ⟨_, rfl⟩
            · rw [if_neg y]; exact R1.ex j b z
          · rw [sv_set hl]
            by_cases y : j = i
            · rw [if_pos y, y]; exact ⟨a, us', h1, g2, ha', ru⟩
            · rw [if_neg y]
              have q := R1.sl j
              unfold SlotOk at q ⊢
              cases e9 : sv e1 j with
              | un => trivial
              | fr d => rw [e9] at q; exact ⟨q.1, q.2.imp fun v z => ⟨z.1, z.2.mono s2⟩⟩
              | ow ds =>
                rw [e9] at q
                obtain ⟨b, ws, k1, k2, k3, k4⟩ := q
                exact ⟨b, ws, k1, k2, sm _ _ (rem_some.mpr ⟨fun z => y (R1.inj j i b k1 (by rw [z]; exact h1)), k3⟩), k4.mono s2⟩
              | rw v => rw [e9] at q; exact ⟨q.1, q.2.imp fun a z => ⟨z.1, s2.seq z.2⟩⟩
        exact kk d _ v H' qd R2 (s1.trans s2) rv
      | un => rw [e2] at q1; exact q1.elim
      | fr _ => rw [e2] at q1; exact q1.elim
      | rw _ => rw [e2] at q1; exact q1.elim
    | un => rw [e0] at h; exact h.elim
    | fr _ => rw [e0] at h; exact h.elim
    | rw _ => rw [e0] at h; exact h.elim⟩
end

/-! ### defs whose first argument is the script -/
abbrev VSC := List Int → List D → (D → Prop) → Prop
def LFsc (K : PySem.W.Frag) (sp : VSC) : Sp := fun vs H Q _ => ∃ (B : Addr → Prop) (a : Addr) (ns : List Int) (ws : List V) (ds : List D) (Qv : D → Prop), vs = .ref a :: ws ∧ (∀ b, B b → H b ≠ none) ∧ SqL K (hid B H) a (ns.map V.int) ∧ Rps K (hid B H) ws ds ∧ sp ns ds Qv ∧
  ∀ d v H', Qv d → Same H H' → Rp K (hid B H') v d → Q v H'
def evS (N : List Str) (ns : List Int) (ds : List D) : Ev := .rw ns :: (ds.map .fr ++ List.replicate (N.length - (ds.length + 1)) .un)
theorem rl_startS {K : PySem.W.Frag} {N : List Str} {B : Addr → Prop} {H : Hp} {a : Addr} {ns : List Int} {ws : List V} {ds : List D} (hB : ∀ b, B b → H b ≠ none) (hs : SqL K (hid B H) a (ns.map V.int)) (r2 : Rps K (hid B H) ws ds) :
    Rl K ⟨B, none⟩ H (evS N ns ds) (L2.start N (.ref a :: ws)) H (fun _ => none) := by
  have hh : hd ⟨B, none⟩ (fun _ => none) H = hid B H := by
    funext b
    show hid _ _ b = _
    unfold hid Own
    simp
  refine ⟨by unfold evS L2.start; simp [r2.len], Same.refl _, fun i a e => (nomatch e), hB, fun i j a e => (nomatch e), fun i a e => (nomatch e), fun a e => (nomatch e), fun i => ?_⟩
  unfold SlotOk
  rw [hh]
  cases i with
  | zero => exact ⟨rfl, a, rfl, hs⟩
  | succ i =>
    by_cases hi : i < ds.length
    · have e1 : sv (evS N ns ds) (i + 1) = .fr ds[i] := by
        unfold sv evS
        simp [List.getD, hi, List.getElem?_append_left]
      obtain ⟨v, h1, h2⟩ := r2.get (List.getElem?_eq_getElem hi)
      rw [e1]
      refine ⟨rfl, v, ?_, h2⟩
      unfold L2.start
      rw [List.getElem?_append_left (by rw [List.length_map, List.length_cons, r2.len]; omega), List.getElem?_map, List.getElem?_cons_succ, h1]
      rfl
    · have e1 : sv (evS N ns ds) (i + 1) = .un := by
        unfold sv evS
        simp only [List.getD, List.getElem?_cons_succ]
        rw [List.getElem?_append_right (by simpa using hi), List.getElem?_replicate]
        split <;> rfl
      rw [e1]
      trivial
theorem fn_okSC {P : Program} {w : World} {K : PySem.W.Frag} {mg : Str → Option Value} {base : Heap} {x : Str} {st : Stmt} {f : Addr} {fd : FuncData} {N ps : List Str} {k : Nat} {sp : VSC} {t : VS} (F : FnP K x st f fd) (S : FnScope N ps (defScope st)) (len : ∀ ns ds Q, sp ns ds Q → ds.length + 1 = ps.length)
    (hb : ∀ (cdv : Value) (A : Around) (outer : List Env) (s : Shared) (H : Hp) (E : XK) (B : Addr → Prop), Room k (A.deeper (envOfC x (defScope st) s.heap.objs.size f cdv)) →
      VSs (cxOf CX0 P w K mg base N x (defScope st) f cdv A outer s H E).nox ⟨B, none⟩ (defBody st) t)
    (hq : ∀ ns ds Q, sp ns ds Q → t { nx := fun _ => Q .none, rt := fun d _ => Q d } (evS N ns ds)) : FnOk P w K mg base CX0 (k + 1) f fd ps (LFsc K sp) := by
  refine F.ok S (fun vs H Q E ⟨B, a, ns, ws, ds, Qv, e, _, _, r2, h, _⟩ => by rw [e, List.length_cons, r2.len]; exact len ns ds Qv h) fun cdv A outer s H vs Q E hr ⟨B, a, ns, ws, ds, Qv, e, hB, hs, r2, h, post⟩ => ?_
  subst e
  have up : ∀ {ρ : Nat → Option Addr} {H' : Hp}, Same (hd ⟨B, none⟩ ρ H') (hid B H') := same_hid_sub fun b z => .inl z
  exact ⟨_, PSs.nox ((hb cdv A outer s H E B hr).ps H), evS N ns ds, fun _ => none, _, rl_startS hB hs r2, hq ns ds Qv h,
    ⟨fun ev σ H' ρ q R => post .none .non H' q R.frz .non, fun d v ev σ H' ρ q R rr => post d v H' q R.frz (rr.mono up), fun ev σ H' ρ q R => q.elim, fun ev σ H' ρ q R => q.elim⟩⟩
def vCallSC (i : Nat) (sp : VSC) (t : VTA) : VT := fun ev Q => match sv ev i with
  | .rw ns => t ev fun ds e1 => sp ns ds fun d => Q d e1
  | _ => False
theorem ve_callSC {X : Cx} {M : Fm} {x y : Str} {f : Addr} {fd : FuncData} {ps : List Str} {k : Nat} {sp : VSC} {es : List Expr} {t : VTA} {p p2 pos : Pos} (i : Nat) (G : FnOk X.prog X.w X.K X.mg X.base CX0 k f fd ps (LFsc X.K sp)) (hr : Room k X.A) (hg : Gl X x) (hm : X.mg x = some (.ref f)) (hk : PySem.W.keepIn X.K (.ref f) = true) (hb : L2.Binds X.K fd ps []) (hp : PE X (.Name y p2) (tVar i)) (ha : VA X M es t)
    (hdb : (x == ("__debug__" : Str)) = false := by decide) (he : starEach (.Name y p2 :: es) X.env = (false, eval (.Name y p2) X.env) :: starEach es X.env := by rfl) (hpl : (backTo pos (starEach es X.env)).any (·.1) = false := by rfl) :
    VE X M (.Call (.Name x p) (.Name y p2 :: es) [] pos) (vCallSC i sp t) :=
  ⟨fun F => peI (pe_call G hr hg hm hk hb .nil pass0 (pa_cons hp (ha.pa F) he) hdb he hpl) fun σ H Q ⟨ev, ρ, Qv, R, h, kk⟩ => by
    unfold vCallSC at h
    cases e0 : sv ev i with
    | rw ns =>
      rw [e0] at h
      obtain ⟨a, h2, h3⟩ := R.getSc e0
      refine ⟨_, h2, ev, ρ, _, R, h, fun ds e1 vs H1 hn q1 R1 s1 r1 => ?_⟩
      exact ⟨Own M ρ, a, ns, vs ++ [], ds, _, rfl, R1.tr, s1.seq h3, by rw [List.append_nil]; exact r1, q1, fun d v H' qd sm rr => kk d e1 v H' qd (R1.same sm) (s1.trans (same_hid sm)) rr⟩
    | un => rw [e0] at h; exact h.elim
    | fr _ => rw [e0] at h; exact h.elim
    | ow _ => rw [e0] at h; exact h.elim⟩
/-- _law_cell, a cell of the script or 0 -/
def sp__law_cell : VSC := fun ns ds Q => match ds with
  | [.int k] => 0 ≤ k ∧ Q (.int (cellOf ns k.toNat))
  | _ => False
theorem fn_cell {P : Program} {w : World} {K : PySem.W.Frag} {mg : Str → Option Value} {base : Heap} {f : Addr} {fd : FuncData} {k : Nat} (G : FnOk P w K mg base CX0 k f fd ["script", "k"] (spCell K)) : FnOk P w K mg base CX0 k f fd ["script", "k"] (LFsc K sp__law_cell) :=
  G.imp fun vs H Q E ⟨B, a, ns, ws, ds, Qv, e, hB, hs, r2, h, post⟩ => by
    subst e
    unfold sp__law_cell at h
    split at h
    · next k =>
      cases r2 with
      | cons r1 r2 =>
        cases r2
        cases r1
        refine ⟨a, ns, k.toNat, by rw [Int.toNat_of_nonneg h.1], same_hid_of.seq hs, post _ _ H h.2 (Same.refl _) (.int _)⟩
    · exact h.elim

/-! ### a def that stands -/
structure Cal (P : Program) (w : World) (K : PySem.W.Frag) (mg : Str → Option Value) (base : Heap) (k : Nat) (x : Str) (ps : List Str) (sp : Sp) (f : Addr) (fd : FuncData) : Prop where
  ok : FnOk P w K mg base CX0 k f fd ps sp
  b : L2.Binds K fd ps []
  kp : PySem.W.keepIn K (.ref f) = true
  m : mg x = some (.ref f)
/-- a name that may be looked at -/
theorem vt_lookP {X : Cx} {M : Fm} {x : Str} {pos : Pos} (i : Nat) (hp : PE X (.Name x pos) (tVar i)) (hs : starEach [.Name x pos] X.env = (false, eval (.Name x pos) X.env) :: starEach [] X.env := by rfl) : VTs X M [.Name x pos] (vLookA i) := ⟨fun F => paI (pa_cons hp pa_nil hs) fun σ H Q ⟨ev, ρ, Qv, R, h, k⟩ => by
  unfold vLookA at h
  cases e : sv ev i with
  | fr d =>
    rw [e] at h
    obtain ⟨v, h1, h2⟩ := R.getFr e
    exact ⟨v, h1, k _ ev _ H h R (Same.refl _) (.cons (.inl h2) .nil)⟩
  | un => rw [e] at h; exact h.elim
  | ow ds =>
    rw [e] at h
    obtain ⟨a, vs, h1, h2, h3, h4⟩ := R.getOw e
    exact ⟨_, h2, k _ ev _ H h R (Same.refl _) (.cons (.inr ⟨a, vs, ds, rfl, rfl, h3, h4⟩) .nil)⟩
  | rw _ => rw [e] at h; exact h.elim⟩
/-- a, b, c = x, y, z of plain local names -/
def vPar3 (i j l : Nat) (ta tb tc : VT) : VS := fun D ev => ta ev fun d e1 => tb e1 fun d2 e2 => tc e2 fun d3 e3 => D.nx (((e3.set i (.fr d)).set j (.fr d2)).set l (.fr d3))
theorem vs_par3 {X : Cx} {M : Fm} {a b c : Expr} {pos : Pos} (i j l : Nat) {x y z : Str} {ta tb tc : VT} {px py pz pt : Pos} {kt k2 pt2} (hc : X.calm = true) (hN : X.N.Nodup) (hi : X.N[i]? = some x) (hj : X.N[j]? = some y) (hl : X.N[l]? = some z) (hij : i ≠ j) (hil : i ≠ l) (hjl : j ≠ l) (hb : M.β = none ∨ (i ≠ 0 ∧ j ≠ 0 ∧ l ≠ 0))
    (hx : X.env.scope.names.lookup x = some .local) (hy : X.env.scope.names.lookup y = some .local) (hz : X.env.scope.names.lookup z = some .local) (ha : VE X M a ta) (hb2 : VE X M b tb) (hc2 : VE X M c tc)
    (hw : swappedStores [.Tuple [.Name x px, .Name y py, .Name z pz] kt pt] (.Tuple [a, b, c] k2 pt2) X.env = pure (some [x, y, z]))
    (hs : swapsWithSole [.Tuple [.Name x px, .Name y py, .Name z pz] kt pt] (.Tuple [a, b, c] k2 pt2) pos.line X.env = pure false := by rfl)
    (hq : starEach [a, b, c] X.env = (false, eval a X.env) :: starEach [b, c] X.env := by rfl) (hq2 : starEach [b, c] X.env = (false, eval b X.env) :: starEach [c] X.env := by rfl) (hq3 : starEach [c] X.env = (false, eval c X.env) :: starEach [] X.env := by rfl) :
    VSt X M (.Assign [.Tuple [.Name x px, .Name y py, .Name z pz] kt pt] (.Tuple [a, b, c] k2 pt2) pos) (vPar3 i j l ta tb tc) := by
  refine ⟨fun F => ⟨fun pins s σ H D I ⟨ev, ρ, D', R, h, k⟩ => (ps_par3 hc hN hi hj hl hij hil hjl hx hy hz (pa_cons (ha.pe F) (pa_cons (hb2.pe F) (pa_cons (hc2.pe F) pa_nil hq3) hq2) hq) hw hs).run pins s σ H D I ?_⟩⟩
  refine ⟨ev, ρ, _, R, h, fun d e1 v H1 q1 R1 s1 r1 => ⟨e1, ρ, _, R1, q1, fun d2 e2 v2 H2 q2 R2 s2 r2 => ⟨e2, ρ, _, R2, q2, fun d3 e3 v3 H3 q3 R3 s3 r3 => ⟨v, v2, v3, rfl, ?_⟩⟩⟩⟩
  have l1 : i < e3.length := by rw [R3.len, I.len]; exact (List.getElem?_eq_some_iff.mp hi).1
  have l2 : j < e3.length := by rw [R3.len, I.len]; exact (List.getElem?_eq_some_iff.mp hj).1
  have l3 : l < e3.length := by rw [R3.len, I.len]; exact (List.getElem?_eq_some_iff.mp hl).1
  have up : ∀ {ρ' : Nat → Option Addr} (i : Nat), Same (hd M ρ' H3) (hd M (put ρ' i none) H3) := fun {ρ'} i => same_hid_sub fun b z => own_put_none z
  have R4 := R3.setFr l1 (hb.imp id (·.1)) ((r1.mono s2).mono s3)
  have R5 := R4.setFr (by simpa using l2) (hb.imp id (·.2.1)) ((r2.mono s3).mono (up i))
  exact k.nx _ _ H3 _ q3 (R5.setFr (by simpa using l3) (hb.imp id (·.2.2)) ((r3.mono (up i)).mono (up j)))
end VL

set_option Elab.async false
set_option linter.all false
set_option maxRecDepth 100000
set_option maxHeartbeats 4000000
/-! The value layer, part G: operators and built-ins by data. -/
namespace VL
open PySem PySem.Spec PyProof.Rows L2
open Classical

section
variable {K : PySem.W.Frag} {O : Addr → Prop} {H H' : Hp} {v : V} {vs : List V} {i : Int} {b : Bool} {ds : List D} {d : D}
theorem rt_int (h : RpT K O H v (.int i)) : v = .int i := by
  rcases h with h | ⟨_, _, _, _, e, _⟩
  · cases h; rfl
  · cases e
theorem rt_bl (h : RpT K O H v (.bool b)) : v = .bl b := by
  rcases h with h | ⟨_, _, _, _, e, _⟩
  · cases h; rfl
  · cases e
theorem rt_non (h : RpT K O H v .none) : v = .non := by
  rcases h with h | ⟨_, _, _, _, e, _⟩
  · cases h; rfl
  · cases e
theorem rt_lst (h : RpT K O H v (.list ds)) : ∃ a xs, v = .ref a ∧ H a = some (.lst xs) ∧ Rps K (hid O H) xs ds := by
  rcases h with h | ⟨a, xs, es, e1, e2, h1, h2⟩
  · cases h with
    | lst h1 h2 => exact ⟨_, _, rfl, same_hid_of _ _ h1, h2⟩
  · cases e2; exact ⟨a, xs, e1, h1, h2⟩
theorem rt_tup (h : RpT K O H v (.tuple ds)) : ∃ a xs, v = .ref a ∧ SqT K (hid O H) a xs ∧ Rps K (hid O H) xs ds := by
  rcases h with h | ⟨_, _, _, _, e, _⟩
  · cases h with
    | tup h1 h2 => exact ⟨_, _, rfl, h1, h2⟩
  · cases e
theorem rt_dp (h : RpT K O H v d) : Dp K H v d := by
  rcases h with h | ⟨a, xs, es, rfl, rfl, h1, h2⟩
  · exact (h.mono same_hid_of).dp
  · exact .lst (SqL.of h1) (h2.mono same_hid_of).dp
/-- a new object that the hidden ones do not meet -/
theorem hid_new {p : Addr} {o : HO} (tr : ∀ b, O b → H b ≠ none) (n : H p = none) : hid O (upd H p o) p = some o := hid_some.mpr ⟨fun z => tr p z n, upd_same⟩
theorem new_tup {p : Addr} (tr : ∀ b, O b → H b ≠ none) (n : H p = none) (r : Rps K (hid O H) vs ds) : Rp K (hid O (upd H p (.tup vs))) (.ref p) (.tuple ds) := .tup (.inl (.inl (hid_new tr n))) (r.mono (same_hid (same_upd n)))
theorem new_lst {p : Addr} (tr : ∀ b, O b → H b ≠ none) (n : H p = none) (r : Rps K (hid O H) vs ds) : Rp K (hid O (upd H p (.lst vs))) (.ref p) (.list ds) := .lst (hid_new tr n) (r.mono (same_hid (same_upd n)))
end

/-! ### arithmetic -/
def mulOk (i j : Int) : Prop := (-18446744073709551616 < i ∧ i < 18446744073709551616) ∨ (-18446744073709551616 < j ∧ j < 18446744073709551616) ∨ CMulX i j
def divOk (j : Int) : Prop := j ≠ 0 ∧ ((-18446744073709551616 < j ∧ j < 18446744073709551616) ∨ j.natAbs.log2 < 9000)
def shlOk (i j : Int) : Prop := 0 ≤ j ∧ j ≤ 1000000 ∧ (-18446744073709551616 < i ∧ i < 18446744073709551616)
theorem mulOk.ok {i j : Int} (h : mulOk i j) : IntMulOk i j := by
  rcases h with h | h | h
  · exact CMul.ok (.inl (by have e : (2 : Int) ^ 64 = 18446744073709551616 := by decide
                            rw [e]; exact h))
  · exact CMul.ok (.inr (by have e : (2 : Int) ^ 64 = 18446744073709551616 := by decide
                            rw [e]; exact h))
  · exact h.ok
theorem divOk.log {j : Int} (h : divOk j) : j.natAbs.log2 < 9000 := by
  rcases h.2 with h1 | h1
  · have h2 : j.natAbs < 2 ^ 64 := by
      have e : (2 : Nat) ^ 64 = 18446744073709551616 := by decide
      rw [e]; omega
    have := PySem.Flt.log2_lt_of (by decide : 0 < 64) h2
    omega
  · exact h1
section
variable {X : Cx}
theorem op_mulV : OpR X (binaryOp .Mult) (rI mulOk fun i j => .int (i * j)) := opI fun _ _ _ _ _ _ _ hc q => mul_int q hc.ok
theorem op_fdivV : OpR X (binaryOp .FloorDiv) (rI (fun _ j => divOk j) fun i j => .int (i.fdiv j)) := opI fun _ _ _ _ _ _ _ hc q => floordiv_int hc.1 q (.inl (PyProof.noPylong_of_log2 hc.log))
theorem op_modV : OpR X (binaryOp .Mod) (rI (fun _ j => j ≠ 0) fun i j => .int (i.fmod j)) := op_modN
theorem iop_mulV : OpR X (inplaceOp .Mult) (rI mulOk fun i j => .int (i * j)) := opI fun _ _ _ _ _ _ _ hc q => imul_int q hc.ok
theorem iop_fdivV : OpR X (inplaceOp .FloorDiv) (rI (fun _ j => divOk j) fun i j => .int (i.fdiv j)) := opI fun _ _ _ _ _ _ _ hc q => ifloordiv_int hc.1 q (.inl (PyProof.noPylong_of_log2 hc.log))
theorem shl64 {i j : Int} (h : shlOk i j) : i.natAbs < 2 ^ 64 := by
  have h2 := h.2.2
  have e : (2 : Nat) ^ 64 = 18446744073709551616 := by decide
  rw [e]; omega
theorem op_shlV : OpR X (binaryOp .LShift) (rI shlOk fun i j => .int (i * 2 ^ j.toNat)) := opI fun _ _ _ _ _ _ _ hc q => lshift_int_small hc.1 hc.2.1 (shl64 hc) q
theorem op_powV : OpR X (binaryOp .Pow) (rI shlOk fun i j => .int (i ^ j.toNat)) := opI fun _ _ _ _ _ _ _ hc q => pow_int_small hc.1 hc.2.1 (shl64 hc) q
end
/-- two ints -/
def d2 (C : Int → Int → Prop) (g : Int → Int → D) : V2 := fun x y Q => match x, y with
  | .int i, .int j => C i j ∧ Q (g i j)
  | _, _ => False
def d20 (g : Int → Int → D) : V2 := fun x y Q => match x, y with
  | .int i, .int j => Q (g i j)
  | _, _ => False
section
variable {K : PySem.W.Frag}
theorem ov_I {C : Int → Int → Prop} {g : Int → Int → Int} : OpV K (rI C fun i j => .int (g i j)) (d2 C fun i j => .int (g i j)) := fun O H x y dx dy Q Qv tr rx ry h k => by
  cases dx with
  | int i =>
    cases dy with
    | int j => exact ⟨i, j, rt_int rx, rt_int ry, h.1, k _ H _ h.2 (Same.refl _) (.int _)⟩
    | _ => exact h.elim
  | _ => exact h.elim
theorem ov_I0 {g : Int → Int → Int} : OpV K (rI0 fun i j => .int (g i j)) (d20 fun i j => .int (g i j)) := fun O H x y dx dy Q Qv tr rx ry h k => by
  cases dx with
  | int i =>
    cases dy with
    | int j => exact ⟨i, j, rt_int rx, rt_int ry, k _ H _ h (Same.refl _) (.int _)⟩
    | _ => exact h.elim
  | _ => exact h.elim
theorem ov_B0 {g : Int → Int → Bool} : OpV K (rI0 fun i j => .bl (g i j)) (d20 fun i j => .bool (g i j)) := fun O H x y dx dy Q Qv tr rx ry h k => by
  cases dx with
  | int i =>
    cases dy with
    | int j => exact ⟨i, j, rt_int rx, rt_int ry, k _ H _ h (Same.refl _) (.bl _)⟩
    | _ => exact h.elim
  | _ => exact h.elim
theorem OpV.or {r r' : R2} {rv rv' : V2} (h : OpV K r rv) (h' : OpV K r' rv') : OpV K (fun x y H Q => r x y H Q ∨ r' x y H Q) (fun x y Q => rv x y Q ∨ rv' x y Q) := fun O H x y dx dy Q Qv tr rx ry q k => by
  rcases q with q | q
  · exact .inl (h O H x y dx dy Q Qv tr rx ry q k)
  · exact .inr (h' O H x y dx dy Q Qv tr rx ry q k)
theorem OpV.imp {r : R2} {rv rv' : V2} (h : OpV K r rv) (k : ∀ x y Q, rv' x y Q → rv x y Q) : OpV K r rv' := fun O H x y dx dy Q Qv tr rx ry q kk => h O H x y dx dy Q Qv tr rx ry (k _ _ _ q) kk
/-- tuples joined -/
def dCatT : V2 := fun x y Q => match x, y with
  | .tuple a, .tuple b => a.length + b.length ≤ sizeLine ∧ Q (.tuple (a ++ b))
  | _, _ => False
theorem ov_catT : OpV K (rCatA K) dCatT := fun O H x y dx dy Q Qv tr rx ry h k => by
  cases dx with
  | tuple a =>
    cases dy with
    | tuple b =>
      obtain ⟨p, xs, rfl, hp, r1⟩ := rt_tup rx
      obtain ⟨q, ys, rfl, hq, r2⟩ := rt_tup ry
      refine ⟨p, q, xs, ys, rfl, rfl, same_seqT same_hid_of hp, same_seqT same_hid_of hq, by rw [r1.len, r2.len]; exact h.1, fun e => ?_, fun e e2 => ?_, fun e e2 l n => ?_⟩
      · have ea : a = [] := r1.nil_iff.mp e
        subst ea
        exact k _ H _ h.2 (Same.refl _) (.tup hq r2)
      · have eb : b = [] := r2.nil_iff.mp e2
        subst eb
        have h2 := h.2
        rw [List.append_nil] at h2
        exact k _ H _ h2 (Same.refl _) (.tup hp r1)
      · exact k _ _ _ h.2 (same_upd n) (new_tup tr n (r1.app r2))
    | _ => exact h.elim
  | _ => exact h.elim
/-- lists joined: a new list -/
def dCat : V2 := fun x y Q => match x, y with
  | .list a, .list b => a.length + b.length ≤ sizeLine ∧ Q (.list (a ++ b))
  | _, _ => False
theorem ov_cat : OpV K rCat dCat := fun O H x y dx dy Q Qv tr rx ry h k => by
  cases dx with
  | list a =>
    cases dy with
    | list b =>
      obtain ⟨p, xs, rfl, hp, r1⟩ := rt_lst rx
      obtain ⟨q, ys, rfl, hq, r2⟩ := rt_lst ry
      exact ⟨p, q, xs, ys, rfl, rfl, hp, hq, by rw [r1.len, r2.len]; exact h.1, fun l n => k _ _ _ h.2 (same_upd n) (new_lst tr n (r1.app r2))⟩
    | _ => exact h.elim
  | _ => exact h.elim
/-- x + y -/
def dAdd : V2 := fun x y Q => match x, y with
  | .int i, .int j => Q (.int (i + j))
  | .tuple a, .tuple b => a.length + b.length ≤ sizeLine ∧ Q (.tuple (a ++ b))
  | .list a, .list b => a.length + b.length ≤ sizeLine ∧ Q (.list (a ++ b))
  | _, _ => False
abbrev rAddA (K : PySem.W.Frag) : R2 := fun x y H Q => rI0 (fun i j => .int (i + j)) x y H Q ∨ (rCatA K x y H Q ∨ rCat x y H Q)
theorem ov_add : OpV K (rAddA K) dAdd := (ov_I0.or (ov_catT.or ov_cat)).imp fun x y Q h => by
  unfold dAdd at h
  cases x <;> cases y <;> first | exact h.elim | exact .inl h | exact .inr (.inl h) | exact .inr (.inr h)
/-- x * y -/
def dMul : V2 := fun x y Q => match x, y with
  | .int i, .int j => mulOk i j ∧ Q (.int (i * j))
  | .tuple a, .int k => (a ≠ [] ∧ 2 ≤ k ∧ k ≤ 1000 ∧ a.length ≤ 1000) ∧ Q (.tuple (List.replicate k.toNat a).flatten)
  | _, _ => False
abbrev rMulA (K : PySem.W.Frag) : R2 := fun x y H Q => rI mulOk (fun i j => .int (i * j)) x y H Q ∨ rRepT K x y H Q
theorem ov_mul : OpV K (rMulA K) dMul := fun O H x y dx dy Q Qv tr rx ry h k => by
  cases dx with
  | int i =>
    cases dy with
    | int j => exact .inl ⟨i, j, rt_int rx, rt_int ry, h.1, k _ H _ h.2 (Same.refl _) (.int _)⟩
    | _ => exact h.elim
  | tuple a =>
    cases dy with
    | int j =>
      obtain ⟨p, xs, rfl, hp, r1⟩ := rt_tup rx
      obtain ⟨⟨h1, h2, h3, h4⟩, h5⟩ := h
      exact .inr ⟨p, j, xs, rfl, rt_int ry, same_seqT same_hid_of hp, fun z => h1 (r1.nil_iff.mp z), h2, h3, by rw [r1.len]; exact h4, fun l n => k _ _ _ h5 (same_upd n) (new_tup tr n (r1.flatten _))⟩
    | _ => exact h.elim
  | _ => exact h.elim
/-! ### comparisons -/
def dEq : V2 := fun x y Q => match x, y with
  | .int i, .int j => Q (.bool (decide (i = j)))
  | x, y => (SeqAt.shaped x = true ∧ SeqAt.shaped y = true) ∧ Q (.bool (PyData.eqv x y))
def dNe : V2 := fun x y Q => match x, y with
  | .int i, .int j => Q (.bool (!decide (i = j)))
  | x, y => (SeqAt.shaped x = true ∧ SeqAt.shaped y = true) ∧ Q (.bool (!PyData.eqv x y))
theorem shaped_int (i : Int) : SeqAt.shaped (.int i) = true := by simp [SeqAt.shaped, PyData.canLay0, PyData.depth]
theorem eqv_int (i j : Int) : PyData.eqv (.int i) (.int j) = decide (i = j) := by
  rw [PyData.eqv, Bool.beq_eq_decide_eq]
theorem ov_eq : OpV K (rEqD K) dEq := fun O H x y dx dy Q Qv tr rx ry h k => by
  have go : SeqAt.shaped dx = true ∧ SeqAt.shaped dy = true ∧ Qv (.bool (PyData.eqv dx dy)) := by
    unfold dEq at h
    split at h
    · exact ⟨shaped_int _, shaped_int _, by rw [eqv_int]; exact h⟩
    · exact ⟨h.1.1, h.1.2, h.2⟩
  exact ⟨dx, dy, rt_dp rx, rt_dp ry, go.1, go.2.1, k _ H _ go.2.2 (Same.refl _) (.bl _)⟩
theorem ov_ne : OpV K (rNeD K) dNe := fun O H x y dx dy Q Qv tr rx ry h k => by
  have go : SeqAt.shaped dx = true ∧ SeqAt.shaped dy = true ∧ Qv (.bool (!PyData.eqv dx dy)) := by
    unfold dNe at h
    split at h
    · exact ⟨shaped_int _, shaped_int _, by rw [eqv_int]; exact h⟩
    · exact ⟨h.1.1, h.1.2, h.2⟩
  exact ⟨dx, dy, rt_dp rx, rt_dp ry, go.1, go.2.1, k _ H _ go.2.2 (Same.refl _) (.bl _)⟩
/-- is -/
def isN : D → Bool
  | .none => true
  | _ => false
def dIsN : V2 := fun x y Q => match y with
  | .none => Q (.bool (isN x))
  | _ => False
def dNotN : V2 := fun x y Q => match y with
  | .none => Q (.bool (!isN x))
  | _ => False
theorem rp_isN {H : Hp} {O : Addr → Prop} {v : V} {d : D} (h : RpT K O H v d) : decide (v = .non) = isN d := by
  rcases h with h | ⟨a, xs, ds, rfl, rfl, _, _⟩
  · cases h <;> simp [isN]
  · simp [isN]
abbrev rIsN : R2 := fun x y H Q => y = .non ∧ Q (.bl (decide (x = .non))) H
abbrev rNotN : R2 := fun x y H Q => y = .non ∧ Q (.bl (!decide (x = .non))) H
theorem ov_isN : OpV K rIsN dIsN := fun O H x y dx dy Q Qv tr rx ry h k => by
  cases dy with
  | none => exact ⟨rt_non ry, by rw [rp_isN rx]; exact k _ H _ h (Same.refl _) (.bl _)⟩
  | _ => exact h.elim
theorem ov_notN : OpV K rNotN dNotN := fun O H x y dx dy Q Qv tr rx ry h k => by
  cases dy with
  | none => exact ⟨rt_non ry, by rw [rp_isN rx]; exact k _ H _ h (Same.refl _) (.bl _)⟩
  | _ => exact h.elim
def dIsB : V2 := fun x y Q => match x, y with
  | .bool a, .bool b => Q (.bool (decide (a = b)))
  | _, _ => False
def dNotB : V2 := fun x y Q => match x, y with
  | .bool a, .bool b => Q (.bool (!decide (a = b)))
  | _, _ => False
theorem ov_isB : OpV K rIsB dIsB := fun O H x y dx dy Q Qv tr rx ry h k => by
  cases dx with
  | bool a =>
    cases dy with
    | bool b => exact ⟨a, b, rt_bl rx, rt_bl ry, k _ H _ h (Same.refl _) (.bl _)⟩
    | _ => exact h.elim
  | _ => exact h.elim
theorem ov_notB : OpV K rNotB dNotB := fun O H x y dx dy Q Qv tr rx ry h k => by
  cases dx with
  | bool a =>
    cases dy with
    | bool b => exact ⟨a, b, rt_bl rx, rt_bl ry, k _ H _ h (Same.refl _) (.bl _)⟩
    | _ => exact h.elim
  | _ => exact h.elim
/-! ### in -/
/-- an int in a tuple of ints; any data in a list of data -/
def dInI (neg : Bool) : V2 := fun x y Q => match x, y with
  | .int i, .tuple ds => ∃ ns : List Int, ds = ns.map .int ∧ Q (.bool (if neg then !decide (i ∈ ns) else decide (i ∈ ns)))
  | x, .list ds => (SeqAt.shaped x = true ∧ SeqAt.shaped (.list ds) = true) ∧ Q (.bool (if neg then !ds.any fun z => PyData.eqv z x else ds.any fun z => PyData.eqv z x))
  | _, _ => False
theorem inV_ints (i : Int) (ns : List Int) : inV (.int i) (ns.map V.int) = decide (i ∈ ns) := by
  unfold inV
  rw [List.any_map, Bool.eq_iff_iff, List.any_eq_true, decide_eq_true_eq]
  constructor
  · rintro ⟨x, h1, h2⟩
    have : eqV (.int x) (.int i) = (x == i) := rfl
    have e : x = i := by simpa [this] using h2
    exact e ▸ h1
  · intro h
    exact ⟨i, h, by show eqV (.int i) (.int i) = true; simp [eqV]⟩
theorem flat_ints (ns : List Int) : (ns.map V.int).all flatV = true := by
  induction ns with
  | nil => rfl
  | cons n ns ih => rw [List.map_cons, List.all_cons, ih]; rfl
theorem ov_in : OpV K (fun x y H Q => rIn K false x y H Q ∨ rInD K x y H Q) (dInI false) := fun O H x y dx dy Q Qv tr rx ry h k => by
  cases dy with
  | tuple ds =>
    cases dx with
    | int i =>
      obtain ⟨ns, rfl, q⟩ := h
      obtain ⟨p, xs, rfl, hp, r1⟩ := rt_tup ry
      have e := r1.ints
      subst e
      have := rt_int rx
      subst this
      refine .inl ⟨p, _, rfl, .inr (same_seqT same_hid_of hp), rfl, flat_ints ns, ?_⟩
      rw [inV_ints]
      exact k _ H _ q (Same.refl _) (.bl _)
    | _ => exact h.elim
  | list ds =>
    have h' : (SeqAt.shaped dx = true ∧ SeqAt.shaped (.list ds) = true) ∧ Qv (.bool (ds.any fun z => PyData.eqv z dx)) := by
      unfold dInI at h; cases dx <;> exact h
    exact .inr ⟨dx, ds, rt_dp rx, rt_dp ry, h'.1.1, h'.1.2, k _ H _ h'.2 (Same.refl _) (.bl _)⟩
  | _ => cases dx <;> exact h.elim
theorem ov_notIn : OpV K (fun x y H Q => rIn K true x y H Q ∨ rNotInD K x y H Q) (dInI true) := fun O H x y dx dy Q Qv tr rx ry h k => by
  cases dy with
  | tuple ds =>
    cases dx with
    | int i =>
      obtain ⟨ns, rfl, q⟩ := h
      obtain ⟨p, xs, rfl, hp, r1⟩ := rt_tup ry
      have e := r1.ints
      subst e
      have := rt_int rx
      subst this
      refine .inl ⟨p, _, rfl, .inr (same_seqT same_hid_of hp), rfl, flat_ints ns, ?_⟩
      rw [inV_ints]
      exact k _ H _ q (Same.refl _) (.bl _)
    | _ => exact h.elim
  | list ds =>
    have h' : (SeqAt.shaped dx = true ∧ SeqAt.shaped (.list ds) = true) ∧ Qv (.bool (!ds.any fun z => PyData.eqv z dx)) := by
      unfold dInI at h; cases dx <;> exact h
    exact .inr ⟨dx, ds, rt_dp rx, rt_dp ry, h'.1.1, h'.1.2, k _ H _ h'.2 (Same.refl _) (.bl _)⟩
  | _ => cases dx <;> exact h.elim
/-! ### items and slices -/
def dIx : V2 := fun x y Q => match x, y with
  | .list ds, .int i => match atI ds i with
    | some d => Q d
    | none => False
  | .tuple ds, .int i => match atI ds i with
    | some d => Q d
    | none => False
  | _, _ => False
theorem Rps.at {H : Hp} {vs : List V} {ds : List D} {i : Int} {d : D} (r : Rps K H vs ds) (e : atI ds i = some d) : ∃ v, atI vs i = some v ∧ Rp K H v d := by
  unfold atI at e ⊢
  rw [r.len]
  cases q : ixN ds.length i with
  | none => rw [q] at e; cases e
  | some j => rw [q] at e; exact r.get e
abbrev rIxA (K : PySem.W.Frag) : R2 := fun x y H Q => rIxL K x y H Q ∨ rIxT K x y H Q
theorem ov_ix : OpV K (rIxA K) dIx := fun O H x y dx dy Q Qv tr rx ry h k => by
  cases dx with
  | list ds =>
    cases dy with
    | int i =>
      obtain ⟨p, xs, rfl, hp, r1⟩ := rt_lst rx
      unfold dIx at h
      dsimp only at h
      cases e : atI ds i with
      | none => rw [e] at h; exact h.elim
      | some d =>
        rw [e] at h
        obtain ⟨v, h1, h2⟩ := r1.at e
        exact .inl ⟨p, xs, i, v, rfl, rt_int ry, SqL.of hp, h1, k _ H _ h (Same.refl _) h2⟩
    | _ => exact h.elim
  | tuple ds =>
    cases dy with
    | int i =>
      obtain ⟨p, xs, rfl, hp, r1⟩ := rt_tup rx
      unfold dIx at h
      dsimp only at h
      cases e : atI ds i with
      | none => rw [e] at h; exact h.elim
      | some d =>
        rw [e] at h
        obtain ⟨v, h1, h2⟩ := r1.at e
        exact .inr ⟨p, xs, i, v, rfl, rt_int ry, same_seqT same_hid_of hp, h1, k _ H _ h (Same.refl _) h2⟩
    | _ => exact h.elim
  | _ => exact h.elim
end
end VL

set_option Elab.async false
set_option linter.all false
set_option maxRecDepth 100000
set_option maxHeartbeats 4000000
/-! The value layer, part H: built-in calls, slices. -/
theorem L2.Room.units65 {k : Nat} {A : PySem.Around} (r : L2.Room k A) : A.units + 65 < PySem.cLine := by have := r.un; omega
namespace VL
open PySem PySem.Spec PyProof.Rows L2
open Classical

section
variable {K : PySem.W.Frag} {O : Addr → Prop} {H : Hp} {vs : List V} {d d2 : D}
theorem rts1 (h : RpTs K O H vs [d]) : ∃ v, vs = [v] ∧ RpT K O H v d := by
  cases h with
  | cons h1 h2 => cases h2; exact ⟨_, rfl, h1⟩
theorem rts2 (h : RpTs K O H vs [d, d2]) : ∃ v w, vs = [v, w] ∧ RpT K O H v d ∧ RpT K O H w d2 := by
  cases h with
  | cons h1 h2 =>
    cases h2 with
    | cons h2 h3 => cases h3; exact ⟨_, _, rfl, h1, h2⟩
/-- len -/
def cLen : VN := fun ds Q => match ds with
  | [.list xs] => Q (.int xs.length)
  | [.tuple xs] => Q (.int xs.length)
  | _ => False
abbrev rLenQ (K : PySem.W.Frag) : List V → Hp → VK → Prop := fun xs H Q => ∃ p ys, xs = [.ref p] ∧ (SqL K H p ys ∨ SqT K H p ys) ∧ Q (.int ys.length) H
theorem cv_len : CallV K (rLenQ K) cLen := fun O H xs ds Q Qv tr r h k => by
  unfold cLen at h
  split at h
  · obtain ⟨v, rfl, r1⟩ := rts1 r
    obtain ⟨a, ys, rfl, h1, h2⟩ := rt_lst r1
    exact ⟨a, ys, rfl, .inl (SqL.of h1), by rw [h2.len]; exact k _ H _ h (Same.refl _) (.int _)⟩
  · obtain ⟨v, rfl, r1⟩ := rts1 r
    obtain ⟨a, ys, rfl, h1, h2⟩ := rt_tup r1
    exact ⟨a, ys, rfl, .inr (same_seqT same_hid_of h1), by rw [h2.len]; exact k _ H _ h (Same.refl _) (.int _)⟩
  · exact h.elim
/-- abs -/
def cAbs : VN := fun ds Q => match ds with
  | [.int i] => Q (.int (if i < 0 then -i else i))
  | _ => False
abbrev rAbsQ : List V → Hp → VK → Prop := fun xs H Q => ∃ i, xs = [.int i] ∧ Q (.int (if i < 0 then -i else i)) H
theorem cv_abs : CallV K rAbsQ cAbs := fun O H xs ds Q Qv tr r h k => by
  unfold cAbs at h
  split at h
  · obtain ⟨v, rfl, r1⟩ := rts1 r
    obtain rfl := rt_int r1
    exact ⟨_, rfl, k _ H _ h (Same.refl _) (.int _)⟩
  · exact h.elim
/-- max, min of two -/
def cMax2 : VN := fun ds Q => match ds with
  | [.int i, .int j] => Q (.int (if j > i then j else i))
  | _ => False
def cMin2 : VN := fun ds Q => match ds with
  | [.int i, .int j] => Q (.int (if j < i then j else i))
  | _ => False
abbrev rMax2Q : List V → Hp → VK → Prop := fun xs H Q => ∃ i j, xs = [.int i, .int j] ∧ Q (.int (if j > i then j else i)) H
abbrev rMin2Q : List V → Hp → VK → Prop := fun xs H Q => ∃ i j, xs = [.int i, .int j] ∧ Q (.int (if j < i then j else i)) H
theorem cv_max2 : CallV K rMax2Q cMax2 := fun O H xs ds Q Qv tr r h k => by
  unfold cMax2 at h
  split at h
  · obtain ⟨v, w, rfl, r1, r2⟩ := rts2 r
    obtain rfl := rt_int r1
    obtain rfl := rt_int r2
    exact ⟨_, _, rfl, k _ H _ h (Same.refl _) (.int _)⟩
  · exact h.elim
theorem cv_min2 : CallV K rMin2Q cMin2 := fun O H xs ds Q Qv tr r h k => by
  unfold cMin2 at h
  split at h
  · obtain ⟨v, w, rfl, r1, r2⟩ := rts2 r
    obtain rfl := rt_int r1
    obtain rfl := rt_int r2
    exact ⟨_, _, rfl, k _ H _ h (Same.refl _) (.int _)⟩
  · exact h.elim
/-- int(x) -/
def cInt : VN := fun ds Q => match ds with
  | [.int i] => Q (.int i)
  | [.bool b] => Q (.int (if b then 1 else 0))
  | _ => False
abbrev rIntQ : List V → Hp → VK → Prop := fun xs H Q => (∃ i, xs = [.int i] ∧ Q (.int i) H) ∨ ∃ k, xs = [.bl k] ∧ Q (.int (if k then 1 else 0)) H
theorem cv_int : CallV K rIntQ cInt := fun O H xs ds Q Qv tr r h k => by
  unfold cInt at h
  split at h
  · obtain ⟨v, rfl, r1⟩ := rts1 r
    obtain rfl := rt_int r1
    exact .inl ⟨_, rfl, k _ H _ h (Same.refl _) (.int _)⟩
  · obtain ⟨v, rfl, r1⟩ := rts1 r
    obtain rfl := rt_bl r1
    exact .inr ⟨_, rfl, k _ H _ h (Same.refl _) (.int _)⟩
  · exact h.elim
/-- tuple(x) -/
def cTup : VN := fun ds Q => match ds with
  | [.list xs] => Q (.tuple xs)
  | [.tuple xs] => Q (.tuple xs)
  | _ => False
abbrev rTupQ (K : PySem.W.Frag) : List V → Hp → VK → Prop := fun xs H Q => ∃ p ys, xs = [.ref p] ∧ ((SqL K H p ys ∧ ∀ l, H l = none → Q (.ref l) (upd H l (.tup ys))) ∨ (SqT K H p ys ∧ Q (.ref p) H))
theorem cv_tup : CallV K (rTupQ K) cTup := fun O H xs ds Q Qv tr r h k => by
  unfold cTup at h
  split at h
  · obtain ⟨v, rfl, r1⟩ := rts1 r
    obtain ⟨a, ys, rfl, h1, h2⟩ := rt_lst r1
    exact ⟨a, ys, rfl, .inl ⟨SqL.of h1, fun l n => k _ _ _ h (same_upd n) (new_tup tr n h2)⟩⟩
  · obtain ⟨v, rfl, r1⟩ := rts1 r
    obtain ⟨a, ys, rfl, h1, h2⟩ := rt_tup r1
    exact ⟨a, ys, rfl, .inr ⟨same_seqT same_hid_of h1, k _ H _ h (Same.refl _) (.tup h1 h2)⟩⟩
  · exact h.elim
/-- list(x): new -/
def cLst : List D → (List D → Prop) → Prop := fun ds Q => match ds with
  | [.list xs] => Q xs
  | [.tuple xs] => Q xs
  | _ => False
abbrev rLstQ (K : PySem.W.Frag) : List V → Hp → VK → Prop := fun xs H Q => ∃ p ys, xs = [.ref p] ∧ (SqL K H p ys ∨ SqT K H p ys) ∧ ∀ l, H l = none → Q (.ref l) (upd H l (.lst ys))
theorem co_lst : CallO K (rLstQ K) cLst := fun O H xs ds Q Qv tr r h k => by
  unfold cLst at h
  split at h
  · obtain ⟨v, rfl, r1⟩ := rts1 r
    obtain ⟨a, ys, rfl, h1, h2⟩ := rt_lst r1
    exact ⟨a, ys, rfl, .inl (SqL.of h1), fun l n => k l ys _ h n h2⟩
  · obtain ⟨v, rfl, r1⟩ := rts1 r
    obtain ⟨a, ys, rfl, h1, h2⟩ := rt_tup r1
    exact ⟨a, ys, rfl, .inr (same_seqT same_hid_of h1), fun l n => k l ys _ h n h2⟩
  · exact h.elim
/-- sum, all, any of a list -/
def intsOf : List D → Option (List Int)
  | [] => some []
  | .int i :: r => (intsOf r).map (i :: ·)
  | _ :: _ => none
theorem intsOf_map (ns : List Int) : intsOf (ns.map .int) = some ns := by
  induction ns with
  | nil => rfl
  | cons n ns ih => simp [intsOf, ih]
theorem intsOf_eq : ∀ {ds : List D} {ns : List Int}, intsOf ds = some ns → ds = ns.map .int
  | [], ns, h => by cases h; rfl
  | .int i :: r, ns, h => by
    unfold intsOf at h
    cases e : intsOf r with
    | none => rw [e] at h; cases h
    | some ms => rw [e] at h; cases h; rw [intsOf_eq e]; rfl
  | .none :: _, _, h => by cases h
  | .bool _ :: _, _, h => by cases h
  | .str _ :: _, _, h => by cases h
  | .list _ :: _, _, h => by cases h
  | .tuple _ :: _, _, h => by cases h
  | .dict _ :: _, _, h => by cases h
def boolsOf : List D → Option (List Bool)
  | [] => some []
  | .bool i :: r => (boolsOf r).map (i :: ·)
  | _ :: _ => none
theorem boolsOf_map (ns : List Bool) : boolsOf (ns.map .bool) = some ns := by
  induction ns with
  | nil => rfl
  | cons n ns ih => simp [boolsOf, ih]
theorem boolsOf_eq : ∀ {ds : List D} {ns : List Bool}, boolsOf ds = some ns → ds = ns.map .bool
  | [], ns, h => by cases h; rfl
  | .bool i :: r, ns, h => by
    unfold boolsOf at h
    cases e : boolsOf r with
    | none => rw [e] at h; cases h
    | some ms => rw [e] at h; cases h; rw [boolsOf_eq e]; rfl
  | .none :: _, _, h => by cases h
  | .int _ :: _, _, h => by cases h
  | .str _ :: _, _, h => by cases h
  | .list _ :: _, _, h => by cases h
  | .tuple _ :: _, _, h => by cases h
  | .dict _ :: _, _, h => by cases h
def cSum : VN := fun ds Q => match ds with
  | [.list xs] => match intsOf xs with
    | some ns => Q (.int ns.sum)
    | none => False
  | _ => False
theorem cv_sum : CallV K (rSum K) cSum := fun O H xs ds Q Qv tr r h k => by
  unfold cSum at h
  split at h
  · next ys =>
    cases e : intsOf ys with
    | none => rw [e] at h; exact h.elim
    | some ns =>
      rw [e] at h
      have e2 := intsOf_eq e
      subst e2
      obtain ⟨v, rfl, r1⟩ := rts1 r
      obtain ⟨a, ys, rfl, h1, h2⟩ := rt_lst r1
      have e := h2.ints
      subst e
      exact ⟨a, ns, rfl, SqL.of h1, k _ H _ h (Same.refl _) (.int _)⟩
  · exact h.elim
def cAll : VN := fun ds Q => match ds with
  | [.list xs] => match boolsOf xs with
    | some ns => Q (.bool (ns.all id))
    | none => False
  | _ => False
theorem cv_all : CallV K (rAll K) cAll := fun O H xs ds Q Qv tr r h k => by
  unfold cAll at h
  split at h
  · next ys =>
    cases e : boolsOf ys with
    | none => rw [e] at h; exact h.elim
    | some ns =>
      rw [e] at h
      have e2 := boolsOf_eq e
      subst e2
      obtain ⟨v, rfl, r1⟩ := rts1 r
      obtain ⟨a, ys, rfl, h1, h2⟩ := rt_lst r1
      have e := h2.bools
      subst e
      exact ⟨a, ns, rfl, SqL.of h1, k _ H _ h (Same.refl _) (.bl _)⟩
  · exact h.elim
def cAny : VN := fun ds Q => match ds with
  | [.list xs] => match boolsOf xs with
    | some ns => Q (.bool (ns.any id))
    | none => False
  | _ => False
theorem cv_any : CallV K (rAny K) cAny := fun O H xs ds Q Qv tr r h k => by
  unfold cAny at h
  split at h
  · next ys =>
    cases e : boolsOf ys with
    | none => rw [e] at h; exact h.elim
    | some ns =>
      rw [e] at h
      have e2 := boolsOf_eq e
      subst e2
      obtain ⟨v, rfl, r1⟩ := rts1 r
      obtain ⟨a, ys, rfl, h1, h2⟩ := rt_lst r1
      have e := h2.bools
      subst e
      exact ⟨a, ns, rfl, SqL.of h1, k _ H _ h (Same.refl _) (.bl _)⟩
  · exact h.elim
/-- -x -/
def dNeg : V1 := fun x Q => match x with
  | .int i => Q (.int (-i))
  | _ => False
theorem uv_neg : UnV K (rU fun i => .int (-i)) dNeg := fun O H x dx Q Qv tr r h k => by
  cases dx with
  | int i => cases r; exact ⟨i, rfl, k _ H _ h (Same.refl _) (.int _)⟩
  | _ => exact h.elim
end
section
variable {X : Cx} {e a b c tg : Expr} {pos : Pos} {M : Fm}
/-! ### slices -/
abbrev VP := Ev → (Option Int → Ev → Prop) → Prop
def LP (K : PySem.W.Frag) (M : Fm) (F : Hp) (t : VP) : TO := fun σ H Q => ∃ ev ρ Qv, Rl K M F ev σ H ρ ∧ t ev Qv ∧
  ∀ o ev' H', Qv o ev' → Rl K M F ev' σ H' ρ → Same (hd M ρ H) (hd M ρ H') → Q o H'
structure VPt (X : Cx) (M : Fm) (e : Option Expr) (t : VP) : Prop where
  po : ∀ F, PO X e (LP X.K M F t)
theorem poI {e : Option Expr} {t t' : TO} (h : PO X e t) (k : ∀ σ H Q, t' σ H Q → t σ H Q) : PO X e t' := ⟨fun pins s σ H Q I q => h.run pins s σ H Q I (k σ H Q q)⟩
def vP0 : VP := fun ev Q => Q none ev
def vP1 (t : VT) : VP := fun ev Q => t ev fun d e1 => match d with
  | .int i => Q (some i) e1
  | _ => False
theorem vp_none : VPt X M none vP0 := ⟨fun F => poI po_none fun σ H Q ⟨ev, ρ, Qv, R, h, k⟩ => k none ev H h R (Same.refl _)⟩
theorem vp_some {t : VT} (h : VE X M e t) : VPt X M (some e) (vP1 t) := ⟨fun F => poI (po_some (h.pe F)) fun σ H Q ⟨ev, ρ, Qv, R, h, k⟩ => ⟨ev, ρ, _, R, h, fun d e1 v H1 q1 R1 s1 r1 => by
  cases d with
  | int i => cases r1; exact ⟨i, rfl, k _ e1 H1 q1 R1 s1⟩
  | _ => exact q1.elim⟩⟩
def cutD (xs : List D) (lo hi : Option Int) : List D := (xs.drop (HT.sIx xs.length 0 lo)).take (HT.sIx xs.length xs.length hi - HT.sIx xs.length 0 lo)
theorem Rps.cut {K : PySem.W.Frag} {H : Hp} {vs : List V} {ds : List D} (r : Rps K H vs ds) (lo hi : Option Int) : Rps K H (cutV vs lo hi) (cutD ds lo hi) := by
  unfold cutV cutD
  rw [r.len]
  exact (r.drop _).take _
def dSl (x : D) (lo hi : Option Int) (Q : D → Prop) : Prop := match x with
  | .list ds => Q (.list (cutD ds lo hi))
  | .tuple ds => Q (.tuple (cutD ds lo hi))
  | _ => False
abbrev rSlQ (K : PySem.W.Frag) : V → Option Int → Option Int → Hp → VK → Prop := fun x lo hi H Q => rSlL K x lo hi H Q ∨ rSlA K x lo hi H Q
theorem sl_ok {K : PySem.W.Frag} {O : Addr → Prop} {H : Hp} {x : V} {dx : D} {lo hi : Option Int} {Q : VK} {Qv : D → Prop} (tr : ∀ b, O b → H b ≠ none) (r : RpT K O H x dx) (h : dSl dx lo hi Qv)
    (k : ∀ v H' d, Qv d → Same H H' → Rp K (hid O H') v d → Q v H') : rSlQ K x lo hi H Q := by
  cases dx with
  | list ds =>
    obtain ⟨a, ys, rfl, h1, h2⟩ := rt_lst r
    exact .inl ⟨a, ys, rfl, SqL.of h1, fun p n => k _ _ _ h (same_upd n) (new_lst tr n (h2.cut lo hi))⟩
  | tuple ds =>
    obtain ⟨a, ys, rfl, h1, h2⟩ := rt_tup r
    refine .inr ⟨a, ys, rfl, same_seqT same_hid_of h1, fun z => ?_, fun z p n => k _ _ _ h (same_upd n) (new_tup tr n (h2.cut lo hi))⟩
    have e : cutD ds lo hi = ds := by
      rw [h2.len] at z
      unfold cutD
      rw [z.1, z.2]
      simp
    have h' : Qv (.tuple (cutD ds lo hi)) := h
    rw [e] at h'
    exact k _ H _ h' (Same.refl _) (.tup h1 h2)
  | _ => exact h.elim
def vSl (t : VT) (l u : VP) : VT := fun ev Q => t ev fun d e1 => l e1 fun lo e2 => u e2 fun hi e3 => dSl d lo hi fun d => Q d e3
def vSlL (i : Nat) (l u : VP) : VT := fun ev Q => match sv ev i with
  | .fr d => l ev fun lo e2 => u e2 fun hi e3 => dSl d lo hi fun d => Q d e3
  | .ow _ => l ev fun lo e2 => u e2 fun hi e3 => match sv e3 i with
    | .ow ds => dSl (.list ds) lo hi fun d => Q d e3
    | _ => False
  | _ => False
theorem ve_slice {lo hi : Option Expr} {p2 : Pos} {t : VT} {l u : VP} (he : VE X M e t) (hl : VPt X M lo l) (hu : VPt X M hi u) : VE X M (.Subscript e (.Slice lo hi none p2) pos) (vSl t l u) :=
  ⟨fun F => peI (pe_slice (r := rSlQ X.K) (sl_list.or sl_tupA) (he.pe F) (hl.po F) (hu.po F)) fun σ H Q ⟨ev, ρ, Qv, R, h, k⟩ => ⟨ev, ρ, _, R, h, fun d e1 v H1 q1 R1 s1 r1 => ⟨e1, ρ, _, R1, q1, fun o e2 H2 q2 R2 s2 => ⟨e2, ρ, _, R2, q2, fun o3 e3 H3 q3 R3 s3 =>
    sl_ok (O := Own M ρ) R3.tr (.inl ((r1.mono s2).mono s3)) q3 fun v H' d qd sm rr => k d e3 v H' qd (R3.same sm) (((s1.trans s2).trans s3).trans (same_hid sm)) rr⟩⟩⟩⟩
theorem ve_sliceL {lo hi : Option Expr} {p p2 : Pos} {x : Str} {l u : VP} (i : Nat) (hp : PE X (.Name x p) (tVar i)) (hl : VPt X M lo l) (hu : VPt X M hi u) : VE X M (.Subscript (.Name x p) (.Slice lo hi none p2) pos) (vSlL i l u) :=
  ⟨fun F => peI (pe_slice (r := rSlQ X.K) (sl_list.or sl_tupA) hp (hl.po F) (hu.po F)) fun σ H Q ⟨ev, ρ, Qv, R, h, k⟩ => by
    unfold vSlL at h
    cases e0 : sv ev i with
    | fr d =>
      rw [e0] at h
      obtain ⟨v, h1, h2⟩ := R.getFr e0
      exact ⟨v, h1, ev, ρ, _, R, h, fun o e2 H2 q2 R2 s2 => ⟨e2, ρ, _, R2, q2, fun o3 e3 H3 q3 R3 s3 =>
        sl_ok (O := Own M ρ) R3.tr (.inl ((h2.mono s2).mono s3)) q3 fun v H' d qd sm rr => k d e3 v H' qd (R3.same sm) ((s2.trans s3).trans (same_hid sm)) rr⟩⟩
    | ow ds0 =>
      rw [e0] at h
      obtain ⟨a, us, h1, h2, h3, h4⟩ := R.getOw e0
      refine ⟨_, h2, ev, ρ, _, R, h, fun o e2 H2 q2 R2 s2 => ⟨e2, ρ, _, R2, q2, fun o3 e3 H3 q3 R3 s3 => ?_⟩⟩
      cases e9 : sv e3 i with
      | ow ds =>
        rw [e9] at q3
        obtain ⟨a', us', g1, g2, g3, g4⟩ := R3.getOw e9
        rw [h1] at g1; cases g1
        exact sl_ok (O := Own M ρ) R3.tr (.inr ⟨a, us', ds, rfl, rfl, g3, g4⟩) q3 fun v H' d qd sm rr => k d e3 v H' qd (R3.same sm) ((s2.trans s3).trans (same_hid sm)) rr
      | un => rw [e9] at q3; exact q3.elim
      | fr _ => rw [e9] at q3; exact q3.elim
      | rw _ => rw [e9] at q3; exact q3.elim
    | un => rw [e0] at h; exact h.elim
    | rw _ => rw [e0] at h; exact h.elim⟩
/-- xs[::-1], a new list -/
def vRevL (t : VT) : VTA := fun ev Q => t ev fun d e1 => match d with
  | .list ds => Q ds.reverse e1
  | _ => False
theorem vo_rev {k : Nat} {p1 p2 p3 : Pos} {t : VT} (he : VE X M e t) : VO X M (.Subscript e (.Slice none none (some (.UnaryOp .USub (.Constant (.int 1) k p1) p2)) p3) pos) (vRevL t) :=
  ⟨fun F => peI (pe_revL (he.pe F)) fun σ H Q ⟨ev, ρ, Qv, R, h, kk⟩ => ⟨ev, ρ, _, R, h, fun d e1 v H1 q1 R1 s1 r1 => by
    cases d with
    | list ds =>
      obtain ⟨a, ys, rfl, h1, h2⟩ := rt_lst (O := Own M ρ) (.inl r1)
      refine ⟨a, ys, rfl, SqL.of h1, fun p n => ?_⟩
      have e := rem_upd (o := .lst ys.reverse) n
      exact kk _ e1 p _ _ q1 (by rw [e]; exact R1) (by rw [e]; exact s1) upd_same (by rw [e]; exact h2.rev)
    | _ => exact q1.elim⟩⟩
/-- .. of a list that a slot holds -/
def vRevLL (i : Nat) : VTA := fun ev Q => match sv ev i with
  | .fr (.list ds) => Q ds.reverse ev
  | .ow ds => Q ds.reverse ev
  | _ => False
theorem vo_revL {k : Nat} {p p1 p2 p3 : Pos} {x : Str} (i : Nat) (hp : PE X (.Name x p) (tVar i)) : VO X M (.Subscript (.Name x p) (.Slice none none (some (.UnaryOp .USub (.Constant (.int 1) k p1) p2)) p3) pos) (vRevLL i) :=
  ⟨fun F => peI (pe_revL hp) fun σ H Q ⟨ev, ρ, Qv, R, h, kk⟩ => by
    unfold vRevLL at h
    cases e0 : sv ev i with
    | fr d =>
      rw [e0] at h
      cases d with
      | list ds =>
        obtain ⟨v, h1, h2⟩ := R.getFr e0
        obtain ⟨a, ys, rfl, h3, h4⟩ := rt_lst (O := Own M ρ) (.inl h2)
        refine ⟨_, h1, a, ys, rfl, SqL.of h3, fun p n => ?_⟩
        have e := rem_upd (o := .lst ys.reverse) n
        exact kk _ ev p _ _ h (by rw [e]; exact R) (by rw [e]; exact Same.refl _) upd_same (by rw [e]; exact h4.rev)
      | _ => exact h.elim
    | ow ds =>
      rw [e0] at h
      obtain ⟨a, ys, h1, h2, h3, h4⟩ := R.getOw e0
      refine ⟨_, h2, a, ys, rfl, SqL.of h3, fun p n => ?_⟩
      have e := rem_upd (o := .lst ys.reverse) n
      exact kk _ ev p _ _ h (by rw [e]; exact R) (by rw [e]; exact Same.refl _) upd_same (by rw [e]; exact h4.rev)
    | un => rw [e0] at h; exact h.elim
    | rw _ => rw [e0] at h; exact h.elim⟩
/-- a list joined to a list, for a name of its own -/
def vCatO (t : VT) : VTA := fun ev Q => t ev fun d e1 => match d with
  | .list ds => Q ds e1
  | _ => False
/-- n.bit_length() -/
def vBits (t : VT) : VT := fun ev Q => t ev fun d e1 => match d with
  | .int i => Q (.int (Builtin.Int.intBits i : Nat)) e1
  | _ => False
theorem ve_bits {t : VT} {p : Pos} (mk : ∀ {te : TE}, PE X e te → PE X (.Call (.Attribute e "bit_length" p) [] [] pos) (tBits te)) (he : VE X M e t) : VE X M (.Call (.Attribute e "bit_length" p) [] [] pos) (vBits t) :=
  ⟨fun F => peI (mk (he.pe F)) fun σ H Q ⟨ev, ρ, Qv, R, h, k⟩ => ⟨ev, ρ, _, R, h, fun d e1 v H1 q1 R1 s1 r1 => by
    cases d with
    | int i => cases r1; exact ⟨i, rfl, k _ e1 _ H1 q1 R1 s1 (.int _)⟩
    | _ => exact q1.elim⟩⟩
end
end VL

set_option Elab.async false
set_option linter.all false
set_option maxRecDepth 100000
set_option maxHeartbeats 4000000
/-! The value layer, part X: the program's own exception. -/
namespace VX
open PySem PySem.Spec PyProof.Rows PySem.W PySem.Calls
/-- ValueError's __init__ bound to e, called -/
theorem mw_call {prog : Program} {w : World} {A : Around} {E : Value → Shared → Prop} {h : Heap} {g : Array GenState} {d : Drawn} {t : Nat} {os : OsState} {nm q : Str} {C N : Addr} {bs bm : List Value} {hdct : Bool} {sn : List Str} {sub : List Value} {ab : Bool} {col : Option Bool} {dd : Option Addr} {k0 k1 k2 k3 k5 : Option Value}
    {u e t0 : Addr} {rest : List Value} {Q : Value → Shared → Prop} (hC : h.get? C = some (excClassObj nm q C N bs bm hdct sn sub ab col dd k0 k1 k2 k3 k5 "ValueError.__new__")) (he : h.get? e = some (excObj C t0 none .none))
    (hu : h.get? u = some (kxs_mw "ValueError.__init__" e)) (hz : rest.length ≤ sizeLine)
    (hq : ∀ h' t1, (∀ b o, b ≠ e → h.get? b = some o → h'.get? b = some o) → h'.get? e = some (excObj C t1 none .none) → Q .none ⟨h', g, d, t, os⟩) :
    wpAny (model prog w) A (call (.ref u) rest) Q E ⟨h, g, d, t, os⟩ := by
  refine wpAny_call (codeAny_of_tree ?_)
  show wpAny _ A.in1 (callAny (.ref u) ⟨rest, []⟩) _ _ _
  simp only [callAny]
  refine wpAny_bind (wpAny_load hu ?_)
  simp only [kxs_mw, show (Value.type "method-wrapper" == Value.type "method" || Value.type "method-wrapper" == Value.type "builtin_function_or_method" || Value.type "method-wrapper" == Value.type "method-wrapper") = true by decide, if_true]
  refine KFB.if_so (by decide) ?_
  refine wpAny_bind (check_bound_init F.excBase_ValueError.toExcCallFacts hC he rfl ?_)
  refine wpAny_bind (wpAny_pure (wpAny_pure ?_))
  refine ⟨plainId_quiet F.excBase_ValueError.init.plain _, codeAny_builtin F.excBase_ValueError.initEntry ?_⟩
  exact exc_init_tree (cls := .ref C) (t0 := t0) (dv := none) (c2 := .none) (c3 := .none) (b4 := .bool false) he hz fun h' k e' _ => hq h' _ k e'
/-- C's __init__(self, f): super().__init__(f); self.f = f -/
theorem su_init {prog : Program} {w : World} {A : Around} {R : Result → Shared → Prop} {hp : Heap} {g : Array GenState} {dr : Drawn} {tk : Nat} {os : OsState} {K : Frag} {mg mb : Str → Option Value} {C fI cc cda x t0 : Addr} {q f : Str} {params : Arguments} {body : List Stmt} {scope : Scope}
    {dV kV doc pm ct oc ccl cl : Value} {an od cdd cld : Option Addr} {osl ccs csl : Array (Option Value)} {vs : Array Value} {file : Str} {tf : Tok} {u : Value} {ar : Arg} {p0 p1 p2 p3 p4 p5 p6 p7 p8 p9 : Pos}
    (hr : A.depth < recursionLimit) (X : K.In hp) (G : hp.Ns mainGlobals mg) (hs : mg "super" = none) (B : hp.Ns builtinsNs mb) (hb : mb "super" = some (.type "super")) (lim : hp.NoLimit) (T : L2.OexC K C) (hno : findIn K (.ref C) f = some none)
    (lk : K.lookup fI = some ⟨oc, od, .func (ksFn "__init__" q params body scope dV kV doc pm an (.ref cda) ct cc), osl⟩) (hcd : codeIn K (.ref cda) q = true)
    (hbody : body = [.Expr (.Call (.Attribute (.Call (.Name "super" p0) [] [] p1) "__init__" p2) [.Name f p3] [] p4) p5, .Assign [.Attribute (.Name "self" p6) f p7] (.Name f p8) p9])
    (pl : Env → Sem Bool) (hE : ∀ L, eval (.Call (.Attribute (.Call (.Name "super" p0) [] [] p1) "__init__" p2) [.Name f p3] [] p4) (ksEnv q scope L fI (.ref cda) cc) = (do
        let ov ← attributeBase (.Call (.Name "super" p0) [] [] p1) "__init__" (ksEnv q scope L fI (.ref cda) cc) (eval (.Call (.Name "super" p0) [] [] p1) (ksEnv q scope L fI (.ref cda) cc))
        standAt p2.atName
        let (fn, first) ← holding [ov] (getMethod ov "__init__" (pl (ksEnv q scope L fI (.ref cda) cc)))
        callWith p4 fn first (backTo p4 (starEach [.Name f p3] (ksEnv q scope L fI (.ref cda) cc))) []))
    (hI : ∀ L, interactive (ksEnv q scope L fI (.ref cda) cc) = false) (hS1 : ∀ L, swapsWith (.Call (.Attribute (.Call (.Name "super" p0) [] [] p1) "__init__" p2) [.Name f p3] [] p4) none p5.line (ksEnv q scope L fI (.ref cda) cc) = pure false)
    (hS2 : ∀ L, swapsWith (.Name f p8) (some (.Attribute (.Name "self" p6) f p7)) p9.line (ksEnv q scope L fI (.ref cda) cc) = pure false)
    (hSE : ∀ L, starEach [.Name f p3] (ksEnv q scope L fI (.ref cda) cc) = (false, eval (.Name f p3) (ksEnv q scope L fI (.ref cda) cc)) :: starEach [] (ksEnv q scope L fI (.ref cda) cc))
    (hbind : ∀ s, BindsTo s (ksFn "__init__" q params body scope dV kV doc pm an (.ref cda) ct cc) ⟨[.ref x, u], []⟩ [("self", .ref x), (f, u)])
    (hks : scope.names.lookup ("super" : Str) = some .globalImplicit) (hkc : scope.names.lookup ("__class__" : Str) = some .free) (hka : scope.names.lookup ("self" : Str) = some .local) (hkf : scope.names.lookup f = some .local) (hk : scope.kind = .function)
    (hco : scope.isCoroutine = false) (hgen : scope.isGenerator = false) (hcell : ∀ y ∈ scope.names, y.2 ≠ .cell) (hf1 : f ≠ "self") (hfd : (f == ("__debug__" : Str)) = false)
    (hpar : (params.posonlyargs ++ params.args).head? = some ar) (har : ar.arg = "self") (hcode : K.lookup cda = some ⟨ccl, cdd, .fields vs, ccs⟩) (hvs : vs[2]? = some (.str file tf)) (hfile : ((prog.main.file : Str) == file) = true)
    (hcel : K.lookup cc = some ⟨cl, cld, .cell (some (.ref C)), csl⟩) (hth : nsIn K cStatics "thirdparty.any" = some none) (hsup : ks_superIn K C C "__init__" = some (some (.builtin "ValueError.__init__"))) (hve : subIn K (.ref C) (.type "ValueError") = some true)
    (htop : (prog.main.scope.names.lookup ("super" : Str)).isSome = false)
    (hx : hp.get? x = some (excObj C t0 none .none)) (hxK : K.lookup x = none)
    (hq : ∀ h' tk' dx t1, (∀ b o, b ≠ x → hp.get? b = some o → h'.get? b = some o) → hp.objs.size ≤ dx → dx ≠ x → h'.get? x = some (excObj C t1 (some dx) .none) → h'.Ns1 dx (fun y => if y = f then some u else none) → R (.ok (.ret .none)) ⟨h', g, dr, tk', os⟩) :
    codeAny (model prog w) A (.call (.ref fI) ⟨[.ref x, u], []⟩) R ⟨hp, g, dr, tk, os⟩ := by
  obtain ⟨nm, qn, N, bs, bm, sn, sub, ab, col, dd, k0, k1, k2, k3, k5, hC, hbm⟩ := T.cls
  have hcl : clsIn K C = some { name := nm, bases := bs, mro := .ref C :: bm, ns := N, qualname := qn, hasDict := true, slotNames := sn, subclasses := sub, abstract := ab, collection := col, hasDel := false } := by unfold clsIn; rw [hC] <;> rfl
  refine ks_codeAny_call_defAt (fd := ksFn "__init__" q params body scope dV kV doc pm an (.ref cda) ct cc) (body := body) (binds := [("self", .ref x), (f, u)]) hr (X _ _ lk) rfl lim (codeRec_of X hcd) rfl (hbind _) hcell (fun y hy => ?_) (fun h₁ hns k1 => ?_) hco hgen hk
  · rcases List.mem_cons.mp hy with rfl | hy
    · exact hka
    · rcases List.mem_cons.mp hy with rfl | hy
      · exact hkf
      · cases hy
  subst hbody
  have hms : (fun y => List.lookup y ([(("self" : Str), Value.ref x), (f, u)] : List (Str × Value)).reverse) ("self" : Str) = some (Value.ref x) := by
    have e : (("self" : Str) == f) = false := beq_eq_false_iff_ne.mpr (Ne.symm hf1)
    simp [List.lookup, e]
  have hmf : (fun y => List.lookup y ([(("self" : Str), Value.ref x), (f, u)] : List (Str × Value)).reverse) f = some u := by
    simp [List.lookup]
  have hxs : x ≠ hp.objs.size := Nat.ne_of_lt (Heap.lt_size hx)
  refine ks_wpAt_execs_cons (ks_wpAt_Expr_any (ks_wpAt_MethodCall (pl := pl _) ?_ (hE _)) (hI _) (hS1 _))
  -- super()
  have X1 : K.In h₁ := X.keeps k1
  have hx1 : h₁.get? x = some (excObj C t0 none .none) := k1 _ _ hx
  have G1 : h₁.Ns mainGlobals mg := G.keeps k1
  have B1 : h₁.Ns builtinsNs mb := B.keeps k1
  refine ks_wpAt_super_base (env := ksEnv q scope hp.objs.size fI (.ref cda) cc) hks hkc (by decide) rfl (X1 _ _ lk) rfl hpar rfl (X1 _ _ hcode) rfl hvs hfile htop ?_
  refine ks_loadName_global hk hks (loadGlobal_builtin (env := ksEnv q scope hp.objs.size fI (.ref cda) cc) G1 hs B1 hb ⟨rfl, ?_⟩)
  refine wpAny_loadName_free hk hkc rfl ⟨_, X1 _ _ hcel, rfl⟩ ?_
  rw [har]
  refine wpAny_loadName_local hk hka hns hms ?_
  refine ks_wpAny_isType_cls (X1 _ _ hC) rfl ⟨rfl, ?_⟩
  have hmro : mroIn K C (.ref C) = some true := by unfold mroIn; rw [hcl]; simp
  have hne : x ≠ C := fun z => by
    have z1 := X1 _ _ hC
    rw [← z, hx1] at z1
    cases z1
  refine ks_wpAny_call_super (X1 _ _ hC) rfl hx1 rfl (fun c z => by cases z) (looks_mroIn X1 hmro) (fun h2 e2 k2 => ?_)
  -- .__init__
  have X2 : K.In h2 := X1.keeps k2
  have hx2 := k2 _ _ hx1
  have hsup' : alongIn K "__init__" (((Value.ref C :: bm).dropWhile (· != .ref C)).drop 1) = some (some (.builtin "ValueError.__init__")) := by
    have z := hsup
    unfold ks_superIn at z
    rw [hcl] at z
    exact z
  have I2 : InstAt h2 x (excObj C t0 none .none) C none := ⟨hx2, rfl, rfl, trivial⟩
  refine kxs_getMethod kxs_ValueError (l₀ := .ref C :: bm) e2 (looks_opaque X2 hth) ?_ rfl X2 hsup' (I2.type.andThen (looks_subIn X2 hve)) hne (by decide) ?_
  · exact fun A Q E s k qq => wpAny_bind ((looks_clsIn X2 hcl) A _ E s k (wpAny_pure qq))
  -- the call
  have k3 : ∀ b o, h2.get? b = some o → (h2.push (kxs_mw "ValueError.__init__" x)).get? b = some o := fun b o e => Heap.get?_push_of_some _ e
  have hmw : (h2.push (kxs_mw "ValueError.__init__" x)).get? h2.objs.size = some (kxs_mw "ValueError.__init__" x) := Heap.get?_push_size _ rfl
  show wpAny _ _ (callWith p4 (Value.ref h2.objs.size) [] (backTo p4 (starEach [.Name f p3] (ksEnv q scope hp.objs.size fI (.ref cda) cc))) []) _ _ _
  rw [hSE]
  refine kxs_callWith (i := "ValueError.__init__") (x := x) rfl (evalArgs_plain ?_)
  have hns3 : (h2.push (kxs_mw "ValueError.__init__" x)).Ns hp.objs.size _ := (hns.at' fun o e => k2 _ _ e).at' fun o e => k3 _ _ e
  refine Calls.spliced_cons (wpAny_Name (wpAny_loadName_local hk hkf hns3 hmf ?_) hfd)
  refine Calls.spliced_nil ⟨hmw, ?_⟩
  have hC3 := k3 _ _ (k2 _ _ (X1 _ _ hC))
  refine mw_call hC3 (k3 _ _ hx2) hmw (by rw [sizeLine_eq]; simp) fun h4 t1 k4 hx4 => ?_
  -- self.f = f
  have hLx : hp.objs.size ≠ x := Ne.symm hxs
  have hns4 : h4.Ns hp.objs.size _ := hns3.at' fun o e => k4 _ _ hLx e
  have hCx : C ≠ x := Ne.symm hne
  have kk : ∀ b o, b ≠ x → hp.get? b = some o → h4.get? b = some o := fun b o n e => k4 b o n (k3 b o (k2 b o (k1 b o e)))
  have X4 : K.In h4 := fun b o e => kk b o (fun z => by
    rw [z, hxK] at e
    cases e) (X _ _ e)
  refine ks_wpAt_execs_cons (ks_wpAt_Assign_Attr ?_ (hS2 _))
  refine PySem.wpAt_of_wpAny (wpAny_Name (wpAny_loadName_local hk hkf hns4 hmf ?_) hfd)
  refine wpAny_Name (wpAny_loadName_local hk hka hns4 hms ?_) (by decide)
  refine set_plain X4 (ox := excObj C t1 none .none) (od := none) ⟨hx4, rfl, rfl, trivial⟩ T.sa ?_
  refine PySem.HandSPX.exc_osa X4 hx4 hcl (show PySem.HandSPX.refsVE (.ref C :: bm) = true from hbm) rfl hno (fun h5 tk5 dx k5 dn dne hx5 hn5 => ?_)
  have sz : hp.objs.size ≤ h4.objs.size := by
    obtain ⟨o, _, _, e, _⟩ := hns4
    exact Nat.le_of_lt (Heap.lt_size e)
  refine PySem.wpAt_of_wpAny ?_
  show wpAny _ _ (pure Flow.next) _ _ _
  exact wpAny_pure (hq h5 tk5 dx t1 (fun b o n e => k5 b o n (kk b o n e)) (Nat.le_trans sz dn) dne hx5 hn5)
end VX

set_option Elab.async false
set_option linter.all false
set_option maxRecDepth 100000
set_option maxHeartbeats 4000000
/-! The value layer, part Y: the head: what the own exception's class is. -/
namespace VX
open PySem PySem.Spec PyProof.Rows PySem.W PySem.Calls L2
abbrev btI : Str × Option Str := ("BadTable", some "__init__")
/-- BadTable's __init__ as data -/
structure InitD where
  qual : Str
  params : Arguments
  body : List Stmt
  scope : Scope
abbrev InW : Type := Option (Str × Str × Arguments × FuncBody × Scope × Addr × List Str × Addr × Value)
def InitD.val (d : InitD) : InW := some ("__init__", d.qual, d.params, .stmts d.body, d.scope, mainGlobals, ["__class__"], builtinsNs, .none)
def initW (K : Frag) : InW := match K.lookup (He.fAd K btI) with
  | some ⟨_, _, .func fd, _⟩ => some (fd.name, fd.qualname, fd.params, fd.body, fd.scope, fd.globals, fd.closure.map (·.1), fd.builtins, fd.defaults)
  | _ => none
def clsB (K : Frag) (C : Addr) : Bool := match K.lookup C with
  | some ⟨.type c, _, .cls cd, sl⟩ => (match cd.mro, sl.toList with
    | .ref C' :: bm, [_, _, _, _, some (.builtin n), _] => decide (c = "type") && (decide (C' = C) && (decide (n = "ValueError.__new__") && (!cd.hasDel && (cd.hasDict && PySem.HandSPX.refsVE bm))))
    | _, _ => false)
  | _ => false
theorem clsB_ok {K : Frag} {C : Addr} (h : clsB K C = true) : ∃ nm q N bs bm sn sub ab col dd k0 k1 k2 k3 k5, K.lookup C = some (excClassObj nm q C N bs bm true sn sub ab col dd k0 k1 k2 k3 k5 "ValueError.__new__") ∧ PySem.HandSPX.refsVE bm = true := by
  unfold clsB at h
  split at h
  · rename_i c dd cd sl ho
    split at h
    · rename_i C' bm a0 a1 a2 a3 n a5 hm hs
      simp only [Bool.and_eq_true, decide_eq_true_eq, Bool.not_eq_true'] at h
      obtain ⟨h1, h2, h3, h4, h5, h6⟩ := h
      obtain ⟨nm, bs, mro, ns, qn, hd, sn, sub, ab, col, del⟩ := cd
      dsimp only at hm h4 h5
      subst h1 h2 h3 h4 h5 hm
      have es : sl = #[a0, a1, a2, a3, some (.builtin "ValueError.__new__"), a5] := by
        rw [← Array.toArray_toList (xs := sl), hs] <;> rfl
      subst es
      exact ⟨_, _, _, _, _, _, _, _, _, _, _, _, _, _, _, ho, h6⟩
    · cases h
  · cases h
/-- the text's file, the cell, the code object -/
def linkB (K : Frag) (main : Str) (C fI : Addr) : Bool := match K.lookup fI with
  | some ⟨_, _, .func fd, _⟩ => (match fd.code with
    | .ref cda => codeIn K fd.code fd.qualname && (match K.lookup cda with
      | some ⟨_, _, .fields vs, _⟩ => (match (vs[2]? : Option Value) with
        | some (.str file _) => decide (main = file)
        | _ => false)
      | _ => false)
    | _ => false) && (match fd.closure with
    | [p] => (match K.lookup p.2 with
      | some ⟨_, _, .cell (some (.ref D)), _⟩ => decide (D = C)
      | _ => false)
    | _ => false)
  | _ => false
abbrev C_ (K : Frag) : Addr := He.ga K "BadTable"
abbrev fI_ (K : Frag) : Addr := He.fAd K btI
def sayB (main : Str) (K : Frag) : Bool :=
  clsB K (C_ K) && (linkB K main (C_ K) (fI_ K) && (decide (findIn K (.ref (C_ K)) "__setattr__" = some (some (.builtin "object.__setattr__"))) && (decide (subIn K (.ref (C_ K)) (.type "BaseException") = some true) &&
  (decide (typeIn K (.ref (C_ K)) = some (.type "type")) && (keepIn K (.ref (C_ K)) && (decide (findIn K (.ref (C_ K)) "__init__" = some (some (.ref (fI_ K)))) && (decide (typeIn K (.ref (fI_ K)) = some (.type "function")) &&
  (decide (nsIn K cStatics "thirdparty.any" = some none) && (decide (ks_superIn K (C_ K) (C_ K) "__init__" = some (some (.builtin "ValueError.__init__"))) && (decide (subIn K (.ref (C_ K)) (.type "ValueError") = some true) &&
  (xfB K (C_ K) && (decide (findIn K (.ref (C_ K)) "reason" = some none) && (decide (exmOne K (.ref (C_ K)) (.ref (C_ K)) = some true) && decide (nsIn K mainGlobals "super" = some none))))))))))))))
/-- all that is said -/
structure Says (main : Str) (d : InitD) (K : Frag) : Prop where
  T : OexC K (C_ K)
  xf : XfC K (C_ K)
  nf : findIn K (.ref (C_ K)) "reason" = some none
  exm : exmOne K (.ref (C_ K)) (.ref (C_ K)) = some true
  iC : findIn K (.ref (C_ K)) "__init__" = some (some (.ref (fI_ K)))
  tI : typeIn K (.ref (fI_ K)) = some (.type "function")
  th : nsIn K cStatics "thirdparty.any" = some none
  su : ks_superIn K (C_ K) (C_ K) "__init__" = some (some (.builtin "ValueError.__init__"))
  ve : subIn K (.ref (C_ K)) (.type "ValueError") = some true
  ns : nsIn K mainGlobals "super" = some none
  fn : ∃ oc od kV doc pm an cda ct cc osl, K.lookup (fI_ K) = some ⟨oc, od, .func (ksFn "__init__" d.qual d.params d.body d.scope .none kV doc pm an (.ref cda) ct cc), osl⟩ ∧ codeIn K (.ref cda) d.qual = true ∧
    (∃ ccl cdd vs ccs file tf, K.lookup cda = some ⟨ccl, cdd, .fields vs, ccs⟩ ∧ vs[2]? = some (.str file tf) ∧ main = file) ∧ ∃ cl cld csl, K.lookup cc = some ⟨cl, cld, .cell (some (.ref (C_ K))), csl⟩
theorem says_of {main : Str} {d : InitD} {K : Frag} (hw : initW K = d.val) (hb : sayB main K = true) : Says main d K := by
  unfold sayB at hb
  simp only [Bool.and_eq_true, decide_eq_true_eq] at hb
  obtain ⟨b1, b2, b3, b4, b5, b6, b7, b8, b9, b10, b11, b12, b13, b14, b15⟩ := hb
  refine ⟨⟨clsB_ok b1, b3, b4, b5, b6⟩, xfB_ok b12, b13, b14, b7, b8, b9, b10, b11, b15, ?_⟩
  unfold initW at hw
  unfold linkB at b2
  unfold fI_
  cases hl : K.lookup (He.fAd K btI) with
  | none => rw [hl] at hw; cases hw
  | some o =>
    obtain ⟨oc, od, dt, osl⟩ := o
    rw [show K.lookup (fI_ K) = _ from hl] at b2
    rw [hl] at hw
    cases dt with
    | func fd =>
      obtain ⟨n1, n2, n3, n4, n5, n6, n7, n8, n9, n10, n11, n12, n13, n14, n15⟩ := fd
      have e : (some (n1, n2, n3, n4, n5, n6, n7.map (·.1), n15, n8) : InW) = some (("__init__" : Str), d.qual, d.params, .stmts d.body, d.scope, mainGlobals, [("__class__" : Str)], builtinsNs, .none) := hw
      simp only [Option.some.injEq, Prod.mk.injEq] at e
      obtain ⟨h1, h2, h3, h4, h5, h6, h7, h8, h9⟩ := e
      subst h1 h2 h3 h4 h5 h6 h8 h9
      obtain ⟨q1, q2⟩ := Bool.and_eq_true_iff.mp b2
      dsimp only at q1 q2
      match n7, h7, q2 with
      | [(nm, cc)], h7, q2 =>
        have en : nm = "__class__" := by simpa using h7
        subst en
        dsimp only at q2
        split at q1
        · rename_i cda
          obtain ⟨q3, q4⟩ := Bool.and_eq_true_iff.mp q1
          split at q4
          · rename_i ccl cdd vs ccs hk
            split at q4
            · rename_i file tf hv
              split at q2
              · rename_i cl cld D csl hcl
                have eD : D = C_ K := of_decide_eq_true q2
                subst eD
                exact ⟨oc, od, n9, n10, n11, n12, cda, n14, cc, osl, rfl, q3, ⟨ccl, cdd, vs, ccs, file, tf, hk, hv, of_decide_eq_true q4⟩, cl, cld, csl, hcl⟩
              · cases q2
            · cases q4
          · cases q4
        · cases q1
    | _ => cases hw
end VX

set_option Elab.async false
set_option linter.all false
set_option maxRecDepth 100000
set_option maxHeartbeats 4000000
/-! The value layer, part Z: BadTable(reason) made. -/
namespace VX
open PySem PySem.Spec PyProof.Rows PySem.W PySem.Calls L2
/-- what the text of __init__ must be -/
structure InitOk (P : Program) (d : InitD) : Prop where
  ex : ∃ (p0 p1 p2 p3 p4 p5 p6 p7 p8 p9 : Pos) (pl : Env → Sem Bool) (ar : Arg),
    d.body = [.Expr (.Call (.Attribute (.Call (.Name "super" p0) [] [] p1) "__init__" p2) [.Name "reason" p3] [] p4) p5, .Assign [.Attribute (.Name "self" p6) "reason" p7] (.Name "reason" p8) p9] ∧
    (∀ (fI cda cc L : Addr), eval (.Call (.Attribute (.Call (.Name "super" p0) [] [] p1) "__init__" p2) [.Name "reason" p3] [] p4) (ksEnv d.qual d.scope L fI (.ref cda) cc) = (do
        let ov ← attributeBase (.Call (.Name "super" p0) [] [] p1) "__init__" (ksEnv d.qual d.scope L fI (.ref cda) cc) (eval (.Call (.Name "super" p0) [] [] p1) (ksEnv d.qual d.scope L fI (.ref cda) cc))
        standAt p2.atName
        let (fn, first) ← holding [ov] (getMethod ov "__init__" (pl (ksEnv d.qual d.scope L fI (.ref cda) cc)))
        callWith p4 fn first (backTo p4 (starEach [.Name "reason" p3] (ksEnv d.qual d.scope L fI (.ref cda) cc))) [])) ∧
    (∀ (fI cda cc L : Addr), interactive (ksEnv d.qual d.scope L fI (.ref cda) cc) = false ∧ swapsWith (.Call (.Attribute (.Call (.Name "super" p0) [] [] p1) "__init__" p2) [.Name "reason" p3] [] p4) none p5.line (ksEnv d.qual d.scope L fI (.ref cda) cc) = pure false ∧
      swapsWith (.Name "reason" p8) (some (.Attribute (.Name "self" p6) "reason" p7)) p9.line (ksEnv d.qual d.scope L fI (.ref cda) cc) = pure false ∧
      starEach [.Name "reason" p3] (ksEnv d.qual d.scope L fI (.ref cda) cc) = (false, eval (.Name "reason" p3) (ksEnv d.qual d.scope L fI (.ref cda) cc)) :: starEach [] (ksEnv d.qual d.scope L fI (.ref cda) cc)) ∧
    (d.params.posonlyargs ++ d.params.args).head? = some ar ∧ ar.arg = "self"
  bind : ∀ (kV doc pm : Value) (an : Option Addr) (cda cc : Addr) (ct x u : Value), bindArgs (ksFn "__init__" d.qual d.params d.body d.scope .none kV doc pm an (.ref cda) ct cc) ⟨[x, u], []⟩ = pure ([(("self" : Str), x), (("reason" : Str), u)] : List (Str × Value))
  ks : d.scope.names.lookup ("super" : Str) = some .globalImplicit
  kc : d.scope.names.lookup ("__class__" : Str) = some .free
  ka : d.scope.names.lookup ("self" : Str) = some .local
  kf : d.scope.names.lookup ("reason" : Str) = some .local
  kind : d.scope.kind = .function
  co : d.scope.isCoroutine = false
  gen : d.scope.isGenerator = false
  cell : ∀ y ∈ d.scope.names, y.2 ≠ .cell
  top : (P.main.scope.names.lookup ("super" : Str)).isSome = false
/-- C(e) where C keeps its one argument as reason -/
def tMkB (C : Addr) (ta : TA) : L2.St → Hp → XK → Prop := fun σ H Q => ta σ H fun vs H1 => ∃ v, vs = [v] ∧ ∀ d, H1 d = none → Q (.ref C) (some d) (upd H1 d (.xd [("reason", v)]))
theorem pmk_bad {X : Cx} {d : InitD} {e : Expr} {ta : TA} {k : Nat} {p pos : Pos} (S : Says X.prog.main.file d X.K) (D : InitOk X.prog d) (hr : Room (k + 1) X.A) (hg : Gl X "BadTable") (hm : X.mg "BadTable" = some (.ref (C_ X.K))) (ha : PA X [e] ta)
    (he : starEach [e] X.env = (false, eval e X.env) :: starEach [] X.env := by rfl) : PMk X (.Call (.Name "BadTable" p) [e] [] pos) (tMkB (C_ X.K) ta) := by
  intro pins s σ H Q I h
  have T := S.T
  obtain ⟨nm, q, N, bs, bm, sn, sub, ab, col, dd, k0, k1, k2, k3, k5, hC, hbm⟩ := T.cls
  refine wpAny_Call_Name_kw (ld_glob I hg hm ?_ (by decide))
  refine PySem.W.callWith_K (h₀ := X.base) I.ok.mod.kin T.kC (thn (ha.run pos pins s σ H _ I h) fun us s1 ⟨vs, H1, I1, r1, v, ev, q1⟩ => ⟨I1.kIn, ?_⟩) he (by rfl)
  show wpAny _ _ (call (.ref (C_ X.K)) us) _ _ _
  subst ev
  obtain ⟨u, rfl, ru⟩ : ∃ u, us = [u] ∧ RelV v u := by
    cases r1 with
    | cons a b => cases b; exact ⟨_, rfl, a⟩
  obtain ⟨hp, g, dr, tk, os⟩ := s1
  have kk : ∀ b o, hp.get? b = some o → ((hp.push (PySem.W.kdv_tup [u])).push (PySem.HandSPX.excO (C_ X.K) hp.objs.size)).get? b = some o := fun b o e => Heap.get?_push_of_some _ (Heap.get?_push_of_some _ e)
  have hget : ((hp.push (PySem.W.kdv_tup [u])).push (PySem.HandSPX.excO (C_ X.K) hp.objs.size)).get? (hp.objs.size + 1) = some (PySem.HandSPX.excO (C_ X.K) hp.objs.size) := by heap_get
  have K1 : X.K.In hp := I1.kIn
  refine wpAny_call (PySem.HandSPX.call_own F.excBase_ValueError (fun Y => PySem.HandSPX.refsVE_contains Y bm hbm) (K1 _ _ hC) (PySem.W.looks_findIn K1 S.iC) (fun self => PySem.W.bind_fn K1 self S.tI) (by rw [sizeLine_eq]; simp) ?_)
  obtain ⟨p0, p1, p2, p3, p4, p5, p6, p7, p8, p9, pl, ar, hbody, hE, hX, hpar, har⟩ := D.ex
  obtain ⟨oc, od, kV, doc, pm, an, cda, ct, cc, osl, lk, hcd, ⟨ccl, cdd, fvs, ccs, file, tf, hcode, hvs, hfile⟩, cl, cld, csl, hcel⟩ := S.fn
  obtain ⟨mb, hB1, hB2⟩ := I1.ok.mod.blt
  have G1 : hp.Ns mainGlobals X.mg := I1.mod.glob.keeps I1.bk
  have B1 : hp.Ns builtinsNs mb := hB1.keeps I1.bk
  have hKx : X.K.lookup (hp.objs.size + 1) = none := by
    cases z : X.K.lookup (hp.objs.size + 1) with
    | none => rfl
    | some o =>
      have y := Heap.lt_size (K1 _ _ z)
      exact absurd y (Nat.not_lt.mpr (Nat.le_succ _))
  have hsup : X.mg "super" = none := PySem.W.mg_none_of K1 G1 S.ns
  refine su_init (C := C_ X.K) (f := "reason") (hr.make (C_ X.K) [u] []).depth (K1.keeps kk) (G1.keeps kk) hsup (B1.keeps kk) ((hB2 _ (by decide)).trans (by first | kernel_rfl | rfl)) (I1.nolimit.keeps kk) T S.nf lk hcd hbody pl (hE _ _ _) (fun L => (hX _ _ _ L).1) (fun L => (hX _ _ _ L).2.1) (fun L => (hX _ _ _ L).2.2.1) (fun L => (hX _ _ _ L).2.2.2)
    (fun s => BindsTo.of_eq (D.bind _ _ _ _ _ _ _ _ _)) D.ks D.kc D.ka D.kf D.kind D.co D.gen D.cell (by decide) (by decide) hpar har hcode hvs (by rw [hfile]; exact beq_self_eq_true _) hcel S.th S.su S.ve D.top hget hKx ?_
  intro h' tk' dx t1 kp sz dne hx' hn'
  refine ⟨rfl, ?_⟩
  -- the exception is let go
  have hsd : hp.objs.size ≤ dx := Nat.le_trans (by rw [Heap.size_push, Heap.size_push]; omega) sz
  obtain ⟨Gh, g1, g2⟩ := restrict h' fun b => decide (b ≠ hp.objs.size + 1)
  have gk : ∀ b, b ≠ hp.objs.size + 1 → Gh.get? b = h'.get? b := fun b hb => g1 b (decide_eq_true hb)
  have ge : Gh.get? (hp.objs.size + 1) = none := g2 _ (by simp)
  have rel : ∀ f, RelO (([("reason", v)] : List (Str × V)).lookup f) (if f = "reason" then some u else none) := relO_put (fs := []) (mA := fun _ => none) ru fun g => True.intro
  have J : Inv X pins σ (upd H1 dx (.xd [("reason", v)])) ⟨Gh, g, dr, tk', os⟩ := I1.laid (t' := tk') (a := dx) (o := .xd [("reason", v)]) (h' := Gh) (fun b o e => by
    have hb : b ≠ hp.objs.size + 1 := Nat.ne_of_lt (Nat.lt_succ_of_lt (Heap.lt_size e))
    rw [gk b hb]
    exact kp b o hb (kk b o e)) hsd ⟨_, hn'.at fun o y => (gk dx dne).trans y, rel⟩
  have hq := q1 dx (I1.hok.fresh hsd)
  exact ⟨hp.objs.size + 1, _, _, ⟨Gh, g, dr, tk', os⟩, _, .ref (C_ X.K), some dx, rfl, J, fun b o e => by
    by_cases hb : b = hp.objs.size + 1
    · rw [hb, ge] at e; cases e
    · exact (gk b hb).symm.trans e, ge, hx', ⟨rfl, rfl⟩, rfl, rfl, by rw [upd_ne (Ne.symm dne)]; exact I1.hok.fresh (Nat.le_succ _), rfl, I1.bare, raises_own T.exC T.tyC, hq⟩
end VX

set_option Elab.async false
set_option linter.all false
set_option maxRecDepth 100000
set_option maxHeartbeats 4000000
/-! The value layer, part R: what is raised, and told. -/
namespace VX
open PySem PySem.Spec PyProof.Rows L2 LamX
/-! ### _law_reason -/
def TReason (C : Addr) : (XK → Hp → VK → Prop) → Hp → VK → Prop := fun tl H Q =>
  tl (fun cls d H' => ∃ (r : Str) (dx : Addr), cls = .ref C ∧ d = some dx ∧ H' dx = some (.xd [("reason", .str r)]) ∧ Q (.str r) H') H (fun _ H' => Q .non H')
theorem takes_len {X : Cx} {W : WX} (tk : Takes X W) : Takes X (fun cls d σ H => σ.length = X.N.length → W cls d σ H) := fun u s' ⟨a, B, sI, pins, σ, H, cls, d, e, I, nb, up, sky, na, os, ag, w⟩ =>
  tk u s' ⟨a, B, sI, pins, σ, H, cls, d, e, I, nb, up, sky, na, os, ag, w I.len⟩
theorem reason_gives {X : Cx} {Ng : List Str} {sg : Scope} {g : Addr} {cdg : Value} {q : Str} {C : Addr} {j : Nat} {p1 p2 p3 p4 p5 p6 p7 p8 p9 p10 p11 : Pos} (T : XfC X.K C) (hnf : PySem.W.findIn X.K (.ref C) "reason" = some none) (hex : PySem.W.exmOne X.K (.ref C) (.ref C) = some true)
    (hge : sg.names.lookup ("BadTable" : Str) = some .globalImplicit) (hme : X.mg "BadTable" = some (.ref C)) (hN : Ng.Nodup) (h0 : Ng[0]? = some ("call" : Str)) (h1 : Ng[1]? = some ("e" : Str)) (hl : Ng.length = 2) (hke : sg.names.lookup ("e" : Str) = some .local)
    (hsw : ∀ (X : Cx), swapsWith (.Call (.Name "call" p1) [] [] p2) none p3.line X.env = pure false := by intro _; rfl) :
    GivesTo X Ng "_law_reason" sg g cdg [.Try [.Expr (.Call (.Name "call" p1) [] [] p2) p3] [.ExceptHandler (some (.Name "BadTable" p4)) (some "e") [.Return (some (.Attribute (.Name "e" p5) "reason" p6)) p7] p8] [] [] p9, .Return (some (.Constant .none j p10)) p11] "call" q (TReason C) := by
  intro f c' s H Q tl act hc h
  have hgl : Gl (cxOf C8.CX0 X.prog X.w X.K X.mg X.base Ng "_law_reason" sg g cdg X.A X.stack s H C8.E0).nox "BadTable" := hge
  have es : L2.start Ng [V.ref f] = [some (.ref f), none] := by
    unfold L2.start
    simp [hl]
  refine ⟨_, pss_cons (ps_try_as (X := (cxOf C8.CX0 X.prog X.w X.K X.mg X.base Ng "_law_reason" sg g cdg X.A X.stack s H C8.E0).nox) (c := .ref C) (i := 1)
      (tb := fun W D σ H => ∃ Ech : XK, (∀ cls d σ' H', σ'.length = Ng.length → Ech cls d H' → W cls d σ' H') ∧ σ[0]? = some (some (.ref f)) ∧ H c' = some (CodeO c' q) ∧ tl Ech H (fun _ H1 => D.nx σ H1))
      rfl rfl hN h1 hke ⟨hgl, by decide, .inl hme⟩ takes0 (fun W pn xe tk _ => ?_) (fun a oe cls d pn hz hf => pss_one (ps_ret (pe_xf T hnf hz hf (pe_var (i := 1) (by exact h1) (.inl hke) (by decide) (by decide)))))) (pss_one (ps_ret pe_non)), ?_⟩
  · refine ⟨fun pins s' σ H' D I h' => ?_⟩
    obtain ⟨Ech, hW, g1, g2, g3⟩ := h'
    have hp := act _ pn xe Ech p1 p2 (takes_len tk) (fun cls d σ' H' e hlen => hW cls d σ' H' hlen e)
    have hq := pss_one (ps_expr (pos := p3) hp (hsw _))
    exact hq.run pins s' σ H' D I ⟨g1, g2, g3⟩
  · refine ⟨fun cls d H' => ∃ (r : Str) (dx : Addr), cls = .ref C ∧ d = some dx ∧ H' dx = some (.xd [("reason", .str r)]) ∧ Q (.str r) H', fun cls d σ' H' hlen ⟨r, dx, e1, e2, e3, e4⟩ => ?_, by rw [es]; rfl, hc, h⟩
    subst e1
    subst e2
    refine ⟨true, hex, fun _ a _ => ?_, fun z => by cases z⟩
    refine ⟨.ref a, ?_, rfl, rfl, dx, _, .str r, rfl, e3, by simp [List.lookup], e4⟩
    rw [List.getElem?_set_self (by rw [hlen, hl]; omega)]
end VX

set_option Elab.async false
set_option linter.all false
set_option maxRecDepth 100000
set_option maxHeartbeats 4000000
/-! The value layer, part S: defs that raise, lambdas told. -/
namespace VL
open PySem PySem.Spec PyProof.Rows L2 LamX
open Classical
abbrev VNX := List D → (D → Prop) → (Str → Prop) → Prop
abbrev VTX := (Str → Prop) → VT
abbrev VSX := (Str → Prop) → VS
/-- what is wanted of a raise: all of F still stands -/
def XOk (C : Addr) (E : XK) (F : Hp) (Rv : Str → Prop) : Prop := ∀ (r : Str) (dx : Addr) (H' : Hp), Rv r → Same F H' → H' dx = some (.xd [("reason", .str r)]) → E (.ref C) (some dx) H'
theorem XOk.mono {C : Addr} {E : XK} {F F' : Hp} {Rv : Str → Prop} (x : XOk C E F Rv) (s : Same F F') : XOk C E F' Rv := fun r dx H' a b c => x r dx H' a (s.trans b) c
def LFx (K : PySem.W.Frag) (C : Addr) (sp : VNX) : Sp := fun vs H Q E => ∃ (B : Addr → Prop) (ds : List D) (Qv : D → Prop) (Rv : Str → Prop), (∀ b, B b → H b ≠ none) ∧ Rps K (hid B H) vs ds ∧ sp ds Qv Rv ∧
  (∀ d v H', Qv d → Same H H' → Rp K (hid B H') v d → Q v H') ∧ XOk C E H Rv
section
variable (K : PySem.W.Frag) (M : Fm) (C : Addr) (E : XK)
def LEx (t : VTX) : TE := fun σ H Q => ∃ F ev ρ Qv Rv, Rl K M F ev σ H ρ ∧ t Rv ev Qv ∧ XOk C E F Rv ∧
  ∀ d ev' v H', Qv d ev' → Rl K M F ev' σ H' ρ → Same (hd M ρ H) (hd M ρ H') → Rp K (hd M ρ H') v d → Q v H'
def LSx (t : VSX) : TS := fun D σ H => ∃ F ev ρ D' Rv, Rl K M F ev σ H ρ ∧ t Rv D' ev ∧ XOk C E F Rv ∧ Post K M F D' D
end
section
variable {X : Cx} {M : Fm} {C : Addr} {E : XK} {e c : Expr} {st : Stmt} {rest bs cs : List Stmt} {pos : Pos}
theorem pex_of {t : VT} (h : VE X M e t) : PE X e (LEx X.K M C E fun _ => t) := ⟨fun pins s σ H Q I ⟨F, ev, ρ, Qv, Rv, R, q, x, k⟩ => (h.pe F).run pins s σ H Q I ⟨ev, ρ, Qv, R, q, k⟩⟩
theorem psx_of {t : VS} (h : VSt X M st t) : PS X st (LSx X.K M C E fun _ => t) := ⟨fun pins s σ H D I ⟨F, ev, ρ, D', Rv, R, q, x, k⟩ => (h.ps F).run pins s σ H D I ⟨ev, ρ, D', R, q, k⟩⟩
theorem pssx_of {t : VS} (h : VSs X M rest t) : PSs X rest (LSx X.K M C E fun _ => t) := ⟨fun pins s σ H D I ⟨F, ev, ρ, D', Rv, R, q, x, k⟩ => (h.ps F).run pins s σ H D I ⟨ev, ρ, D', R, q, k⟩⟩
def vxSeq (t u : VSX) : VSX := fun Rv => vSeq (t Rv) (u Rv)
theorem pssx_cons {t u : VSX} (h1 : PS X st (LSx X.K M C E t)) (h2 : PSs X rest (LSx X.K M C E u)) : PSs X (st :: rest) (LSx X.K M C E (vxSeq t u)) :=
  pssI (pss_cons h1 h2) fun D σ H ⟨F, ev, ρ, D', Rv, R, q, x, k⟩ => ⟨F, ev, ρ, _, Rv, R, q, x, fun e1 σ1 H1 ρ1 q1 R1 => ⟨F, e1, ρ1, D', Rv, R1, q1, x, k⟩, k.rt, k.bk, k.ct⟩
theorem pssx_one {t : VSX} (h1 : PS X st (LSx X.K M C E t)) : PSs X [st] (LSx X.K M C E t) := pss_one h1
def vxIf (t : VTB) (u w : VSX) : VSX := fun Rv => vIfS t (u Rv) (w Rv)
theorem ptx {t : VTB} (hc : VB X M c t) : PT X c (fun σ H Q => ∃ F, LB X.K M F t σ H Q) := ⟨fun pins s σ H Q I ⟨F, h⟩ => (hc.pt F).run pins s σ H Q I h⟩
theorem psx_if {t : VTB} {u w : VSX} (hc : VB X M c t) (ha : PSs X bs (LSx X.K M C E u)) (hb : PSs X cs (LSx X.K M C E w)) : PS X (.If c bs cs pos) (LSx X.K M C E (vxIf t u w)) :=
  psI (ps_if (ptx hc) ha hb) fun D σ H ⟨F, ev, ρ, D', Rv, R, q, x, k⟩ => ⟨F, ev, ρ, _, R, q, fun z e1 H1 q1 R1 s1 => by
    cases z with
    | true => exact ⟨F, e1, ρ, D', Rv, R1, q1, x, k⟩
    | false => exact ⟨F, e1, ρ, D', Rv, R1, q1, x, k⟩⟩
def vxRaise (r : Str) : VSX := fun Rv _ _ => Rv r
theorem psx_raise {d : VX.InitD} {r : Str} {j k : Nat} {p p2 p3 : Pos} (hc : X.calm = true) (tk : Takes X (fun cls d _ H => E cls d H)) (S : VX.Says X.prog.main.file d X.K) (D : VX.InitOk X.prog d) (hr : Room (k + 1) X.A) (hg : Gl X "BadTable") (hm : X.mg "BadTable" = some (.ref (VX.C_ X.K)))
    (he : starEach [.Constant (.str r) j p2] X.env = (false, eval (.Constant (.str r) j p2) X.env) :: starEach [] X.env := by rfl) :
    PS X (.Raise (some (.Call (.Name "BadTable" p) [.Constant (.str r) j p2] [] p3)) none pos) (LSx X.K M (VX.C_ X.K) E (vxRaise r)) :=
  psI (ps_raise hc tk (VX.pmk_bad S D hr hg hm (pa_cons pe_str pa_nil he) he)) fun D σ H ⟨F, ev, ρ, D', Rv, R, q, x, k⟩ => ⟨_, rfl, fun d hd => x r d _ q (R.frz.trans (same_upd hd)) upd_same⟩
def vxRet (t : VTX) : VSX := fun Rv D ev => t Rv ev D.rt
theorem psx_ret {t : VTX} (h : PE X e (LEx X.K M C E t)) : PS X (.Return (some e) pos) (LSx X.K M C E (vxRet t)) :=
  psI (ps_ret h) fun D σ H ⟨F, ev, ρ, D', Rv, R, q, x, k⟩ => ⟨F, ev, ρ, _, Rv, R, q, x, fun d e1 v H1 q1 R1 s1 r1 => k.rt d v e1 σ H1 ρ q1 R1 r1⟩
def vxAsg (t : VTX) (g : VG) : VSX := fun Rv D ev => t Rv ev fun d e1 => g d e1 D.nx
theorem ptg {vs : List Nat} {g : VG} (hg : VTg X M vs e g) : PG X e (fun v σ H Q => ∃ F, LG X.K M F vs g v σ H Q) := ⟨fun pins s σ H v u Q I r ⟨F, q⟩ => (hg.pg F).run pins s σ H v u Q I r q⟩
theorem psx_asg {tg : Expr} {t : VTX} {g : VG} {vs : List Nat} (he : PE X e (LEx X.K M C E t)) (hg : VTg X M vs tg g) (hs : swapsWithSole [tg] e pos.line X.env = pure false := by rfl) (hw : swappedStores [tg] e X.env = pure none := by rfl)
    (h1 : (assignEach [tg] X.env).map (·.2) = [assign tg X.env] := by rfl) : PS X (.Assign [tg] e pos) (LSx X.K M C E (vxAsg t g)) :=
  psI (ps_asg he (ptg hg) hs hw h1) fun D σ H ⟨F, ev, ρ, D', Rv, R, h, x, k⟩ => ⟨F, ev, ρ, _, Rv, R, h, x, fun d e1 v H1 q1 R1 s1 r1 => ⟨F, d, e1, ρ, _, R1, r1, q1, fun e2 σ2 H2 ρ2 q2 R2 s2 w2 _ => k.nx e2 σ2 H2 ρ2 q2 R2⟩⟩
def vxCall (sp : VNX) (ta : VTA) : VTX := fun Rv ev Q => ta ev fun ds e1 => sp ds (fun d => Q d e1) Rv
theorem pex_call {x : Str} {f : Addr} {fd : FuncData} {ps : List Str} {k : Nat} {sp : VNX} {es : List Expr} {t : VTA} {p : Pos} (G : FnOk X.prog X.w X.K X.mg X.base (L2.CX X.prog X.w) k f fd ps (LFx X.K C sp)) (tk : Takes X (fun cls d _ H => E cls d H)) (hr : Room k X.A) (hg : Gl X x) (hm : X.mg x = some (.ref f)) (hk : PySem.W.keepIn X.K (.ref f) = true) (hb : L2.Binds X.K fd ps []) (ha : VA X M (e :: es) t)
    (hdb : (x == ("__debug__" : Str)) = false := by decide) (he : starEach (e :: es) X.env = (false, eval e X.env) :: starEach es X.env := by rfl) (hpl : (backTo pos (starEach es X.env)).any (·.1) = false := by rfl) :
    PE X (.Call (.Name x p) (e :: es) [] pos) (LEx X.K M C E (vxCall sp t)) :=
  ⟨fun pins s σ H Q I ⟨F, ev, ρ, Qv, Rv, R, h, x, kk⟩ => (pe_call G hr hg hm hk hb .nil (passes_call tk fun _ _ _ _ z => z) (ha.pa F) hdb he hpl).run pins s σ H Q I ⟨ev, ρ, _, R, h, fun ds e1 vs H1 hn q1 R1 s1 r1 =>
    ⟨Own M ρ, ds, _, Rv, R1.tr, by rw [List.append_nil]; exact r1, q1, fun d v H' qd sm rr => kk d e1 v H' qd (R1.same sm) (s1.trans (same_hid sm)) rr, x.mono R1.frz⟩⟩⟩
end
theorem fn_okX {P : Program} {w : World} {K : PySem.W.Frag} {mg : Str → Option Value} {base : Heap} {C : Addr} {x : Str} {st : Stmt} {f : Addr} {fd : FuncData} {N ps : List Str} {k : Nat} {sp : VNX} {t : VSX} (F : FnP K x st f fd) (S : FnScope N ps (defScope st)) (len : ∀ ds Q Rv, sp ds Q Rv → ds.length = ps.length)
    (hb : ∀ (cdv : Value) (A : Around) (outer : List Env) (s : Shared) (H : Hp) (E : XK) (B : Addr → Prop), Room k (A.deeper (envOfC x (defScope st) s.heap.objs.size f cdv)) →
      PSs (cxOf (L2.CX P w) P w K mg base N x (defScope st) f cdv A outer s H E) (defBody st) (LSx K ⟨B, none⟩ C E t))
    (hq : ∀ ds Q Rv, sp ds Q Rv → t Rv { nx := fun _ => Q .none, rt := fun d _ => Q d } (ev0 N ds)) : FnOk P w K mg base (L2.CX P w) (k + 1) f fd ps (LFx K C sp) := by
  refine F.ok S (fun vs H Q E ⟨B, ds, Qv, Rv, _, r, h, _⟩ => r.len.trans (len ds Qv Rv h)) fun cdv A outer s H vs Q E hr ⟨B, ds, Qv, Rv, hB, r, h, post, xp⟩ => ⟨_, hb cdv A outer s H E B hr, H, ev0 N ds, fun _ => none, _, Rv, rl_start hB r, hq ds Qv Rv h, xp, ?_⟩
  have up : ∀ {ρ : Nat → Option Addr} {H' : Hp}, Same (hd ⟨B, none⟩ ρ H') (hid B H') := same_hid_sub fun b z => .inl z
  exact ⟨fun ev σ H' ρ q R => post .none .non H' q R.frz .non, fun d v ev σ H' ρ q R rr => post d v H' q R.frz (rr.mono up), fun ev σ H' ρ q R => q.elim, fun ev σ H' ρ q R => q.elim⟩
end VL

set_option Elab.async false
set_option linter.all false
set_option maxRecDepth 100000
set_option maxHeartbeats 4000000
/-! The value layer, part T: the law's own def: lambdas, the end. -/
namespace VL
open PySem PySem.Spec PyProof.Rows L2 LamX
open Classical
abbrev TT' := List (Addr × Str)
/-- all but tables are kept -/
theorem same_seqTN {K : PySem.W.Frag} {H H' : Hp} {a : Addr} {xs : List V} (e : ExtN H H') (h : SqT K H a xs) : SqT K H' a xs := by
  rcases h with (h | ⟨o, h⟩) | h
  · exact .inl (.inl (e _ _ h fun _ z => nomatch z))
  · exact .inl (.inr ⟨o, e _ _ h fun _ z => nomatch z⟩)
  · exact .inr h
mutual
theorem Rp.monoN {K : PySem.W.Frag} {H H' : Hp} (e : ExtN H H') : ∀ {v : V} {d : D}, Rp K H v d → Rp K H' v d
  | _, _, .non => .non
  | _, _, .bl b => .bl b
  | _, _, .int i => .int i
  | _, _, .str x => .str x
  | _, _, .lst h a => .lst (e _ _ h fun _ z => nomatch z) (Rps.monoN e a)
  | _, _, .tup h a => .tup (same_seqTN e h) (Rps.monoN e a)
theorem Rps.monoN {K : PySem.W.Frag} {H H' : Hp} (e : ExtN H H') : ∀ {vs : List V} {ds : List D}, Rps K H vs ds → Rps K H' vs ds
  | _, _, .nil => .nil
  | _, _, .cons h t => .cons (Rp.monoN e h) (Rps.monoN e t)
end
theorem seqLN {K : PySem.W.Frag} {H H' : Hp} {a : Addr} {xs : List V} (e : ExtN H H') (h : SqL K H a xs) : SqL K H' a xs := by
  rcases h with (h | ⟨o, h⟩) | h
  · exact .inl (.inl (e _ _ h fun _ z => nomatch z))
  · exact .inl (.inr ⟨o, e _ _ h fun _ z => nomatch z⟩)
  · exact .inr h
theorem extN_hid {O : Addr → Prop} {H H' : Hp} (e : ExtN H H') : ExtN (hid O H) (hid O H') := fun b o h n =>
  let ⟨h1, h2⟩ := hid_some.mp h; hid_some.mpr ⟨h1, e b o h2 n⟩
/-- what no slot owns -/
noncomputable def unowned (ρ : Nat → Option Addr) (H : Hp) : Hp := hid (fun b => ∃ i, ρ i = some b) H
/-- the slots that own a list are forgotten -/
def dropS : SV → SV
  | .ow _ => .un
  | s => s
def dropOw (ev : Ev) : Ev := ev.map dropS
theorem sv_dropOw (ev : Ev) (i : Nat) : sv (dropOw ev) i = dropS (sv ev i) := by
  unfold sv dropOw
  simp only [List.getD, List.getElem?_map]
  cases ev[i]? <;> rfl
section
variable {K : PySem.W.Frag} {M : Fm} {F : Hp} {ev : Ev} {σ : L2.St} {H H' : Hp} {ρ : Nat → Option Addr} {T : TT'}
theorem unowned_tabs (R : Rl K M F ev σ H ρ) (t : Tabs T H) : Tabs T (unowned ρ H) := fun p hp => by
  obtain ⟨ps, h1, h2, h3⟩ := t p hp
  have no : ∀ {b : Addr} {o : HO}, H b = some o → (∀ vs, o ≠ .lst vs) → unowned ρ H b = some o := fun {b o} e n => hid_some.mpr ⟨fun ⟨i, hi⟩ => by
    obtain ⟨vs, q⟩ := R.ow i b hi
    rw [e] at q
    exact n vs (Option.some.inj q), e⟩
  refine ⟨ps, no h1 (fun _ z => nomatch z), h2, fun pos cv hc => ?_⟩
  obtain ⟨c, e1, e2⟩ := h3 pos cv hc
  exact ⟨c, e1, no e2 fun vs z => by
    have z' : HO.ext _ = HO.lst vs := z
    cases z'⟩
/-- a table has grown, the rest stands -/
theorem Rl.extN (R : Rl K M F ev σ H ρ) (e : ExtN H H') (hM : ∀ b, M.B b → H' b ≠ none) : Rl K M (unowned ρ H') ev σ H' ρ where
  len := R.len
  frz := same_hid_of
  ofr := fun i a h => ⟨hid_in ⟨i, h⟩, (R.ofr i a h).2⟩
  btr := hM
  inj := R.inj
  ex := R.ex
  bx := R.bx
  sl := fun i => by
    have h := R.sl i
    revert h
    cases sv ev i with
    | un => exact id
    | fr d => exact fun ⟨h0, v, h1, h2⟩ => ⟨h0, v, h1, h2.monoN (extN_hid e)⟩
    | ow ds => exact fun ⟨a, vs, h1, h2, h3, h4⟩ => ⟨a, vs, h1, h2, e _ _ h3 (fun _ z => nomatch z), h4.monoN (extN_hid e)⟩
    | rw ns => exact fun ⟨h0, a, h1, h2⟩ => ⟨h0, a, h1, seqLN (extN_hid e) h2⟩
/-- behind an exception: what no slot owned stands -/
theorem Rl.dropped (R : Rl K M F ev σ H ρ) (hβ : M.β = none) (e : Same (unowned ρ H) H') (hM : ∀ b, M.B b → ∀ i, ρ i ≠ some b) : Rl K M (unowned ρ H) (dropOw ev) σ H' (fun _ => none) where
  len := by unfold dropOw; rw [List.length_map]; exact R.len
  frz := e
  ofr := fun i a h => nomatch h
  btr := fun b z => by
    have h1 := R.btr b z
    cases q : H b with
    | none => exact absurd q h1
    | some o =>
      have h2 : unowned ρ H b = some o := hid_some.mpr ⟨fun ⟨i, hi⟩ => hM b z i hi, q⟩
      rw [e b o h2]
      exact fun y => nomatch y
  inj := fun i j a h => nomatch h
  ex := fun i a h => nomatch h
  bx := fun a h => by rw [hβ] at h; cases h
  sl := fun i => by
    have up : Same (hd M ρ H) (hd M (fun _ => none) H') := fun b o z => by
      obtain ⟨z1, z2⟩ := hid_some.mp z
      refine hid_some.mpr ⟨fun y => ?_, e b o (hid_some.mpr ⟨fun y => z1 (.inr y), z2⟩)⟩
      rcases y with y | ⟨j, y⟩
      · exact z1 (.inl y)
      · cases y
    have h := R.sl i
    rw [sv_dropOw]
    revert h
    cases sv ev i with
    | un => exact id
    | fr d => exact fun ⟨h0, v, h1, h2⟩ => ⟨rfl, v, h1, h2.mono up⟩
    | ow ds => exact fun _ => trivial
    | rw ns => exact fun ⟨h0, a, h1, h2⟩ => ⟨rfl, a, h1, up.seq h2⟩
end
section
variable (K : PySem.W.Frag) (M : Fm) (T : TT')
def LTE (t : VT) : TE := fun σ H Q => ∃ F ev ρ Qv, Tabs T F ∧ Rl K M F ev σ H ρ ∧ t ev Qv ∧
  ∀ d ev' v F' H' ρ', Tabs T F' → Qv d ev' → Rl K M F' ev' σ H' ρ' → Rp K (hd M ρ' H') v d → Q v H'
def LTB (t : VTB) : TT := fun σ H Q => ∃ F ev ρ Qv, Tabs T F ∧ Rl K M F ev σ H ρ ∧ t ev Qv ∧
  ∀ d ev' F' H' ρ', Tabs T F' → Qv d ev' → Rl K M F' ev' σ H' ρ' → Q d H'
def LTS (t : VS) : TS := fun D σ H => ∃ F ev ρ D', Tabs T F ∧ Rl K M F ev σ H ρ ∧ t D' ev ∧ ∀ F', Tabs T F' → Post K M F' D' D
end
section
variable {X : Cx} {M : Fm} {T : TT'} {e a b c : Expr} {st : Stmt} {rest bs cs : List Stmt} {pos : Pos}
theorem pet_of {t : VT} (h : VE X M e t) : PE X e (LTE X.K M T t) := ⟨fun pins s σ H Q I ⟨F, ev, ρ, Qv, tb, R, q, k⟩ => (h.pe F).run pins s σ H Q I ⟨ev, ρ, Qv, R, q, fun d ev' v H' q1 R1 s1 r1 => k d ev' v F H' ρ tb q1 R1 r1⟩⟩
theorem ptt_of {t : VTB} (h : VB X M e t) : PT X e (LTB X.K M T t) := ⟨fun pins s σ H Q I ⟨F, ev, ρ, Qv, tb, R, q, k⟩ => (h.pt F).run pins s σ H Q I ⟨ev, ρ, Qv, R, q, fun d ev' H' q1 R1 s1 => k d ev' F H' ρ tb q1 R1⟩⟩
theorem pst_of {t : VS} (h : VSt X M st t) : PS X st (LTS X.K M T t) := ⟨fun pins s σ H D I ⟨F, ev, ρ, D', tb, R, q, k⟩ => (h.ps F).run pins s σ H D I ⟨ev, ρ, D', R, q, k F tb⟩⟩
theorem psst_of {t : VS} (h : VSs X M rest t) : PSs X rest (LTS X.K M T t) := ⟨fun pins s σ H D I ⟨F, ev, ρ, D', tb, R, q, k⟩ => (h.ps F).run pins s σ H D I ⟨ev, ρ, D', R, q, k F tb⟩⟩
theorem psst_cons {t u : VS} (h1 : PS X st (LTS X.K M T t)) (h2 : PSs X rest (LTS X.K M T u)) : PSs X (st :: rest) (LTS X.K M T (vSeq t u)) :=
  pssI (pss_cons h1 h2) fun D σ H ⟨F, ev, ρ, D', tb, R, q, k⟩ => ⟨F, ev, ρ, _, tb, R, q, fun F' tb' => ⟨fun e1 σ1 H1 ρ1 q1 R1 => ⟨F', e1, ρ1, D', tb', R1, q1, k⟩, (k F' tb').rt, (k F' tb').bk, (k F' tb').ct⟩⟩
theorem psst_one {t : VS} (h1 : PS X st (LTS X.K M T t)) : PSs X [st] (LTS X.K M T t) := pss_one h1
theorem psst_nil : PSs X [] (LTS X.K M T vNext) := psst_of vs_nil
theorem pst_if {t : VTB} {u w : VS} (hc : PT X c (LTB X.K M T t)) (ha : PSs X bs (LTS X.K M T u)) (hb : PSs X cs (LTS X.K M T w)) : PS X (.If c bs cs pos) (LTS X.K M T (vIfS t u w)) :=
  psI (ps_if hc ha hb) fun D σ H ⟨F, ev, ρ, D', tb, R, q, k⟩ => ⟨F, ev, ρ, _, tb, R, q, fun z e1 F1 H1 ρ1 tb1 q1 R1 => by
    cases z with
    | true => exact ⟨F1, e1, ρ1, D', tb1, R1, q1, k⟩
    | false => exact ⟨F1, e1, ρ1, D', tb1, R1, q1, k⟩⟩
theorem pst_ret {t : VT} (h : PE X e (LTE X.K M T t)) : PS X (.Return (some e) pos) (LTS X.K M T (vRet t)) :=
  psI (ps_ret h) fun D σ H ⟨F, ev, ρ, D', tb, R, q, k⟩ => ⟨F, ev, ρ, _, tb, R, q, fun d e1 v F1 H1 ρ1 tb1 q1 R1 r1 => (k F1 tb1).rt d v e1 σ H1 ρ1 q1 R1 r1⟩
/-- x == a text -/
def vEqS (s : Str) (t : VT) : VT := fun ev Q => t ev fun d e1 => dEq d (.str s) fun b => Q b e1
theorem pet_eqS {t : VT} {s : Str} {j : Nat} {p : Pos} (h : PE X e (LTE X.K M T t)) (ho : OpR X (compareOp .Eq) (rEqD X.K)) (hm : behindInMarks .Eq (.Constant (.str s) j p) = false := by rfl) : PE X (.Compare e [.Eq] [.Constant (.str s) j p] pos) (LTE X.K M T (vEqS s t)) :=
  peI (pe_cmpR ho h pe_str hm) fun σ H Q ⟨F, ev, ρ, Qv, tb, R, q, k⟩ => ⟨F, ev, ρ, _, tb, R, q, fun d e1 v F1 H1 ρ1 tb1 q1 R1 r1 =>
    ov_eq (Own M ρ1) H1 v (.str s) d (.str s) _ _ R1.tr (.inl r1) (.inl (.str s)) q1 fun v2 H2 d2 q2 sm rr => k d2 e1 v2 F1 H2 ρ1 tb1 q2 (R1.same sm) rr⟩
theorem ptt_eqS {t : VT} {s : Str} {j : Nat} {p : Pos} (h : PE X e (LTE X.K M T t)) (ho : OpR X (compareOp .Eq) (rEqD X.K)) (hm : behindInMarks .Eq (.Constant (.str s) j p) = false := by rfl) : PT X (.Compare e [.Eq] [.Constant (.str s) j p] pos) (LTB X.K M T (vB (vEqS s t))) :=
  ptI (pt_cmpR ho h pe_str hm) fun σ H Q ⟨F, ev, ρ, Qv, tb, R, q, k⟩ => ⟨F, ev, ρ, _, tb, R, q, fun d e1 v F1 H1 ρ1 tb1 q1 R1 r1 =>
    show rEqD X.K v (V.str s) H1 (fun x H' => ∃ k, x = V.bl k ∧ Q k H') from ov_eq (Own M ρ1) H1 v (.str s) d (.str s) _ _ R1.tr (.inl r1) (.inl (.str s)) q1 fun v2 H2 d2 q2 sm rr => by
      cases d2 with
      | bool z => cases rr; exact ⟨z, rfl, k z e1 F1 H2 ρ1 tb1 q2 (R1.same sm)⟩
      | _ => exact q2.elim⟩
theorem ptt_not {t : VTB} (h : PT X a (LTB X.K M T t)) : PT X (.UnaryOp .Not a pos) (LTB X.K M T (vNot t)) :=
  ptI (pt_not h) fun σ H Q ⟨F, ev, ρ, Qv, tb, R, q, k⟩ => ⟨F, ev, ρ, _, tb, R, q, fun d e1 F1 H1 ρ1 tb1 q1 R1 => k (!d) e1 F1 H1 ρ1 tb1 q1 R1⟩
theorem pet_and {t u : VT} {rest : List Expr} (h : PE X a (LTE X.K M T t)) (h2 : PE X (.BoolOp .And (b :: rest) pos) (LTE X.K M T u)) : PE X (.BoolOp .And (a :: b :: rest) pos) (LTE X.K M T (vAndV t u)) :=
  peI (pe_and h h2) fun σ H Q ⟨F, ev, ρ, Qv, tb, R, q, k⟩ => ⟨F, ev, ρ, _, tb, R, q, fun d e1 v F1 H1 ρ1 tb1 q1 R1 r1 => by
    cases d with
    | bool z =>
      cases r1
      cases z with
      | true => exact ⟨true, rfl, F1, e1, ρ1, Qv, tb1, R1, q1, k⟩
      | false => exact ⟨false, rfl, k (.bool false) e1 _ F1 H1 ρ1 tb1 q1 R1 (.bl false)⟩
    | _ => exact q1.elim⟩
/-- _law_reason(lambda: e) -/
def vReason (t : VTX) : VT := fun ev Q => t (fun r => Q (.str r) (dropOw ev)) ev fun _ e1 => Q .none e1
theorem pet_reason {C : Addr} {t : VTX} {g cA P : Addr} {k j : Nat} {pg : Arguments} {sg : Scope} {dV kV doc pm cdv ct oc : Value} {an od : Option Addr} {osl : Array (Option Value)} {params : Arguments} {body : Expr} {scope : Scope} {p lpos : Pos} {p1 p2 p3 p4 p5 p6 p7 p8 p9 p10 p11 : Pos}
    (hT : T = [(P, X.env.qual ++ "<lambda>")]) (hMB : ∀ b, M.B b → b = P) (hβ : M.β = none)
    (S : XfC X.K C) (hnf : PySem.W.findIn X.K (.ref C) "reason" = some none) (hex : PySem.W.exmOne X.K (.ref C) (.ref C) = some true) (hmB : X.mg "BadTable" = some (.ref C))
    (hg : Gl X "_law_reason") (hm : X.mg "_law_reason" = some (.ref g)) (hk : PySem.W.keepIn X.K (.ref g) = true)
    (lk : X.K.lookup g = some ⟨oc, od, .func (PySem.W.fnOf "_law_reason" "_law_reason" pg [.Try [.Expr (.Call (.Name "call" p1) [] [] p2) p3] [.ExceptHandler (some (.Name "BadTable" p4)) (some "e") [.Return (some (.Attribute (.Name "e" p5) "reason" p6)) p7] p8] [] [] p9, .Return (some (.Constant .none j p10)) p11] sg dV kV doc pm an cdv ct), osl⟩)
    (hcg : PySem.W.codeIn X.K cdv "_law_reason" = true) (hb : L2.Binds X.K (PySem.W.fnOf "_law_reason" "_law_reason" pg [.Try [.Expr (.Call (.Name "call" p1) [] [] p2) p3] [.ExceptHandler (some (.Name "BadTable" p4)) (some "e") [.Return (some (.Attribute (.Name "e" p5) "reason" p6)) p7] p8] [] [] p9, .Return (some (.Constant .none j p10)) p11] sg dV kV doc pm an cdv ct) ["call"] [])
    (Sg : FnScope ["call", "e"] ["call"] sg) (hge : sg.names.lookup ("BadTable" : Str) = some .globalImplicit) (hke : sg.names.lookup ("e" : Str) = some .local) (hkc : sg.names.lookup ("call" : Str) = some .local)
    (TB : TabB X.base X.mg cA P) (hcode : X.env.code = .ref cA) (hr : Room (k + 2) X.A) (L : LamS X.env.scope scope) (hdef : defaultsOf params X.env = ([], []))
    (hbind : ∀ (q : Str) (cl : List (Str × Addr)) (pm cv ctv : Value), bindArgs (PySem.W.kla_fn "<lambda>" q params body scope cl pm cv ctv) ⟨[], []⟩ = pure [])
    (hbody : ∀ (A : Around) (outer : List Env) (s : Shared) (H : Hp) (E : XK) (f c' : Addr), Room k (A.deeper (lamEnv X scope s.heap.objs.size f c')) → PE (lamCx X A outer s H E scope f c') body (LEx X.K M C E t))
    (hsw : ∀ (X : Cx), swapsWith (.Call (.Name "call" p1) [] [] p2) none p3.line X.env = pure false := by intro _; rfl) :
    PE X (.Call (.Name "_law_reason" p) [.Lambda params body scope lpos] [] pos) (LTE X.K M T (vReason t)) := by
  subst hT
  refine peI (pe_lamcall (T := [(P, X.env.qual ++ "<lambda>")]) (TT := VX.TReason C) (a := "call") (t := fun E => LEx X.K M C E t) hg hm hk lk hcg hb Sg rfl (.inl hkc) (VX.reason_gives S hnf hex hge hmB Sg.nd rfl rfl rfl hke hsw) TB hcode (List.mem_singleton.mpr rfl)
    (fun q hq _ => by rw [List.mem_singleton.mp hq]) hr L hdef hbind hbody) fun σ H Q ⟨F, ev, ρ, Qv, tb, R, q, k⟩ => ?_
  refine ⟨tb.ext R.frz, fun H1 eN T1 => ?_⟩
  have tH : ∀ b, M.B b → ∃ ps, H1 b = some (.tbl ps) := fun b hb => by
    obtain ⟨ps, h1, _⟩ := T1 _ (List.mem_singleton.mpr rfl)
    rw [hMB b hb]
    exact ⟨ps, h1⟩
  have R1 : Rl X.K M (unowned ρ H1) ev σ H1 ρ := R.extN eN fun b hb => by
    obtain ⟨ps, h1⟩ := tH b hb
    rw [h1]
    exact fun z => nomatch z
  have TU := unowned_tabs R1 T1
  refine ⟨unowned ρ H1, ev, ρ, _, _, R1, q, fun r dx H' hr sm hx => ⟨r, dx, rfl, rfl, hx, ?_⟩, fun d ev' v H' q1 R2 s2 r2 => k .none ev' .non _ H' ρ TU q1 R2 .non⟩
  exact k (.str r) _ _ _ H' (fun _ => none) TU hr (R1.dropped hβ sm fun b hb i e => by
    obtain ⟨vs, z⟩ := R1.ow i b e
    obtain ⟨ps, h1⟩ := tH b hb
    rw [h1] at z
    cases z) (.str r)
end
/-- the law: true at every script -/
def spLaw (K : PySem.W.Frag) (P : Addr) : Sp := fun vs H Q _ => ∃ (a : Addr) (ns : List Int), vs = [.ref a] ∧ H P = some (.tbl #[]) ∧ SqL K H a (ns.map V.int) ∧ ∀ H', Q (.bl true) H'
theorem fn_okLaw {P : Program} {w : World} {K : PySem.W.Frag} {mg : Str → Option Value} {base : Heap} {st : Stmt} {f Pt : Addr} {fd : FuncData} {N : List Str} {k : Nat} {t : VS} (F : FnP K "law" st f fd) (S : FnScope N ["script"] (defScope st))
    (hb : ∀ (cA : Addr) (A : Around) (outer : List Env) (s : Shared) (H : Hp) (E : XK), (∃ oc od osl, K.lookup f = some ⟨oc, od, .func fd, osl⟩ ∧ fd.code = .ref cA) → Room k (A.deeper (envOfC "law" (defScope st) s.heap.objs.size f (.ref cA))) →
      PSs (cxOf CX0 P w K mg base N "law" (defScope st) f (.ref cA) A outer s H E).nox (defBody st) (LTS K ⟨fun b => b = Pt, none⟩ [(Pt, "law.<locals>.<lambda>")] t))
    (hq : ∀ ns, t { nx := fun _ => False, rt := fun d _ => d = .bool true } (evS N ns [])) : FnOk P w K mg base CX0 (k + 1) f fd ["script"] (spLaw K Pt) := by
  obtain ⟨oc, od, dV, kV, doc, pm, an, cdv, ct, osl, rfl, lk, hcd, _, _⟩ := F.ex
  obtain ⟨cA, hcA⟩ := He.codeIn_ref hcd
  subst hcA
  refine fn_of lk hcd S (fun vs H Q E ⟨a, ns, e, _⟩ => by rw [e]; rfl) fun A outer s H vs Q E hr ⟨a, ns, e, hP, hs, hQ⟩ => ?_
  subst e
  have hB : ∀ b, (fun b => b = Pt) b → H b ≠ none := fun b e => by
    have e' : b = Pt := e
    rw [e', hP]
    exact fun z => nomatch z
  have hs' : SqL K (hid (fun b => b = Pt) H) a (ns.map V.int) := seqLN (fun b o h n => hid_some.mpr ⟨fun e => by
    have e' : b = Pt := e
    rw [e', hP] at h
    exact n _ (Option.some.inj h).symm, h⟩) hs
  refine ⟨_, PSs.nox (hb cA A outer s H E ⟨_, _, _, lk, rfl⟩ hr), H, evS N ns [], fun _ => none, _, fun p hp => ?_, rl_startS (ws := []) hB hs' .nil, hq ns, fun F' _ => ⟨fun ev σ H' ρ q R => q.elim, fun d v ev σ H' ρ q R rr => ?_, fun ev σ H' ρ q R => q.elim, fun ev σ H' ρ q R => q.elim⟩⟩
  · rw [List.mem_singleton.mp hp]
    exact TabS.nil hP
  · have q' : d = .bool true := q
    subst q'
    cases rr
    exact hQ H'
end VL
namespace VL
open PySem PySem.Spec PyProof.Rows L2 LamX
/-- BadTable, as a raise needs it -/
structure Bad (P : Program) (K : PySem.W.Frag) (mg : Str → Option Value) (d : VX.InitD) : Prop where
  S : VX.Says P.main.file d K
  D : VX.InitOk P d
  m : mg "BadTable" = some (.ref (VX.C_ K))
/-- _law_reason, as a call needs it -/
structure Rsn (P : Program) (K : PySem.W.Frag) (mg : Str → Option Value) (base : Heap) (d : VX.InitD) (st : Stmt) (cA Pt : Addr) : Prop where
  bad : Bad P K mg d
  fn : ∃ g fd, FnP K "_law_reason" st g fd ∧ mg "_law_reason" = some (.ref g)
  TB : TabB base mg cA Pt
  sc : FnScope ["call", "e"] ["call"] (defScope st)
  ge : (defScope st).names.lookup ("BadTable" : Str) = some .globalImplicit
  ke : (defScope st).names.lookup ("e" : Str) = some .local
  kc : (defScope st).names.lookup ("call" : Str) = some .local
  body : ∃ (p1 p2 p3 p4 p5 p6 p7 p8 p9 p10 p11 : Pos) (j : Nat), defBody st = [.Try [.Expr (.Call (.Name "call" p1) [] [] p2) p3] [.ExceptHandler (some (.Name "BadTable" p4)) (some "e") [.Return (some (.Attribute (.Name "e" p5) "reason" p6)) p7] p8] [] [] p9, .Return (some (.Constant .none j p10)) p11] ∧
    ∀ (X : Cx), swapsWith (.Call (.Name "call" p1) [] [] p2) none p3.line X.env = pure false
  bind : ∀ (fd : FuncData) (g : Addr), FnP K "_law_reason" st g fd → L2.Binds K fd ["call"] []
theorem pet_rsn {X : Cx} {M : Fm} {T : TT'} {st : Stmt} {d : VX.InitD} {t : VTX} {cA Pt : Addr} {k : Nat} {params : Arguments} {body : Expr} {scope : Scope} {p lpos pos : Pos} (Z : Rsn X.prog X.K X.mg X.base d st cA Pt)
    (hT : T = [(Pt, X.env.qual ++ "<lambda>")]) (hMB : ∀ b, M.B b → b = Pt) (hβ : M.β = none) (hg : Gl X "_law_reason") (hcode : X.env.code = .ref cA) (hr : Room (k + 2) X.A) (L : LamS X.env.scope scope) (hdef : defaultsOf params X.env = ([], []))
    (hbind : ∀ (q : Str) (cl : List (Str × Addr)) (pm cv ctv : Value), bindArgs (PySem.W.kla_fn "<lambda>" q params body scope cl pm cv ctv) ⟨[], []⟩ = pure [])
    (hbody : ∀ (A : Around) (outer : List Env) (s : Shared) (H : Hp) (E : XK) (f c' : Addr), Room k (A.deeper (lamEnv X scope s.heap.objs.size f c')) → PE (lamCx X A outer s H E scope f c') body (LEx X.K M (VX.C_ X.K) E t)) :
    PE X (.Call (.Name "_law_reason" p) [.Lambda params body scope lpos] [] pos) (LTE X.K M T (vReason t)) := by
  obtain ⟨g, fd, F, hm⟩ := Z.fn
  obtain ⟨p1, p2, p3, p4, p5, p6, p7, p8, p9, p10, p11, j, eb, hsw⟩ := Z.body
  have hb := Z.bind fd g F
  obtain ⟨oc, od, dV, kV, doc, pm, an, cdv, ct, osl, rfl, lk, hcd, _, _⟩ := F.ex
  rw [eb] at lk hb
  exact pet_reason hT hMB hβ Z.bad.S.xf Z.bad.S.nf Z.bad.S.exm Z.bad.m hg hm F.kp lk hcd hb Z.sc Z.ge Z.ke Z.kc Z.TB hcode hr L hdef hbind hbody hsw
structure CalX (P : Program) (w : World) (K : PySem.W.Frag) (mg : Str → Option Value) (base : Heap) (k : Nat) (x : Str) (ps : List Str) (sp : Sp) (f : Addr) (fd : FuncData) : Prop where
  ok : FnOk P w K mg base (L2.CX P w) k f fd ps sp
  b : L2.Binds K fd ps []
  kp : PySem.W.keepIn K (.ref f) = true
  m : mg x = some (.ref f)
end VL

set_option Elab.async false
set_option linter.all false
set_option maxRecDepth 100000
set_option maxHeartbeats 4000000
/-! The value layer, part U: the head's Hook, the end. -/
namespace VX
open PySem PySem.Spec PyProof.Rows PySem.W L2 LamX
abbrev lawP : Str × Option Str := ("law", none)
def tabOk (g : Addr → Option Obj) (K : Frag) : Bool := codeHdIn K (He.cT K lawP).1 (He.cT K lawP).2 && (match g (He.cT K lawP).2 with
  | some o => He.emptyTab o
  | none => false)
structure SaysB (fa : List He.Fa) (fn : List He.DefD) (main : Str) (d : InitD) (h : Heap) (K : Frag) : Prop where
  t : He.SaysD fa fn K
  s : Says main d K
  hd : codeHdIn K (He.cT K lawP).1 (He.cT K lawP).2 = true
  out : K.lookup (He.cT K lawP).2 = none
  empty : h.get? (He.cT K lawP).2 = some { cls := .none, data := .fields #[] }
abbrev AlB : Type := He.AlD × Bool × InW
def obK (fa : List He.Fa) (fn : List He.DefD) (main : Str) (g : Addr → Option Obj) (K : Frag) : AlB := (He.obsD fa fn K, sayB main K && tabOk g K, initW K)
def kB (n : Nat) (g : Addr → Option Obj) : Frag := He.frT g (cStatics :: He.asD g n)
def obB (n : Nat) (fa : List He.Fa) (fn : List He.DefD) (main : Str) (g : Addr → Option Obj) : AlB := obK fa fn main g (kB n g)
def valB (fn : List He.DefD) (d : InitD) : AlB := (He.valD fn, true, d.val)
theorem saysB_of {n : Nat} {fa : List He.Fa} {fn : List He.DefD} {main : Str} {d : InitD} {h : Heap} (e : obB n fa fn main h.get? = valB fn d) : SaysB fa fn main d h (kB n h.get?) := by
  have e1 : He.obsD fa fn (kB n h.get?) = He.valD fn := congrArg (fun z : AlB => z.1) e
  have e2 : (sayB main (kB n h.get?) && tabOk h.get? (kB n h.get?)) = true := congrArg (fun z : AlB => z.2.1) e
  have e3 : initW (kB n h.get?) = d.val := congrArg (fun z : AlB => z.2.2) e
  rw [Bool.and_eq_true] at e2
  obtain ⟨e4, e5⟩ := e2
  unfold tabOk at e5
  rw [Bool.and_eq_true] at e5
  obtain ⟨e6, e7⟩ := e5
  split at e7
  · rename_i o ho
    exact ⟨e1, says_of e3 e4, e6, He.frT_none ho e7, by rw [ho, He.emptyTab_eq e7]⟩
  · cases e7
def hookB (n : Nat) (fa : List He.Fa) (fn : List He.DefD) (main : Str) (d : InitD) : Hook where
  α := AlB
  obs := fun s => obB n fa fn main s.heap.get?
  val := fun _ => valB fn d
  says := fun _ h => ∃ K : Frag, K.In h ∧ SaysB fa fn main d h K
  of := fun _ _ e => ⟨_, He.frT_in, saysB_of e⟩
  keeps := fun _ _ _ ⟨K, hK, c⟩ k => ⟨K, Frag.In.keeps hK k, ⟨c.t, c.s, c.hd, c.out, k _ _ c.empty⟩⟩
theorem obB_eq {n : Nat} {fa : List He.Fa} {fn : List He.DefD} {main : Str} {d : InitD} {g : Addr → Option Obj} {s : Shared} (h : ∀ a, g a = s.heap.get? a) : obB n fa fn main g = (hookB n fa fn main d).obs s := by
  have e : g = s.heap.get? := funext h
  rw [e] <;> rfl
/-- the end -/
theorem walk_B {l : OpenLaw} {n k : Nat} {q : Program} {loose : List Str} {XP : (Str → Option Value) → Heap → Prop} {dr : DefRec} {fa : List He.Fa} {fn : List He.DefD} {main : Str} {d : InitD}
    (hn : l.most = some n) (hn2 : n ≤ sizeLine) (hdf : dr.params.defaults = []) (hr : Room k callerA) (hname : dr.name = ("law" : Str)) (hglo : He.Fa.glo "law" ∈ fa)
    (hF : ∀ (w : World) (mg : Str → Option Value) (h : Heap) (K : Frag), K.In h → h.Ns mainGlobals mg → SaysB fa fn main d h K → ∃ fd : FuncData, (∀ (s : Shared) (u : Value), BindsTo s fd ⟨[u], []⟩ [("script", u)]) ∧
      ∀ base : Heap, K.In base → base.Ns mainGlobals mg → TabB base mg (He.cT K lawP).1 (He.cT K lawP).2 → FnOk l.prog w K mg base C8.CX0 k (He.fAd K lawP) fd ["script"] (VL.spLaw K (He.cT K lawP).2)) :
    WalkO q loose XP (hookB 4 fa fn main d).says l.row.toRowW dr [] (fun f vs => PySem.call f vs) := by
  refine walk_ofTsE (l := l) (n := n) (k := k) (x := "script") (CX := fun _ => C8.CX0) hn hn2 hdf hr ?_ (fun _ _ _ _ _ z => z)
  intro w mg fad h Y G hmg
  obtain ⟨K, KX, c⟩ := Y
  have e1 : mg "law" = some (.ref (He.ga K "law")) := He.glo_ok KX G (He.SaysD.facts c.t hglo)
  have e2 : fad = He.fAd K lawP := by
    rw [hname, e1] at hmg
    cases hmg
    rfl
  subst e2
  obtain ⟨fd, hb, hF'⟩ := hF w mg h K KX G c
  refine ⟨K, KX, fd, [He.cT K lawP], VL.spLaw K (He.cT K lawP).2, fun p hp => by rw [List.mem_singleton.mp hp]; exact c.empty, fun p hp => by rw [List.mem_singleton.mp hp]; exact c.out, fun p hp => by rw [List.mem_singleton.mp hp]; exact PySem.W.codeHd_of_K KX c.hd, hb, fun H a ns _ _ hT hS => ⟨a, ns, rfl, hT _ (List.mem_singleton.mpr rfl), hS, fun _ => rfl⟩, fun base KB GB TB => hF' base KB GB (TB _ (List.mem_singleton.mpr rfl))⟩
end VX

set_option Elab.async false
set_option linter.all false
set_option maxRecDepth 100000
set_option maxHeartbeats 4000000
/-! The value layer, part V: tuple[::-1]. -/
namespace VX
open PySem PySem.Spec PyProof.Rows HT
section
variable {prog : Program} {w : World} {A : Around} {E : Value → Shared → Prop} {s : Shared}
theorem adj_rev (n : Nat) : Builtin.Slice.sliceAdjust none none (-1) (n : Int) = ((n : Int) - 1, -1) := by
  unfold Builtin.Slice.sliceAdjust
  simp
theorem places_rev (n : Nat) : Builtin.Slice.slicePlaces ((n : Int) - 1) (-1) (-1) = n := by
  unfold Builtin.Slice.slicePlaces
  have h1 : ¬ ((-1 : Int) > 0) := by omega
  simp only [h1, if_false]
  have h2 : (n : Int) - 1 - -1 - 1 = n - 1 := by omega
  have h3 : (- -1 : Int) = 1 := by omega
  rw [h2, h3, Int.ediv_one]
  split
  · omega
  · omega
theorem pick_rev (xs : List Value) : ((List.range xs.length).filterMap fun (m : Nat) => xs.toArray[(((xs.length : Nat) : Int) - 1 + (m : Int) * (-1)).toNat]?).toArray = xs.reverse.toArray := by
  congr 1
  have key : ∀ (k : Nat), k ≤ xs.length → ((List.range k).filterMap fun (m : Nat) => xs.toArray[(((xs.length : Nat) : Int) - 1 + (m : Int) * (-1)).toNat]?) = xs.reverse.take k := by
    intro k
    induction k with
    | zero => intro _; simp
    | succ k ih =>
      intro hk
      rw [List.range_succ, List.filterMap_append, ih (by omega)]
      have e : (((xs.length : Nat) : Int) - 1 + (k : Int) * (-1)).toNat = xs.length - 1 - k := by omega
      have h1 : xs.toArray[xs.length - 1 - k]? = some xs[xs.length - 1 - k] := by simp
      simp only [List.filterMap_cons, List.filterMap_nil, e, h1]
      rw [List.take_add_one]
      congr 1
      rw [List.getElem?_reverse (by omega), List.getElem?_eq_getElem (by omega)]
      rfl
  rw [key _ (Nat.le_refl _), List.take_of_length_le (by simp)]
theorem sliceApplied_rev {sl : Addr} {vl vu vs : Value} {n : Nat} {Q : Int × Int × Nat → Shared → Prop} (hs : s.heap.IsSliceOf sl vl vu vs) (pl : IsPart vl none) (pu : IsPart vu none) (ps : IsPart vs (some (-1)))
    (h : Q ((n : Int) - 1, -1, n) s) : wpAny (model prog w) A (Builtin.Slice.sliceApplied (.ref sl) (pure (n : Int))) Q E s := by
  obtain ⟨os, hos, _, hds⟩ := hs
  unfold Builtin.Slice.sliceApplied Builtin.Slice.sliceFields
  refine wpAny_bind (wpAny_bind (wpAny_field hos hds (x := vl) rfl (wpAny_bind (wpAny_field hos hds (x := vu) rfl (wpAny_bind (wpAny_field hos hds (x := vs) rfl (wpAny_pure ?_)))))))
  refine wpAny_bind (slicePart_ ps ?_)
  show wpAny _ _ (if ((-1 : Int) == 0) = true then _ else _) _ _ s
  rw [if_neg (by decide)]
  refine wpAny_bind (slicePart_ pl (wpAny_bind (slicePart_ pu (wpAny_bind (wpAny_pure ?_)))))
  show wpAny _ _ (match Builtin.Slice.sliceAdjust none none (-1) (n : Int) with | (lo, hi) => pure (lo, (-1 : Int), Builtin.Slice.slicePlaces lo hi (-1))) _ _ s
  rw [adj_rev n]
  show wpAny _ _ (pure ((n : Int) - 1, (-1 : Int), Builtin.Slice.slicePlaces ((n : Int) - 1) (-1) (-1))) _ _ s
  rw [places_rev]
  exact wpAny_pure h
theorem getItem_rev {t sl : Addr} {items : List Value} {vl vu vs : Value} {Q : Value → Shared → Prop} (ht : IsTup s.heap t items.toArray) (hs : s.heap.IsSliceOf sl vl vu vs) (pl : IsPart vl none) (pu : IsPart vu none) (ps : IsPart vs (some (-1)))
    (h : Q (.ref s.heap.objs.size) { s with heap := s.heap.push { cls := .type "tuple", data := .seq items.reverse.toArray } })
    (hsz : items.length ≤ sizeLine) : wpAny (model prog w) A (getItem (.ref t) (.ref sl)) Q E s := by
  have htake : sizeOk (.seq items.reverse.toArray) := by
    show items.reverse.toArray.size ≤ sizeLine
    rw [List.size_toArray, List.length_reverse]
    exact hsz
  obtain ⟨os, hos, hcs, hds⟩ := id hs
  have hTs : s.TypeIs (.ref sl) "slice" := ⟨os, hos, hcs⟩
  unfold getItem
  try with_reducible refine wpAny_holding ?_
  first | refine wpAny_bind (wpAny_pure ?_) | skip
  refine wpAny_bind (wpAny_sequenceKey ht.typeIs (by decide) ?_)
  refine wpAny_bind (wpAny_callSpecial?_slot (name := Str.ofString "__getitem__") ht.typeIs PyProof.Rows.slot_tuple_getitem
    (wpAny_call_entry PyProof.Rows.slot_tuple_getitem ht.typeIs entry_tuple_getitem ?_ (args_tuple_getitem _ _)))
  show wpAny _ _ (Builtin.Tuple.tupleItemsOf (.ref t) >>= _) _ _ s
  refine wpAny_bind (tupleItemsOf_ ht ?_)
  refine wpAny_bind (wpAny_typeOf hTs ?_)
  rw [if_pos (by decide)]
  refine wpAny_bind (sliceApplied_rev hs pl pu ps ?_)
  show wpAny _ _ (if (((items.toArray.size : Int) - 1 == 0) && ((-1 : Int) == 1) && (items.toArray.size == items.toArray.size)) = true then _ else _) _ _ s
  rw [if_neg (by simp)]
  have e := pick_rev items
  rw [← List.size_toArray (as := items)] at e
  rw [e]
  first
    | exact wpAny_bind (m := Builtin.Tuple.tupleExact _) (wpAny_newObj_type (wpAny_pure ⟨_, rfl, wpAny_pure h⟩) htake)
    | exact wpAny_bind (m := Builtin.Tuple.tupleExact _) (wpAny_newObj_type (wpAny_bind (wpAny_pure (wpAny_pure ⟨_, rfl, wpAny_pure h⟩))) htake)
    | exact wpAny_bind (wpAny_bind (m := Builtin.Tuple.tupleExact _) (wpAny_newObj_type (wpAny_pure (wpAny_pure ⟨_, rfl, wpAny_pure h⟩)) htake))
    | exact wpAny_bind (wpAny_bind (m := Builtin.Tuple.tupleExact _) (wpAny_newObj_type (wpAny_pure ⟨_, rfl, wpAny_pure h⟩) htake))
end
end VX
namespace VL
open PySem PySem.Spec PyProof.Rows L2
def tRevT (K : PySem.W.Frag) (te : TE) : TE := fun σ H Q => te σ H fun x H1 => ∃ a xs, x = .ref a ∧ SqT K H1 a xs ∧ ∀ p, H1 p = none → Q (.ref p) (upd H1 p (.tup xs.reverse))
section
variable {X : Cx}
theorem pe_revT {e : Expr} {te : TE} {k : Nat} {p1 p2 p3 pos : Pos} (he : PE X e te) : PE X (.Subscript e (.Slice none none (some (.UnaryOp .USub (.Constant (.int 1) k p1) p2)) p3) pos) (tRevT X.K te) := by
  refine ⟨fun pins s σ H Q I h => ?_⟩
  refine Subscript_ (thn (he.run pins s σ H _ I h) fun v s1 ⟨x, H1, I1, r1, q1⟩ => ?_)
  obtain ⟨a, xs, ex, hx, q⟩ := q1
  subst ex
  cases r1
  have hst : PO X (some (.UnaryOp .USub (.Constant (.int 1) k p1) p2)) (tPart (tUn (rU fun i => .int (-i)) (tC (.int 1)))) := po_some (pe_un un_neg pe_int)
  refine wpAny_Slice (thn (po_none.run pins s1 σ H1 (fun o H2 => o = none ∧ H2 = H1) I1 ⟨rfl, rfl⟩) fun vl s2 ⟨l, H2, I2, pl, el, e2⟩ => ?_)
  subst el e2
  refine thn (po_none.run pins s2 σ H2 (fun o H3 => o = none ∧ H3 = H2) I2 ⟨rfl, rfl⟩) fun vu s3 ⟨u, H3, I3, pu, eu, e3⟩ => ?_
  subst eu e3
  refine thn (hst.run pins s3 σ H3 (fun o H4 => o = some (-1) ∧ H4 = H3) I3 ⟨1, rfl, -1, rfl, rfl, rfl⟩) fun vs s4 ⟨o, H4, I4, ps, eo, e4⟩ => ?_
  subst eo e4
  have I5 : Inv X pins σ H4 { s4 with heap := s4.heap.push { cls := .type "slice", data := .fields #[vl, vu, vs] } } := I4.kept (t' := s4.toks) fun b ob z => Heap.get?_push_of_some _ z
  obtain ⟨its, r, ht, hz⟩ := I5.tuple hx
  have hlen := r.length
  show wpAny (model X.prog X.w) X.A (subscriptTail e (.Slice none none (some (.UnaryOp .USub (.Constant (.int 1) k p1) p2)) p3) (.ref a) (.ref s4.heap.objs.size)) (EP X pins σ Q) X.xe { s4 with heap := s4.heap.push { cls := .type "slice", data := .fields #[vl, vu, vs] } }
  refine tail_any (ops := [.ref a, .ref s4.heap.objs.size]) ht.typeIs (PyProof.Rows.slot_tuple_getitem.lookup) ?_ (by with_unfolding_all rfl)
  refine VX.getItem_rev ht (Heap.IsSliceOf.new _ vl vu vs) pl pu ps ?_ (by omega)
  refine ⟨.ref _, _, I5.laid (t' := s4.toks) (o := .tup xs.reverse) (fun b ob z => Heap.get?_push_of_some _ z) (Nat.le_refl _) ?_, rfl, q _ (I5.hok.fresh (Nat.le_refl _))⟩
  exact ⟨by rw [List.length_reverse]; exact hz, _, r.reverse, IsTup.new _ _⟩
/-- xs[::-1] of a tuple -/
def vRevT (t : VT) : VT := fun ev Q => t ev fun d e1 => match d with
  | .tuple ds => Q (.tuple ds.reverse) e1
  | _ => False
theorem ve_revT {M : Fm} {e : Expr} {pos : Pos} {k : Nat} {p1 p2 p3 : Pos} {t : VT} (he : VE X M e t) : VE X M (.Subscript e (.Slice none none (some (.UnaryOp .USub (.Constant (.int 1) k p1) p2)) p3) pos) (vRevT t) :=
  ⟨fun F => peI (pe_revT (he.pe F)) fun σ H Q ⟨ev, ρ, Qv, R, h, kk⟩ => ⟨ev, ρ, _, R, h, fun d e1 v H1 q1 R1 s1 r1 => by
    cases d with
    | tuple ds =>
      obtain ⟨a, ys, rfl, h1, h2⟩ := rt_tup (O := Own M ρ) (.inl r1)
      refine ⟨a, ys, rfl, same_seqT same_hid_of h1, fun p n => ?_⟩
      exact kk _ e1 _ _ q1 (R1.same (same_upd n)) (s1.trans (same_hid (same_upd n))) (new_tup R1.tr n h2.rev)
    | _ => exact q1.elim⟩⟩
end
end VL

set_option Elab.async false
set_option linter.all false
set_option maxRecDepth 100000
set_option maxHeartbeats 0
namespace HD
open PySem PySem.Spec PyProof.Rows L2
abbrev rw_ := PySem.Challenge.rw_allgrids_k35_fractions_continued
abbrev pw_ := PySem.Challenge.pw_allgrids_k35_fractions_continued
def top (i : Nat) : Stmt := pw_.main.body.getD i (.Pass ⟨0, 0, 0, 0⟩)
abbrev s_BadTable___init__ : Stmt := inClass (top 2) 0
abbrev s_divisor : Stmt := top 4
abbrev s_fraction : Stmt := top 5
abbrev s_root : Stmt := top 6
abbrev s_fraction_terms : Stmt := top 8
abbrev s_root_terms : Stmt := top 9
abbrev s_convergents : Stmt := top 10
abbrev s_root_convergents : Stmt := top 11
abbrev s_least_unit : Stmt := top 12
abbrev s_nearest_below : Stmt := top 13
abbrev s_is_nearer : Stmt := top 14
abbrev s__law_cell : Stmt := top 16
abbrev s__law_digits : Stmt := top 17
abbrev s__law_draw : Stmt := top 18
abbrev s__law_gcd : Stmt := top 19
abbrev s__law_fraction : Stmt := top 20
abbrev s__law_less : Stmt := top 21
abbrev s__law_root : Stmt := top 22
abbrev s__law_reason : Stmt := top 23
abbrev s__law_value : Stmt := top 24
abbrev s_law : Stmt := top 25
def d_divisor : He.DefD := ⟨("divisor", none), "divisor", "divisor", defArgs s_divisor, defBody s_divisor, defScope s_divisor, [], []⟩
def d_fraction : He.DefD := ⟨("fraction", none), "fraction", "fraction", defArgs s_fraction, defBody s_fraction, defScope s_fraction, [], []⟩
def d_root : He.DefD := ⟨("root", none), "root", "root", defArgs s_root, defBody s_root, defScope s_root, [], []⟩
def d_fraction_terms : He.DefD := ⟨("fraction_terms", none), "fraction_terms", "fraction_terms", defArgs s_fraction_terms, defBody s_fraction_terms, defScope s_fraction_terms, [], []⟩
def d_root_terms : He.DefD := ⟨("root_terms", none), "root_terms", "root_terms", defArgs s_root_terms, defBody s_root_terms, defScope s_root_terms, [], []⟩
def d_convergents : He.DefD := ⟨("convergents", none), "convergents", "convergents", defArgs s_convergents, defBody s_convergents, defScope s_convergents, [], []⟩
def d_root_convergents : He.DefD := ⟨("root_convergents", none), "root_convergents", "root_convergents", defArgs s_root_convergents, defBody s_root_convergents, defScope s_root_convergents, [], []⟩
def d_least_unit : He.DefD := ⟨("least_unit", none), "least_unit", "least_unit", defArgs s_least_unit, defBody s_least_unit, defScope s_least_unit, [], []⟩
def d_nearest_below : He.DefD := ⟨("nearest_below", none), "nearest_below", "nearest_below", defArgs s_nearest_below, defBody s_nearest_below, defScope s_nearest_below, [], []⟩
def d_is_nearer : He.DefD := ⟨("is_nearer", none), "is_nearer", "is_nearer", defArgs s_is_nearer, defBody s_is_nearer, defScope s_is_nearer, [], []⟩
def d__law_cell : He.DefD := ⟨("_law_cell", none), "_law_cell", "_law_cell", defArgs s__law_cell, defBody s__law_cell, defScope s__law_cell, [], []⟩
def d__law_digits : He.DefD := ⟨("_law_digits", none), "_law_digits", "_law_digits", defArgs s__law_digits, defBody s__law_digits, defScope s__law_digits, [], []⟩
def d__law_draw : He.DefD := ⟨("_law_draw", none), "_law_draw", "_law_draw", defArgs s__law_draw, defBody s__law_draw, defScope s__law_draw, [], []⟩
def d__law_gcd : He.DefD := ⟨("_law_gcd", none), "_law_gcd", "_law_gcd", defArgs s__law_gcd, defBody s__law_gcd, defScope s__law_gcd, [], []⟩
def d__law_fraction : He.DefD := ⟨("_law_fraction", none), "_law_fraction", "_law_fraction", defArgs s__law_fraction, defBody s__law_fraction, defScope s__law_fraction, [], []⟩
def d__law_less : He.DefD := ⟨("_law_less", none), "_law_less", "_law_less", defArgs s__law_less, defBody s__law_less, defScope s__law_less, [], []⟩
def d__law_root : He.DefD := ⟨("_law_root", none), "_law_root", "_law_root", defArgs s__law_root, defBody s__law_root, defScope s__law_root, [], []⟩
def d__law_reason : He.DefD := ⟨("_law_reason", none), "_law_reason", "_law_reason", defArgs s__law_reason, defBody s__law_reason, defScope s__law_reason, [], []⟩
def d__law_value : He.DefD := ⟨("_law_value", none), "_law_value", "_law_value", defArgs s__law_value, defBody s__law_value, defScope s__law_value, [], []⟩
def d_law : He.DefD := ⟨("law", none), "law", "law", defArgs s_law, defBody s_law, defScope s_law, [], []⟩
def fn : List He.DefD := [d_divisor, d_fraction, d_root, d_fraction_terms, d_root_terms, d_convergents, d_root_convergents, d_least_unit, d_nearest_below, d_is_nearer, d__law_cell, d__law_digits, d__law_draw, d__law_gcd, d__law_fraction, d__law_less, d__law_root, d__law_reason, d__law_value, d_law]
def fa : List He.Fa := [.glo "GridError", .glo "BadTable", .glo "divisor", .glo "fraction", .glo "root", .glo "fraction_terms", .glo "root_terms", .glo "convergents", .glo "root_convergents", .glo "least_unit", .glo "nearest_below", .glo "is_nearer", .glo "_law_cell", .glo "_law_digits", .glo "_law_draw", .glo "_law_gcd", .glo "_law_fraction", .glo "_law_less", .glo "_law_root", .glo "_law_reason", .glo "_law_value", .glo "law", .free "ValueError", .free "abs", .free "int", .free "len", .free "min", .free "range", .free "super", .free "tuple"]
def ini : VX.InitD := ⟨"BadTable.__init__", defArgs s_BadTable___init__, defBody s_BadTable___init__, defScope s_BadTable___init__⟩
theorem ini_ok : VX.InitOk pw_ ini where
  ex := ⟨_, _, _, _, _, _, _, _, _, _, fun env => plainOf (.Call (.Name "super" _) [] [] _) env, _, rfl, fun _ _ _ _ => rfl, fun _ _ _ _ => ⟨rfl, rfl, rfl, rfl⟩, rfl, rfl⟩
  bind := fun _ _ _ _ _ _ _ _ _ => rfl
  ks := rfl
  kc := rfl
  ka := rfl
  kf := rfl
  kind := rfl
  co := rfl
  gen := rfl
  cell := by decide +kernel
  top := by decide +kernel
abbrev R : PySem.W.OpenRow := PySem.W.OpenLaw.row rw_
def mainF : Str := pw_.main.file
abbrev hk : PySem.W.Hook := VX.hookB 4 fa fn mainF ini
def ob (s : PySem.W.SharedT) : VX.AlB := VX.obB 4 fa fn mainF (HandSHeadRun.getT s)
theorem ob_eq (s : PySem.W.SharedT) : ob s = hk.obs s.abs := VX.obB_eq (HandSHeadRun.getT_eq s)
theorem run (w : World) : HandSHeadRun.RunEq R (PySem.W.view R.prog [25]) hk ob 3000 ["GridError", "BadTable", "divisor", "fraction", "root", "fraction_terms", "root_terms", "convergents", "root_convergents", "least_unit", "nearest_below", "is_nearer", "_law_cell", "_law_digits", "_law_draw", "_law_gcd", "_law_fraction", "_law_less", "_law_root", "_law_reason", "_law_value"] w := by
  intro os
  kernel_rfl
end HD

set_option Elab.async false
set_option linter.all false
set_option maxRecDepth 100000
set_option maxHeartbeats 4000000
namespace VL
open PySem PySem.Spec PyProof.Rows L2 HD
/-! ### data -/
abbrev nI (i : Int) : D := .int i
def tI (xs : List Int) : D := .tuple (xs.map .int)
abbrev frD (p : Int × Int) : D := .tuple [.int p.1, .int p.2]
/-! ### promises -/
def digsOk (ds : List Int) : Prop := ∀ d ∈ ds, 0 ≤ d ∧ d < 1009
def sp__law_digits : VSC := fun _ ds Q => ∃ lo hi : Int, ds = [.int lo, .int hi] ∧ 0 ≤ lo ∧ lo ≤ hi ∧ hi ≤ 63 ∧ ∀ gs : List Int, digsOk gs → 6 * (hi - lo) ≤ gs.length → Q (.list (gs.map .int))
def sp__law_draw : VIO := fun xs ds Q => ∃ (gs : List Int) (at_ m g : Int), xs = [.list (gs.map .int), .int at_] ∧ ds = [.int m] ∧ 0 < m ∧ 0 ≤ at_ ∧ gs[at_.toNat]? = some g ∧ Q [.list (gs.map .int), .int (at_ + 1)] (.int (g % m))
def sp_divisor : VN := fun ds Q => ∃ a b : Int, ds = [.int a, .int b] ∧ Q (.int (Int.gcd a b))
def sp__law_gcd : VN := fun ds Q => ∃ a b : Int, ds = [.int a, .int b] ∧ Q (.int (Int.gcd a b))
/-- in lowest terms -/
def red (a b : Int) : Int × Int := (a / Int.gcd a b, b / Int.gcd a b)
def small (a : Int) : Prop := -18446744073709551616 < a ∧ a < 18446744073709551616
def sp_fraction : VN := fun ds Q => ∃ a b : Int, ds = [.int a, .int b] ∧ 0 < b ∧ b < 18446744073709551616 ∧ Q (frD (red a b))
def sp__law_fraction : VN := fun ds Q => ∃ a b : Int, ds = [.int a, .int b] ∧ 0 < b ∧ b < 18446744073709551616 ∧ Q (frD (red a b))
def isRoot (n r : Int) : Prop := 0 ≤ r ∧ r * r ≤ n ∧ n < (r + 1) * (r + 1)
def sp_root : VN := fun ds Q => ∃ n : Int, ds = [.int n] ∧ 0 < n ∧ n < 18446744073709551616 ∧ ∀ r, isRoot n r → Q (.int r)
def sp__law_root : VN := fun ds Q => ∃ n : Int, ds = [.int n] ∧ 0 ≤ n ∧ n < 18446744073709551616 ∧ ∀ r, isRoot n r → Q (.int r)
/-! ### continued fractions -/
def cf : Nat → Int → Int → List Int
  | 0, _, _ => []
  | k + 1, a, b => if b = 0 then [] else (a / b) :: cf k b (a % b)
def stepF (t : Int) (one other : Int × Int) : Int × Int := (t * one.1 + other.1, t * one.2 + other.2)
def conv : Int × Int → Int × Int → List Int → List (Int × Int)
  | _, _, [] => []
  | one, other, t :: ts => stepF t one other :: conv (stepF t one other) one ts
/-- the value, from the end -/
def val : List Int → Int × Int
  | [] => (0, 0)
  | [t] => (t, 1)
  | t :: ts => (t * (val ts).1 + (val ts).2, (val ts).1)
def cyc (l : List Int) (k : Nat) : List Int := (List.range k).map fun i => l.getD (i % l.length) 0
/-- the terms of a root -/
def rtGo (n w : Int) : Nat → Int → Int → Int → Option (List Int)
  | 0, _, _, _ => none
  | k + 1, s, b, t => if t = 2 * w then some [] else
    if 0 < b ∧ b < 1000 ∧ 0 < (n - (t * b - s) * (t * b - s)) / b ∧ (n - (t * b - s) * (t * b - s)) / b < 1000 ∧ -1000 < t * b - s ∧ t * b - s < 1000 then
      (rtGo n w k (t * b - s) ((n - (t * b - s) * (t * b - s)) / b) ((w + (t * b - s)) / ((n - (t * b - s) * (t * b - s)) / b))).map fun l => (w + (t * b - s)) / ((n - (t * b - s) * (t * b - s)) / b) :: l
    else none
def rtOk (n w : Int) (l : List Int) : Prop := 2 ≤ n ∧ n ≤ 301 ∧ isRoot n w ∧ w * w ≠ n ∧ rtGo n w 100 0 1 w = some l ∧ (∀ t ∈ l, 0 < t ∧ t < 1000) ∧ l ≠ [] ∧ l.length ≤ 100
def sp_fraction_terms : VN := fun ds Q => ∃ a b : Int, ds = [.int a, .int b] ∧ 0 < b ∧ b < 100000 ∧ Q (tI (cf (b.toNat + 1) a b))
def sp_root_terms : VN := fun ds Q => ∃ n w l, ds = [.int n] ∧ rtOk n w l ∧ Q (.tuple [.int w, tI l])
def spx_root_terms : VNX := fun ds _ Rv => ∃ n w, ds = [.int n] ∧ 2 ≤ n ∧ n ≤ 301 ∧ isRoot n w ∧ w * w = n ∧ Rv "number"
def sp_convergents : VN := fun ds Q => ∃ ts : List Int, ds = [tI ts] ∧ (∀ t ∈ ts, small t) ∧ ts.length ≤ 100000 ∧ Q (.tuple ((conv (1, 0) (0, 1) ts).map frD))
def sp_root_convergents : VN := fun ds Q => ∃ n many w l, ds = [.int n, .int many] ∧ rtOk n w l ∧ 1 ≤ many ∧ many ≤ 1000 ∧ Q (.tuple ((conv (1, 0) (0, 1) (w :: cyc l (many.toNat - 1))).map frD))
def sp_least_unit : VN := fun ds Q => ∃ n w l, ∃ p : Int × Int, ds = [.int n] ∧ rtOk n w l ∧ (conv (1, 0) (0, 1) (w :: cyc l (l.length - 1))).getLast? = some p ∧ Q (.tuple [.int p.1, .int p.2, .int (if l.length % 2 = 0 then 1 else -1)])
/-! ### near a fraction -/
def gapN (a b : Int) (u : Int × Int) : Int := ((u.1 * b - a * u.2).natAbs : Int)
/-- u is nearer to a / b than v, or as near and not above it -/
def NLe (a b : Int) (u v : Int × Int) : Prop := gapN a b u * v.2 < gapN a b v * u.2 ∨ (gapN a b u * v.2 = gapN a b v * u.2 ∧ u.1 * v.2 ≤ v.1 * u.2)
def Best (a b m : Int) (u : Int × Int) : Prop := 0 < u.2 ∧ u.2 ≤ m ∧ Int.gcd u.1 u.2 = 1 ∧ ∀ v : Int × Int, 0 < v.2 → v.2 ≤ m → NLe a b u v
def nearB (g u v : Int × Int) : Bool := decide (gapN g.1 g.2 u * v.2 < gapN g.1 g.2 v * u.2) || (decide (gapN g.1 g.2 u * v.2 = gapN g.1 g.2 v * u.2) && decide (u.1 * v.2 < v.1 * u.2))
def sp_is_nearer : VN := fun ds Q => ∃ g u v : Int × Int, ds = [frD g, frD u, frD v] ∧ small g.1 ∧ small g.2 ∧ small u.2 ∧ small v.2 ∧ Q (.bool (nearB g u v))
def sp_nearest_below : VN := fun ds Q => ∃ a b m : Int, ds = [.int a, .int b, .int m] ∧ -2000 ≤ a ∧ a ≤ 2000 ∧ 0 < b ∧ b ≤ 1000 ∧ 1 ≤ m ∧ m ≤ 1000 ∧ ∀ u, Best a b m u → Q (frD u)
def sp__law_less : VN := fun ds Q => ∃ u v : Int × Int, ds = [frD u, frD v] ∧ small u.2 ∧ small v.2 ∧ Q (.bool (decide (u.1 * v.2 < v.1 * u.2)))
def sp__law_value : VN := fun ds Q => ∃ ts : List Int, ds = [tI ts] ∧ ts ≠ [] ∧ (∀ t ∈ ts, small t) ∧ Q (frD (val ts))
structure ZZ (K : PySem.W.Frag) (mg : Str → Option Value) : Prop where
  z_abs : mg "abs" = none
  z_int : mg "int" = none
  z_len : mg "len" = none
  z_min : mg "min" = none
  z_range : mg "range" = none
  z_tuple : mg "tuple" = none
end VL

set_option Elab.async false
set_option linter.all false
set_option maxRecDepth 100000
set_option maxHeartbeats 8000000
namespace VL
open PySem PySem.Spec PyProof.Rows L2 LamX HD
section
variable {P : Program} {w : World} {K : PySem.W.Frag} {mg : Str → Option Value} {base : Heap}
/-! ### divisor: ["one", "other"] -/
theorem sc_divisor : FnScope ["one", "other"] ["one", "other"] (defScope s_divisor) := ⟨rfl, rfl, rfl, by decide +kernel, rfl, by decide +kernel, by decide +kernel⟩
def rd_divisor_w1c : VTB := (vTru (vVar 1))
def rd_divisor_w1b : VS := (vPar 0 1 (vVar 1) (vBin (d2 (fun _ j => j ≠ 0) fun i j => .int (i.fmod j)) (vVar 0) (vVar 1)))

def rd_divisor : VS := (vSeq (vPar 0 1 (vCall cAbs (vCons (vVar 0) vNil)) (vCall cAbs (vCons (vVar 1) vNil)))
  (vSeq (vWhile rd_divisor_w1c rd_divisor_w1b)
  (vRet (vVar 0))))
theorem der_divisor (Zm : ZZ K mg) {f : Addr} {cdv : Value} {A : Around} {outer : List Env} {s : Shared} {H : Hp} {E : XK} {B : Addr → Prop} (hr : Room 0 (A.deeper (envOfC "divisor" (defScope s_divisor) s.heap.objs.size f cdv))) :
    VSs (cxOf CX0 P w K mg base ["one", "other"] "divisor" (defScope s_divisor) f cdv A outer s H E).nox ⟨B, none⟩ (defBody s_divisor) rd_divisor :=
  (vs_cons (vs_par 0 1 (by rfl) sc_divisor.nd rfl rfl (by decide) (Or.inl rfl) rfl rfl (ve_callC cv_abs (fun h => pe_callB call_abs (by rfl) Zm.z_abs (by decide +kernel) h) (VA.vt (va_cons (ve_var 0) va_nil))) (ve_callC cv_abs (fun h => pe_callB call_abs (by rfl) Zm.z_abs (by decide +kernel) h) (VA.vt (va_cons (ve_var 1) va_nil))) (by rfl))
  (vs_cons (vs_while PassesOwn.never (vb_tru (ve_var 1)) (vs_one (vs_par 0 1 (by rfl) sc_divisor.nd rfl rfl (by decide) (Or.inl rfl) rfl rfl (ve_var 1) (ve_bin ov_I (fun h1 h2 => pe_op (op_modV) h1 h2) (ve_var 0) (ve_var 1)) (by rfl))))
  (vs_one (vs_ret (ve_var 0)))))
theorem ok_divisor {f : Addr} {fd : FuncData} (F : FnP K "divisor" s_divisor f fd) (m : mg "divisor" = some (.ref f)) (Zm : ZZ K mg)
    (hl : ∀ ds Q, sp_divisor ds Q → ds.length = 2) (hq : ∀ ds Q, sp_divisor ds Q → rd_divisor { nx := fun _ => Q .none, rt := fun d _ => Q d } (ev0 ["one", "other"] ds)) :
    Cal P w K mg base 1 "divisor" ["one", "other"] (LF K sp_divisor) f fd :=
  ⟨fn_ok F sc_divisor hl (fun cdv A outer s H E B hr => der_divisor Zm  hr) hq, F.bindsN fun _ _ _ _ _ _ us hl => match us, hl with | [_, _], _ => rfl, F.kp, m⟩

/-! ### fraction: ["above", "below", "common"] -/
theorem sc_fraction : FnScope ["above", "below", "common"] ["above", "below"] (defScope s_fraction) := ⟨rfl, rfl, rfl, by decide +kernel, rfl, by decide +kernel, by decide +kernel⟩
def rd_fraction : VS := (vSeq (vSet 2 (vCall sp_divisor (vCons (vVar 0) (vCons (vVar 1) vNil))))
  (vSeq (vIfS (vB (vBin (d20 fun i j => .bool (decide (i < j))) (vVar 1) (vC (.int 0)))) (vSet 2 (vBin (d20 fun i j => .int (i - j)) (vC (.int 0)) (vVar 2))) vNext)
  (vRet (vTup (vCons (vBin (d2 (fun _ j => divOk j) fun i j => .int (i.fdiv j)) (vVar 0) (vVar 2)) (vCons (vBin (d2 (fun _ j => divOk j) fun i j => .int (i.fdiv j)) (vVar 1) (vVar 2)) vNil))))))
theorem der_fraction (Zm : ZZ K mg) {f_divisor : Addr} {d_divisor : FuncData} (C_divisor : Cal P w K mg base 1 "divisor" ["one", "other"] (LF K sp_divisor) f_divisor d_divisor) {f : Addr} {cdv : Value} {A : Around} {outer : List Env} {s : Shared} {H : Hp} {E : XK} {B : Addr → Prop} (hr : Room 1 (A.deeper (envOfC "fraction" (defScope s_fraction) s.heap.objs.size f cdv))) :
    VSs (cxOf CX0 P w K mg base ["above", "below", "common"] "fraction" (defScope s_fraction) f cdv A outer s H E).nox ⟨B, none⟩ (defBody s_fraction) rd_fraction :=
  (vs_cons (vs_set 2 sc_fraction.nd rfl (by first | exact Or.inl rfl | exact Or.inr rfl) (Or.inl rfl) (ve_call C_divisor.ok (hr.mono (by decide)) (by rfl) C_divisor.m C_divisor.kp C_divisor.b (va_cons (ve_var 0) (va_cons (ve_var 1) va_nil))))
  (vs_cons (vs_if (vb_cmp (op_lt) ov_B0 (nomark _) (ve_var 1) ve_int) (vs_one (vs_set 2 sc_fraction.nd rfl (by first | exact Or.inl rfl | exact Or.inr rfl) (Or.inl rfl) (ve_bin ov_I0 (fun h1 h2 => pe_op (op_sub) h1 h2) ve_int (ve_var 2)))) vs_nil)
  (vs_one (vs_ret (ve_tup (va_cons (ve_bin ov_I (fun h1 h2 => pe_op (op_fdivV) h1 h2) (ve_var 0) (ve_var 2)) (va_cons (ve_bin ov_I (fun h1 h2 => pe_op (op_fdivV) h1 h2) (ve_var 1) (ve_var 2)) va_nil)))))))
theorem ok_fraction {f : Addr} {fd : FuncData} (F : FnP K "fraction" s_fraction f fd) (m : mg "fraction" = some (.ref f)) (Zm : ZZ K mg) {f_divisor : Addr} {d_divisor : FuncData} (C_divisor : Cal P w K mg base 1 "divisor" ["one", "other"] (LF K sp_divisor) f_divisor d_divisor)
    (hl : ∀ ds Q, sp_fraction ds Q → ds.length = 2) (hq : ∀ ds Q, sp_fraction ds Q → rd_fraction { nx := fun _ => Q .none, rt := fun d _ => Q d } (ev0 ["above", "below", "common"] ds)) :
    Cal P w K mg base 2 "fraction" ["above", "below"] (LF K sp_fraction) f fd :=
  ⟨fn_ok F sc_fraction hl (fun cdv A outer s H E B hr => der_fraction Zm C_divisor hr) hq, F.bindsN fun _ _ _ _ _ _ us hl => match us, hl with | [_, _], _ => rfl, F.kp, m⟩

/-! ### root: ["number", "found"] -/
theorem sc_root : FnScope ["number", "found"] ["number"] (defScope s_root) := ⟨rfl, rfl, rfl, by decide +kernel, rfl, by decide +kernel, by decide +kernel⟩
def rd_root_w1c : VTB := (vB (vBin (d20 fun i j => .bool (decide (j < i))) (vBin dMul (vVar 1) (vVar 1)) (vVar 0)))
def rd_root_w1b : VS := (vSet 1 (vBin (d2 (fun _ j => divOk j) fun i j => .int (i.fdiv j)) (vBin dAdd (vVar 1) (vBin (d2 (fun _ j => divOk j) fun i j => .int (i.fdiv j)) (vVar 0) (vVar 1))) (vC (.int 2))))

def rd_root : VS := (vSeq (vSet 1 (vBin (d2 shlOk fun i j => .int (i * 2 ^ j.toNat)) (vC (.int 1)) (vBin (d2 (fun _ j => divOk j) fun i j => .int (i.fdiv j)) (vBin dAdd (vBits (vVar 0)) (vC (.int 1))) (vC (.int 2)))))
  (vSeq (vWhile rd_root_w1c rd_root_w1b)
  (vRet (vVar 1))))
theorem der_root (Zm : ZZ K mg) {f : Addr} {cdv : Value} {A : Around} {outer : List Env} {s : Shared} {H : Hp} {E : XK} {B : Addr → Prop} (hr : Room 0 (A.deeper (envOfC "root" (defScope s_root) s.heap.objs.size f cdv))) :
    VSs (cxOf CX0 P w K mg base ["number", "found"] "root" (defScope s_root) f cdv A outer s H E).nox ⟨B, none⟩ (defBody s_root) rd_root :=
  (vs_cons (vs_set 1 sc_root.nd rfl (by first | exact Or.inl rfl | exact Or.inr rfl) (Or.inl rfl) (ve_bin ov_I (fun h1 h2 => pe_op (op_shlV) h1 h2) ve_int (ve_bin ov_I (fun h1 h2 => pe_op (op_fdivV) h1 h2) (ve_bin ov_add (fun h1 h2 => pe_op (op_add.or (op_catA.or op_cat)) h1 h2) (ve_bits (fun h => pe_bits h) (ve_var 0)) ve_int) ve_int)))
  (vs_cons (vs_while PassesOwn.never (vb_cmp (op_gt) ov_B0 (nomark _) (ve_bin ov_mul (fun h1 h2 => pe_op (op_mulV.or op_repT) h1 h2) (ve_var 1) (ve_var 1)) (ve_var 0)) (vs_one (vs_set 1 sc_root.nd rfl (by first | exact Or.inl rfl | exact Or.inr rfl) (Or.inl rfl) (ve_bin ov_I (fun h1 h2 => pe_op (op_fdivV) h1 h2) (ve_bin ov_add (fun h1 h2 => pe_op (op_add.or (op_catA.or op_cat)) h1 h2) (ve_var 1) (ve_bin ov_I (fun h1 h2 => pe_op (op_fdivV) h1 h2) (ve_var 0) (ve_var 1))) ve_int))))
  (vs_one (vs_ret (ve_var 1)))))
theorem ok_root {f : Addr} {fd : FuncData} (F : FnP K "root" s_root f fd) (m : mg "root" = some (.ref f)) (Zm : ZZ K mg)
    (hl : ∀ ds Q, sp_root ds Q → ds.length = 1) (hq : ∀ ds Q, sp_root ds Q → rd_root { nx := fun _ => Q .none, rt := fun d _ => Q d } (ev0 ["number", "found"] ds)) :
    Cal P w K mg base 1 "root" ["number"] (LF K sp_root) f fd :=
  ⟨fn_ok F sc_root hl (fun cdv A outer s H E B hr => der_root Zm  hr) hq, F.bindsN fun _ _ _ _ _ _ us hl => match us, hl with | [_], _ => rfl, F.kp, m⟩

/-! ### fraction_terms: ["above", "below", "found", "whole"] -/
theorem sc_fraction_terms : FnScope ["above", "below", "found", "whole"] ["above", "below"] (defScope s_fraction_terms) := ⟨rfl, rfl, rfl, by decide +kernel, rfl, by decide +kernel, by decide +kernel⟩
def rd_fraction_terms_w1c : VTB := (vTru (vVar 1))
def rd_fraction_terms_w1b : VS := (vSeq (vSet 3 (vBin (d2 (fun _ j => divOk j) fun i j => .int (i.fdiv j)) (vVar 0) (vVar 1)))
  (vSeq (vAppend 2 (vVar 3))
  (vPar 0 1 (vVar 1) (vBin (d20 fun i j => .int (i - j)) (vVar 0) (vBin dMul (vVar 3) (vVar 1))))))

def rd_fraction_terms : VS := (vSeq (vIfS (vB (vBin (d20 fun i j => .bool (decide (i < j))) (vVar 1) (vC (.int 1)))) vNever vNext)
  (vSeq (vSetO 2 vNil)
  (vSeq (vWhile rd_fraction_terms_w1c rd_fraction_terms_w1b)
  (vRet (vCall cTup (vLookA 2))))))
theorem der_fraction_terms (Zm : ZZ K mg) {f : Addr} {cdv : Value} {A : Around} {outer : List Env} {s : Shared} {H : Hp} {E : XK} {B : Addr → Prop} (hr : Room 1 (A.deeper (envOfC "fraction_terms" (defScope s_fraction_terms) s.heap.objs.size f cdv))) :
    VSs (cxOf CX0 P w K mg base ["above", "below", "found", "whole"] "fraction_terms" (defScope s_fraction_terms) f cdv A outer s H E).nox ⟨B, none⟩ (defBody s_fraction_terms) rd_fraction_terms :=
  (vs_cons (vs_if (vb_cmp (op_lt) ov_B0 (nomark _) (ve_var 1) ve_int) (vs_one vs_never) vs_nil)
  (vs_cons (vs_setO 2 sc_fraction_terms.nd rfl (by first | exact Or.inl rfl | exact Or.inr rfl) (Or.inl rfl) (vo_lst va_nil))
  (vs_cons (vs_while PassesOwn.never (vb_tru (ve_var 1)) (vs_cons (vs_set 3 sc_fraction_terms.nd rfl (by first | exact Or.inl rfl | exact Or.inr rfl) (Or.inl rfl) (ve_bin ov_I (fun h1 h2 => pe_op (op_fdivV) h1 h2) (ve_var 0) (ve_var 1)))
  (vs_cons (vs_append 2 (pv 2) (ve_var 3) (fun h => mk_append (pv 2) (he := h)))
  (vs_one (vs_par 0 1 (by rfl) sc_fraction_terms.nd rfl rfl (by decide) (Or.inl rfl) rfl rfl (ve_var 1) (ve_bin ov_I0 (fun h1 h2 => pe_op (op_sub) h1 h2) (ve_var 0) (ve_bin ov_mul (fun h1 h2 => pe_op (op_mulV.or op_repT) h1 h2) (ve_var 3) (ve_var 1))) (by rfl))))))
  (vs_one (vs_ret (ve_callC cv_tup (fun h => pe_callTy call_tuple_of (by rfl) Zm.z_tuple (by decide +kernel) h) (vt_lookP 2 (pv 2))))))))
theorem ok_fraction_terms {f : Addr} {fd : FuncData} (F : FnP K "fraction_terms" s_fraction_terms f fd) (m : mg "fraction_terms" = some (.ref f)) (Zm : ZZ K mg)
    (hl : ∀ ds Q, sp_fraction_terms ds Q → ds.length = 2) (hq : ∀ ds Q, sp_fraction_terms ds Q → rd_fraction_terms { nx := fun _ => Q .none, rt := fun d _ => Q d } (ev0 ["above", "below", "found", "whole"] ds)) :
    Cal P w K mg base 2 "fraction_terms" ["above", "below"] (LF K sp_fraction_terms) f fd :=
  ⟨fn_ok F sc_fraction_terms hl (fun cdv A outer s H E B hr => der_fraction_terms Zm  hr) hq, F.bindsN fun _ _ _ _ _ _ us hl => match us, hl with | [_, _], _ => rfl, F.kp, m⟩

/-! ### root_terms: ["number", "whole", "found", "shift", "below", "term"] -/
theorem sc_root_terms : FnScope ["number", "whole", "found", "shift", "below", "term"] ["number"] (defScope s_root_terms) := ⟨rfl, rfl, rfl, by decide +kernel, rfl, by decide +kernel, by decide +kernel⟩
def rd_root_terms_w1c : VTB := (vB (vBin dNe (vVar 5) (vBin dMul (vC (.int 2)) (vVar 1))))
def rd_root_terms_w1b : VS := (vSeq (vSet 3 (vBin (d20 fun i j => .int (i - j)) (vBin dMul (vVar 5) (vVar 4)) (vVar 3)))
  (vSeq (vSet 4 (vBin (d2 (fun _ j => divOk j) fun i j => .int (i.fdiv j)) (vBin (d20 fun i j => .int (i - j)) (vVar 0) (vBin dMul (vVar 3) (vVar 3))) (vVar 4)))
  (vSeq (vSet 5 (vBin (d2 (fun _ j => divOk j) fun i j => .int (i.fdiv j)) (vBin dAdd (vVar 1) (vVar 3)) (vVar 4)))
  (vAppend 2 (vVar 5)))))

def rd_root_terms : VS := (vSeq (vSet 1 (vIf (vB (vBin (d20 fun i j => .bool (decide (j < i))) (vVar 0) (vC (.int 0)))) (vCall sp_root (vCons (vVar 0) vNil)) (vC (.int 0))))
  (vSeq (vIfS (vOr (vB (vBin (d20 fun i j => .bool (decide (i < j))) (vVar 0) (vC (.int 2)))) (vB (vBin dEq (vBin dMul (vVar 1) (vVar 1)) (vVar 0)))) vNever vNext)
  (vSeq (vSetO 2 vNil)
  (vSeq (vPar3 3 4 5 (vC (.int 0)) (vC (.int 1)) (vVar 1))
  (vSeq (vWhile rd_root_terms_w1c rd_root_terms_w1b)
  (vRet (vTup (vCons (vVar 1) (vCons (vCall cTup (vLookA 2)) vNil)))))))))
theorem der_root_terms (Zm : ZZ K mg) {f_root : Addr} {d_root : FuncData} (C_root : Cal P w K mg base 1 "root" ["number"] (LF K sp_root) f_root d_root) {f : Addr} {cdv : Value} {A : Around} {outer : List Env} {s : Shared} {H : Hp} {E : XK} {B : Addr → Prop} (hr : Room 1 (A.deeper (envOfC "root_terms" (defScope s_root_terms) s.heap.objs.size f cdv))) :
    VSs (cxOf CX0 P w K mg base ["number", "whole", "found", "shift", "below", "term"] "root_terms" (defScope s_root_terms) f cdv A outer s H E).nox ⟨B, none⟩ (defBody s_root_terms) rd_root_terms :=
  (vs_cons (vs_set 1 sc_root_terms.nd rfl (by first | exact Or.inl rfl | exact Or.inr rfl) (Or.inl rfl) (ve_if (vb_cmp (op_gt) ov_B0 (nomark _) (ve_var 0) ve_int) (ve_call C_root.ok (hr.mono (by decide)) (by rfl) C_root.m C_root.kp C_root.b (va_cons (ve_var 0) va_nil)) ve_int))
  (vs_cons (vs_if (VW.vb (vw_or (vb_cmp (op_lt) ov_B0 (nomark _) (ve_var 0) ve_int) (vw_or1 (vb_cmp (op_eqD hr.units) ov_eq (nomark _) (ve_bin ov_mul (fun h1 h2 => pe_op (op_mulV.or op_repT) h1 h2) (ve_var 1) (ve_var 1)) (ve_var 0))))) (vs_one vs_never) vs_nil)
  (vs_cons (vs_setO 2 sc_root_terms.nd rfl (by first | exact Or.inl rfl | exact Or.inr rfl) (Or.inl rfl) (vo_lst va_nil))
  (vs_cons (vs_par3 3 4 5 (by rfl) sc_root_terms.nd rfl rfl rfl (by decide) (by decide) (by decide) (Or.inl rfl) rfl rfl rfl ve_int ve_int (ve_var 1) (by rfl))
  (vs_cons (vs_while PassesOwn.never (vb_cmp (op_neD hr.units) ov_ne (nomark _) (ve_var 5) (ve_bin ov_mul (fun h1 h2 => pe_op (op_mulV.or op_repT) h1 h2) ve_int (ve_var 1))) (vs_cons (vs_set 3 sc_root_terms.nd rfl (by first | exact Or.inl rfl | exact Or.inr rfl) (Or.inl rfl) (ve_bin ov_I0 (fun h1 h2 => pe_op (op_sub) h1 h2) (ve_bin ov_mul (fun h1 h2 => pe_op (op_mulV.or op_repT) h1 h2) (ve_var 5) (ve_var 4)) (ve_var 3)))
  (vs_cons (vs_set 4 sc_root_terms.nd rfl (by first | exact Or.inl rfl | exact Or.inr rfl) (Or.inl rfl) (ve_bin ov_I (fun h1 h2 => pe_op (op_fdivV) h1 h2) (ve_bin ov_I0 (fun h1 h2 => pe_op (op_sub) h1 h2) (ve_var 0) (ve_bin ov_mul (fun h1 h2 => pe_op (op_mulV.or op_repT) h1 h2) (ve_var 3) (ve_var 3))) (ve_var 4)))
  (vs_cons (vs_set 5 sc_root_terms.nd rfl (by first | exact Or.inl rfl | exact Or.inr rfl) (Or.inl rfl) (ve_bin ov_I (fun h1 h2 => pe_op (op_fdivV) h1 h2) (ve_bin ov_add (fun h1 h2 => pe_op (op_add.or (op_catA.or op_cat)) h1 h2) (ve_var 1) (ve_var 3)) (ve_var 4)))
  (vs_one (vs_append 2 (pv 2) (ve_var 5) (fun h => mk_append (pv 2) (he := h))))))))
  (vs_one (vs_ret (ve_tup (va_cons (ve_var 1) (va_cons (ve_callC cv_tup (fun h => pe_callTy call_tuple_of (by rfl) Zm.z_tuple (by decide +kernel) h) (vt_lookP 2 (pv 2))) va_nil))))))))))
theorem ok_root_terms {f : Addr} {fd : FuncData} (F : FnP K "root_terms" s_root_terms f fd) (m : mg "root_terms" = some (.ref f)) (Zm : ZZ K mg) {f_root : Addr} {d_root : FuncData} (C_root : Cal P w K mg base 1 "root" ["number"] (LF K sp_root) f_root d_root)
    (hl : ∀ ds Q, sp_root_terms ds Q → ds.length = 1) (hq : ∀ ds Q, sp_root_terms ds Q → rd_root_terms { nx := fun _ => Q .none, rt := fun d _ => Q d } (ev0 ["number", "whole", "found", "shift", "below", "term"] ds)) :
    Cal P w K mg base 2 "root_terms" ["number"] (LF K sp_root_terms) f fd :=
  ⟨fn_ok F sc_root_terms hl (fun cdv A outer s H E B hr => der_root_terms Zm C_root hr) hq, F.bindsN fun _ _ _ _ _ _ us hl => match us, hl with | [_], _ => rfl, F.kp, m⟩

/-! ### convergents: ["terms", "found", "one", "other", "term"] -/
theorem sc_convergents : FnScope ["terms", "found", "one", "other", "term"] ["terms"] (defScope s_convergents) := ⟨rfl, rfl, rfl, by decide +kernel, rfl, by decide +kernel, by decide +kernel⟩
def rd_convergents_f1g : VG := (gN 4)
def rd_convergents_f1b : VS := (vSeq (vPar 2 3 (vTup (vCons (vBin dAdd (vBin dMul (vVar 4) (vBin dIx (vVar 2) (vC (.int 0)))) (vBin dIx (vVar 3) (vC (.int 0)))) (vCons (vBin dAdd (vBin dMul (vVar 4) (vBin dIx (vVar 2) (vC (.int 1)))) (vBin dIx (vVar 3) (vC (.int 1)))) vNil))) (vVar 2))
  (vAppend 1 (vVar 2)))

def rd_convergents : VS := (vSeq (vSetO 1 vNil)
  (vSeq (vAsg (vTup (vCons (vTup (vCons (vC (.int 1)) (vCons (vC (.int 0)) vNil))) (vCons (vTup (vCons (vC (.int 0)) (vCons (vC (.int 1)) vNil))) vNil))) (gT 2 (gsC (gN 2) (gsC (gN 3) gs0))))
  (vSeq (vForS (wT (vVar 0)) rd_convergents_f1g rd_convergents_f1b)
  (vRet (vCall cTup (vLookA 1))))))
theorem der_convergents (Zm : ZZ K mg) {f : Addr} {cdv : Value} {A : Around} {outer : List Env} {s : Shared} {H : Hp} {E : XK} {B : Addr → Prop} (hr : Room 0 (A.deeper (envOfC "convergents" (defScope s_convergents) s.heap.objs.size f cdv))) :
    VSs (cxOf CX0 P w K mg base ["terms", "found", "one", "other", "term"] "convergents" (defScope s_convergents) f cdv A outer s H E).nox ⟨B, none⟩ (defBody s_convergents) rd_convergents :=
  (vs_cons (vs_setO 1 sc_convergents.nd rfl (by first | exact Or.inl rfl | exact Or.inr rfl) (Or.inl rfl) (vo_lst va_nil))
  (vs_cons (vs_asg (vs := [2, 3]) (ve_tup (va_cons (ve_tup (va_cons ve_int (va_cons ve_int va_nil))) (va_cons (ve_tup (va_cons ve_int (va_cons ve_int va_nil))) va_nil))) (vg_tup (by rfl) (vgs_cons (vg_name 2 sc_convergents.nd rfl (by first | exact Or.inl rfl | exact Or.inr rfl) (Or.inl rfl) (by decide)) (vgs_cons (vg_name 3 sc_convergents.nd rfl (by first | exact Or.inl rfl | exact Or.inr rfl) (Or.inl rfl) (by decide)) vgs_nil))))
  (vs_cons (vs_for (vs := [4]) PassesOwn.never (by rfl) (vw_tup (ve_var 0)) (vg_name 4 sc_convergents.nd rfl (by first | exact Or.inl rfl | exact Or.inr rfl) (Or.inl rfl) (by decide)) (vs_cons (vs_par 2 3 (by rfl) sc_convergents.nd rfl rfl (by decide) (Or.inl rfl) rfl rfl (ve_tup (va_cons (ve_bin ov_add (fun h1 h2 => pe_op (op_add.or (op_catA.or op_cat)) h1 h2) (ve_bin ov_mul (fun h1 h2 => pe_op (op_mulV.or op_repT) h1 h2) (ve_var 4) (ve_bin ov_ix (fun h1 h2 => pe_ix (ix_list.or ix_tup) h1 h2 (fun _ _ => rfl)) (ve_var 2) ve_int)) (ve_bin ov_ix (fun h1 h2 => pe_ix (ix_list.or ix_tup) h1 h2 (fun _ _ => rfl)) (ve_var 3) ve_int)) (va_cons (ve_bin ov_add (fun h1 h2 => pe_op (op_add.or (op_catA.or op_cat)) h1 h2) (ve_bin ov_mul (fun h1 h2 => pe_op (op_mulV.or op_repT) h1 h2) (ve_var 4) (ve_bin ov_ix (fun h1 h2 => pe_ix (ix_list.or ix_tup) h1 h2 (fun _ _ => rfl)) (ve_var 2) ve_int)) (ve_bin ov_ix (fun h1 h2 => pe_ix (ix_list.or ix_tup) h1 h2 (fun _ _ => rfl)) (ve_var 3) ve_int)) va_nil))) (ve_var 2) (by rfl))
  (vs_one (vs_append 1 (pv 1) (ve_var 2) (fun h => mk_append (pv 1) (he := h))))))
  (vs_one (vs_ret (ve_callC cv_tup (fun h => pe_callTy call_tuple_of (by rfl) Zm.z_tuple (by decide +kernel) h) (vt_lookP 1 (pv 1))))))))
theorem ok_convergents {f : Addr} {fd : FuncData} (F : FnP K "convergents" s_convergents f fd) (m : mg "convergents" = some (.ref f)) (Zm : ZZ K mg)
    (hl : ∀ ds Q, sp_convergents ds Q → ds.length = 1) (hq : ∀ ds Q, sp_convergents ds Q → rd_convergents { nx := fun _ => Q .none, rt := fun d _ => Q d } (ev0 ["terms", "found", "one", "other", "term"] ds)) :
    Cal P w K mg base 1 "convergents" ["terms"] (LF K sp_convergents) f fd :=
  ⟨fn_ok F sc_convergents hl (fun cdv A outer s H E B hr => der_convergents Zm  hr) hq, F.bindsN fun _ _ _ _ _ _ us hl => match us, hl with | [_], _ => rfl, F.kp, m⟩

/-! ### root_convergents: ["number", "many", "first", "period", "terms"] -/
theorem sc_root_convergents : FnScope ["number", "many", "first", "period", "terms"] ["number", "many"] (defScope s_root_convergents) := ⟨rfl, rfl, rfl, by decide +kernel, rfl, by decide +kernel, by decide +kernel⟩
def rd_root_convergents_w1c : VTB := (vB (vBin (d20 fun i j => .bool (decide (i < j))) (vCall cLen (vLookA 4)) (vVar 1)))
def rd_root_convergents_w1b : VS := (vAppend 4 (vBin dIx (vVar 3) (vBin (d2 (fun _ j => j ≠ 0) fun i j => .int (i.fmod j)) (vBin (d20 fun i j => .int (i - j)) (vCall cLen (vLookA 4)) (vC (.int 1))) (vCall cLen (vCons (vVar 3) vNil)))))

def rd_root_convergents : VS := (vSeq (vAsg (vCall sp_root_terms (vCons (vVar 0) vNil)) (gT 2 (gsC (gN 2) (gsC (gN 3) gs0))))
  (vSeq (vSetO 4 (vCons (vVar 2) vNil))
  (vSeq (vWhile rd_root_convergents_w1c rd_root_convergents_w1b)
  (vRet (vCall sp_convergents (vCons (vCall cTup (vCons (vSlL 4 vP0 (vP1 (vVar 1))) vNil)) vNil))))))
theorem der_root_convergents (Zm : ZZ K mg) {f_root_terms : Addr} {d_root_terms : FuncData} (C_root_terms : Cal P w K mg base 2 "root_terms" ["number"] (LF K sp_root_terms) f_root_terms d_root_terms) {f_convergents : Addr} {d_convergents : FuncData} (C_convergents : Cal P w K mg base 1 "convergents" ["terms"] (LF K sp_convergents) f_convergents d_convergents) {f : Addr} {cdv : Value} {A : Around} {outer : List Env} {s : Shared} {H : Hp} {E : XK} {B : Addr → Prop} (hr : Room 2 (A.deeper (envOfC "root_convergents" (defScope s_root_convergents) s.heap.objs.size f cdv))) :
    VSs (cxOf CX0 P w K mg base ["number", "many", "first", "period", "terms"] "root_convergents" (defScope s_root_convergents) f cdv A outer s H E).nox ⟨B, none⟩ (defBody s_root_convergents) rd_root_convergents :=
  (vs_cons (vs_asg (vs := [2, 3]) (ve_call C_root_terms.ok (hr.mono (by decide)) (by rfl) C_root_terms.m C_root_terms.kp C_root_terms.b (va_cons (ve_var 0) va_nil)) (vg_tup (by rfl) (vgs_cons (vg_name 2 sc_root_convergents.nd rfl (by first | exact Or.inl rfl | exact Or.inr rfl) (Or.inl rfl) (by decide)) (vgs_cons (vg_name 3 sc_root_convergents.nd rfl (by first | exact Or.inl rfl | exact Or.inr rfl) (Or.inl rfl) (by decide)) vgs_nil))))
  (vs_cons (vs_setO 4 sc_root_convergents.nd rfl (by first | exact Or.inl rfl | exact Or.inr rfl) (Or.inl rfl) (vo_lst (va_cons (ve_var 2) va_nil)))
  (vs_cons (vs_while PassesOwn.never (vb_cmp (op_lt) ov_B0 (nomark _) (ve_callC cv_len (fun h => pe_callB call_len_seq (by rfl) Zm.z_len PySem.boot_len h) (vt_lookP 4 (pv 4))) (ve_var 1)) (vs_one (vs_append 4 (pv 4) (ve_bin ov_ix (fun h1 h2 => pe_ix (ix_list.or ix_tup) h1 h2 (fun _ _ => rfl)) (ve_var 3) (ve_bin ov_I (fun h1 h2 => pe_op (op_modV) h1 h2) (ve_bin ov_I0 (fun h1 h2 => pe_op (op_sub) h1 h2) (ve_callC cv_len (fun h => pe_callB call_len_seq (by rfl) Zm.z_len PySem.boot_len h) (vt_lookP 4 (pv 4))) ve_int) (ve_callC cv_len (fun h => pe_callB call_len_seq (by rfl) Zm.z_len PySem.boot_len h) (VA.vt (va_cons (ve_var 3) va_nil))))) (fun h => mk_append (pv 4) (he := h)))))
  (vs_one (vs_ret (ve_call C_convergents.ok (hr.mono (by decide)) (by rfl) C_convergents.m C_convergents.kp C_convergents.b (va_cons (ve_callC cv_tup (fun h => pe_callTy call_tuple_of (by rfl) Zm.z_tuple (by decide +kernel) h) (VA.vt (va_cons (ve_sliceL 4 (pv 4) vp_none (vp_some (ve_var 1))) va_nil))) va_nil)))))))
theorem ok_root_convergents {f : Addr} {fd : FuncData} (F : FnP K "root_convergents" s_root_convergents f fd) (m : mg "root_convergents" = some (.ref f)) (Zm : ZZ K mg) {f_root_terms : Addr} {d_root_terms : FuncData} (C_root_terms : Cal P w K mg base 2 "root_terms" ["number"] (LF K sp_root_terms) f_root_terms d_root_terms) {f_convergents : Addr} {d_convergents : FuncData} (C_convergents : Cal P w K mg base 1 "convergents" ["terms"] (LF K sp_convergents) f_convergents d_convergents)
    (hl : ∀ ds Q, sp_root_convergents ds Q → ds.length = 2) (hq : ∀ ds Q, sp_root_convergents ds Q → rd_root_convergents { nx := fun _ => Q .none, rt := fun d _ => Q d } (ev0 ["number", "many", "first", "period", "terms"] ds)) :
    Cal P w K mg base 3 "root_convergents" ["number", "many"] (LF K sp_root_convergents) f fd :=
  ⟨fn_ok F sc_root_convergents hl (fun cdv A outer s H E B hr => der_root_convergents Zm C_root_terms C_convergents hr) hq, F.bindsN fun _ _ _ _ _ _ us hl => match us, hl with | [_, _], _ => rfl, F.kp, m⟩

/-! ### least_unit: ["number", "first", "period", "x", "y"] -/
theorem sc_least_unit : FnScope ["number", "first", "period", "x", "y"] ["number"] (defScope s_least_unit) := ⟨rfl, rfl, rfl, by decide +kernel, rfl, by decide +kernel, by decide +kernel⟩
def rd_least_unit : VS := (vSeq (vAsg (vCall sp_root_terms (vCons (vVar 0) vNil)) (gT 2 (gsC (gN 1) (gsC (gN 2) gs0))))
  (vSeq (vAsg (vBin dIx (vCall sp_root_convergents (vCons (vVar 0) (vCons (vCall cLen (vCons (vVar 2) vNil)) vNil))) (vUn dNeg (vC (.int 1)))) (gT 2 (gsC (gN 3) (gsC (gN 4) gs0))))
  (vRet (vTup (vCons (vVar 3) (vCons (vVar 4) (vCons (vIf (vB (vBin dEq (vBin (d2 (fun _ j => j ≠ 0) fun i j => .int (i.fmod j)) (vCall cLen (vCons (vVar 2) vNil)) (vC (.int 2))) (vC (.int 0)))) (vC (.int 1)) (vUn dNeg (vC (.int 1)))) vNil)))))))
theorem der_least_unit (Zm : ZZ K mg) {f_root_terms : Addr} {d_root_terms : FuncData} (C_root_terms : Cal P w K mg base 2 "root_terms" ["number"] (LF K sp_root_terms) f_root_terms d_root_terms) {f_root_convergents : Addr} {d_root_convergents : FuncData} (C_root_convergents : Cal P w K mg base 3 "root_convergents" ["number", "many"] (LF K sp_root_convergents) f_root_convergents d_root_convergents) {f : Addr} {cdv : Value} {A : Around} {outer : List Env} {s : Shared} {H : Hp} {E : XK} {B : Addr → Prop} (hr : Room 3 (A.deeper (envOfC "least_unit" (defScope s_least_unit) s.heap.objs.size f cdv))) :
    VSs (cxOf CX0 P w K mg base ["number", "first", "period", "x", "y"] "least_unit" (defScope s_least_unit) f cdv A outer s H E).nox ⟨B, none⟩ (defBody s_least_unit) rd_least_unit :=
  (vs_cons (vs_asg (vs := [1, 2]) (ve_call C_root_terms.ok (hr.mono (by decide)) (by rfl) C_root_terms.m C_root_terms.kp C_root_terms.b (va_cons (ve_var 0) va_nil)) (vg_tup (by rfl) (vgs_cons (vg_name 1 sc_least_unit.nd rfl (by first | exact Or.inl rfl | exact Or.inr rfl) (Or.inl rfl) (by decide)) (vgs_cons (vg_name 2 sc_least_unit.nd rfl (by first | exact Or.inl rfl | exact Or.inr rfl) (Or.inl rfl) (by decide)) vgs_nil))))
  (vs_cons (vs_asg (vs := [3, 4]) (ve_bin ov_ix (fun h1 h2 => pe_ix (ix_list.or ix_tup) h1 h2 (fun _ _ => rfl)) (ve_call C_root_convergents.ok (hr.mono (by decide)) (by rfl) C_root_convergents.m C_root_convergents.kp C_root_convergents.b (va_cons (ve_var 0) (va_cons (ve_callC cv_len (fun h => pe_callB call_len_seq (by rfl) Zm.z_len PySem.boot_len h) (VA.vt (va_cons (ve_var 2) va_nil))) va_nil))) (ve_un uv_neg (fun h => pe_un un_neg h) ve_int)) (vg_tup (by rfl) (vgs_cons (vg_name 3 sc_least_unit.nd rfl (by first | exact Or.inl rfl | exact Or.inr rfl) (Or.inl rfl) (by decide)) (vgs_cons (vg_name 4 sc_least_unit.nd rfl (by first | exact Or.inl rfl | exact Or.inr rfl) (Or.inl rfl) (by decide)) vgs_nil))))
  (vs_one (vs_ret (ve_tup (va_cons (ve_var 3) (va_cons (ve_var 4) (va_cons (ve_if (vb_cmp (op_eqD hr.units) ov_eq (nomark _) (ve_bin ov_I (fun h1 h2 => pe_op (op_modV) h1 h2) (ve_callC cv_len (fun h => pe_callB call_len_seq (by rfl) Zm.z_len PySem.boot_len h) (VA.vt (va_cons (ve_var 2) va_nil))) ve_int) ve_int) ve_int (ve_un uv_neg (fun h => pe_un un_neg h) ve_int)) va_nil))))))))
theorem ok_least_unit {f : Addr} {fd : FuncData} (F : FnP K "least_unit" s_least_unit f fd) (m : mg "least_unit" = some (.ref f)) (Zm : ZZ K mg) {f_root_terms : Addr} {d_root_terms : FuncData} (C_root_terms : Cal P w K mg base 2 "root_terms" ["number"] (LF K sp_root_terms) f_root_terms d_root_terms) {f_root_convergents : Addr} {d_root_convergents : FuncData} (C_root_convergents : Cal P w K mg base 3 "root_convergents" ["number", "many"] (LF K sp_root_convergents) f_root_convergents d_root_convergents)
    (hl : ∀ ds Q, sp_least_unit ds Q → ds.length = 1) (hq : ∀ ds Q, sp_least_unit ds Q → rd_least_unit { nx := fun _ => Q .none, rt := fun d _ => Q d } (ev0 ["number", "first", "period", "x", "y"] ds)) :
    Cal P w K mg base 4 "least_unit" ["number"] (LF K sp_least_unit) f fd :=
  ⟨fn_ok F sc_least_unit hl (fun cdv A outer s H E B hr => der_least_unit Zm C_root_terms C_root_convergents hr) hq, F.bindsN fun _ _ _ _ _ _ us hl => match us, hl with | [_], _ => rfl, F.kp, m⟩

/-! ### nearest_below: ["above", "below", "most", "terms", "goal", "best", "one", "other", "term", "steps", "fresh"] -/
theorem sc_nearest_below : FnScope ["above", "below", "most", "terms", "goal", "best", "one", "other", "term", "steps", "fresh"] ["above", "below", "most"] (defScope s_nearest_below) := ⟨rfl, rfl, rfl, by decide +kernel, rfl, by decide +kernel, by decide +kernel⟩
def rd_nearest_below_f1g : VG := (gN 8)
def rd_nearest_below_f1b : VS := (vSeq (vSet 9 (vIf (vNot (vTru (vBin dIx (vVar 6) (vC (.int 1))))) (vVar 8) (vCall cMin2 (vCons (vVar 8) (vCons (vBin (d2 (fun _ j => divOk j) fun i j => .int (i.fdiv j)) (vBin (d20 fun i j => .int (i - j)) (vVar 2) (vBin dIx (vVar 7) (vC (.int 1)))) (vBin dIx (vVar 6) (vC (.int 1)))) vNil)))))
  (vSeq (vSet 10 (vTup (vCons (vBin dAdd (vBin dMul (vVar 9) (vBin dIx (vVar 6) (vC (.int 0)))) (vBin dIx (vVar 7) (vC (.int 0)))) (vCons (vBin dAdd (vBin dMul (vVar 9) (vBin dIx (vVar 6) (vC (.int 1)))) (vBin dIx (vVar 7) (vC (.int 1)))) vNil))))
  (vSeq (vIfS (vAnd (vTru (vBin dIx (vVar 10) (vC (.int 1)))) (vTru (vCall sp_is_nearer (vCons (vVar 4) (vCons (vVar 10) (vCons (vVar 5) vNil)))))) (vSet 5 (vVar 10)) vNext)
  (vSeq (vIfS (vB (vBin (d20 fun i j => .bool (decide (i < j))) (vVar 9) (vVar 8))) vBrk vNext)
  (vPar 6 7 (vVar 10) (vVar 6))))))

def rd_nearest_below : VS := (vSeq (vSet 3 (vCall sp_fraction_terms (vCons (vVar 0) (vCons (vVar 1) vNil))))
  (vSeq (vIfS (vB (vBin (d20 fun i j => .bool (decide (i < j))) (vVar 2) (vC (.int 1)))) vNever vNext)
  (vSeq (vSet 4 (vCall sp_fraction (vCons (vVar 0) (vCons (vVar 1) vNil))))
  (vSeq (vSet 5 (vTup (vCons (vBin dIx (vVar 3) (vC (.int 0))) (vCons (vC (.int 1)) vNil))))
  (vSeq (vAsg (vTup (vCons (vTup (vCons (vC (.int 1)) (vCons (vC (.int 0)) vNil))) (vCons (vTup (vCons (vC (.int 0)) (vCons (vC (.int 1)) vNil))) vNil))) (gT 2 (gsC (gN 6) (gsC (gN 7) gs0))))
  (vSeq (vForS (wT (vVar 3)) rd_nearest_below_f1g rd_nearest_below_f1b)
  (vRet (vCall sp_fraction (vCons (vBin dIx (vVar 5) (vC (.int 0))) (vCons (vBin dIx (vVar 5) (vC (.int 1))) vNil))))))))))
theorem der_nearest_below (Zm : ZZ K mg) {f_fraction_terms : Addr} {d_fraction_terms : FuncData} (C_fraction_terms : Cal P w K mg base 2 "fraction_terms" ["above", "below"] (LF K sp_fraction_terms) f_fraction_terms d_fraction_terms) {f_fraction : Addr} {d_fraction : FuncData} (C_fraction : Cal P w K mg base 2 "fraction" ["above", "below"] (LF K sp_fraction) f_fraction d_fraction) {f_is_nearer : Addr} {d_is_nearer : FuncData} (C_is_nearer : Cal P w K mg base 1 "is_nearer" ["goal", "one", "other"] (LF K sp_is_nearer) f_is_nearer d_is_nearer) {f : Addr} {cdv : Value} {A : Around} {outer : List Env} {s : Shared} {H : Hp} {E : XK} {B : Addr → Prop} (hr : Room 2 (A.deeper (envOfC "nearest_below" (defScope s_nearest_below) s.heap.objs.size f cdv))) :
    VSs (cxOf CX0 P w K mg base ["above", "below", "most", "terms", "goal", "best", "one", "other", "term", "steps", "fresh"] "nearest_below" (defScope s_nearest_below) f cdv A outer s H E).nox ⟨B, none⟩ (defBody s_nearest_below) rd_nearest_below :=
  (vs_cons (vs_set 3 sc_nearest_below.nd rfl (by first | exact Or.inl rfl | exact Or.inr rfl) (Or.inl rfl) (ve_call C_fraction_terms.ok (hr.mono (by decide)) (by rfl) C_fraction_terms.m C_fraction_terms.kp C_fraction_terms.b (va_cons (ve_var 0) (va_cons (ve_var 1) va_nil))))
  (vs_cons (vs_if (vb_cmp (op_lt) ov_B0 (nomark _) (ve_var 2) ve_int) (vs_one vs_never) vs_nil)
  (vs_cons (vs_set 4 sc_nearest_below.nd rfl (by first | exact Or.inl rfl | exact Or.inr rfl) (Or.inl rfl) (ve_call C_fraction.ok (hr.mono (by decide)) (by rfl) C_fraction.m C_fraction.kp C_fraction.b (va_cons (ve_var 0) (va_cons (ve_var 1) va_nil))))
  (vs_cons (vs_set 5 sc_nearest_below.nd rfl (by first | exact Or.inl rfl | exact Or.inr rfl) (Or.inl rfl) (ve_tup (va_cons (ve_bin ov_ix (fun h1 h2 => pe_ix (ix_list.or ix_tup) h1 h2 (fun _ _ => rfl)) (ve_var 3) ve_int) (va_cons ve_int va_nil))))
  (vs_cons (vs_asg (vs := [6, 7]) (ve_tup (va_cons (ve_tup (va_cons ve_int (va_cons ve_int va_nil))) (va_cons (ve_tup (va_cons ve_int (va_cons ve_int va_nil))) va_nil))) (vg_tup (by rfl) (vgs_cons (vg_name 6 sc_nearest_below.nd rfl (by first | exact Or.inl rfl | exact Or.inr rfl) (Or.inl rfl) (by decide)) (vgs_cons (vg_name 7 sc_nearest_below.nd rfl (by first | exact Or.inl rfl | exact Or.inr rfl) (Or.inl rfl) (by decide)) vgs_nil))))
  (vs_cons (vs_for (vs := [8]) PassesOwn.never (by rfl) (vw_tup (ve_var 3)) (vg_name 8 sc_nearest_below.nd rfl (by first | exact Or.inl rfl | exact Or.inr rfl) (Or.inl rfl) (by decide)) (vs_cons (vs_set 9 sc_nearest_below.nd rfl (by first | exact Or.inl rfl | exact Or.inr rfl) (Or.inl rfl) (ve_if (vb_not (vb_tru (ve_bin ov_ix (fun h1 h2 => pe_ix (ix_list.or ix_tup) h1 h2 (fun _ _ => rfl)) (ve_var 6) ve_int))) (ve_var 8) (ve_callC cv_min2 (fun h => pe_callB (call_min2 rfl) (by rfl) Zm.z_min (by decide +kernel) h) (VA.vt (va_cons (ve_var 8) (va_cons (ve_bin ov_I (fun h1 h2 => pe_op (op_fdivV) h1 h2) (ve_bin ov_I0 (fun h1 h2 => pe_op (op_sub) h1 h2) (ve_var 2) (ve_bin ov_ix (fun h1 h2 => pe_ix (ix_list.or ix_tup) h1 h2 (fun _ _ => rfl)) (ve_var 7) ve_int)) (ve_bin ov_ix (fun h1 h2 => pe_ix (ix_list.or ix_tup) h1 h2 (fun _ _ => rfl)) (ve_var 6) ve_int)) va_nil))))))
  (vs_cons (vs_set 10 sc_nearest_below.nd rfl (by first | exact Or.inl rfl | exact Or.inr rfl) (Or.inl rfl) (ve_tup (va_cons (ve_bin ov_add (fun h1 h2 => pe_op (op_add.or (op_catA.or op_cat)) h1 h2) (ve_bin ov_mul (fun h1 h2 => pe_op (op_mulV.or op_repT) h1 h2) (ve_var 9) (ve_bin ov_ix (fun h1 h2 => pe_ix (ix_list.or ix_tup) h1 h2 (fun _ _ => rfl)) (ve_var 6) ve_int)) (ve_bin ov_ix (fun h1 h2 => pe_ix (ix_list.or ix_tup) h1 h2 (fun _ _ => rfl)) (ve_var 7) ve_int)) (va_cons (ve_bin ov_add (fun h1 h2 => pe_op (op_add.or (op_catA.or op_cat)) h1 h2) (ve_bin ov_mul (fun h1 h2 => pe_op (op_mulV.or op_repT) h1 h2) (ve_var 9) (ve_bin ov_ix (fun h1 h2 => pe_ix (ix_list.or ix_tup) h1 h2 (fun _ _ => rfl)) (ve_var 6) ve_int)) (ve_bin ov_ix (fun h1 h2 => pe_ix (ix_list.or ix_tup) h1 h2 (fun _ _ => rfl)) (ve_var 7) ve_int)) va_nil))))
  (vs_cons (vs_if (VW.vb (vw_and (vb_tru (ve_bin ov_ix (fun h1 h2 => pe_ix (ix_list.or ix_tup) h1 h2 (fun _ _ => rfl)) (ve_var 10) ve_int)) (vw_and1 (vb_tru (ve_call C_is_nearer.ok (hr.mono (by decide)) (by rfl) C_is_nearer.m C_is_nearer.kp C_is_nearer.b (va_cons (ve_var 4) (va_cons (ve_var 10) (va_cons (ve_var 5) va_nil)))))))) (vs_one (vs_set 5 sc_nearest_below.nd rfl (by first | exact Or.inl rfl | exact Or.inr rfl) (Or.inl rfl) (ve_var 10))) vs_nil)
  (vs_cons (vs_if (vb_cmp (op_lt) ov_B0 (nomark _) (ve_var 9) (ve_var 8)) (vs_one vs_break) vs_nil)
  (vs_one (vs_par 6 7 (by rfl) sc_nearest_below.nd rfl rfl (by decide) (Or.inl rfl) rfl rfl (ve_var 10) (ve_var 6) (by rfl))))))))
  (vs_one (vs_ret (ve_call C_fraction.ok (hr.mono (by decide)) (by rfl) C_fraction.m C_fraction.kp C_fraction.b (va_cons (ve_bin ov_ix (fun h1 h2 => pe_ix (ix_list.or ix_tup) h1 h2 (fun _ _ => rfl)) (ve_var 5) ve_int) (va_cons (ve_bin ov_ix (fun h1 h2 => pe_ix (ix_list.or ix_tup) h1 h2 (fun _ _ => rfl)) (ve_var 5) ve_int) va_nil)))))))))))
theorem ok_nearest_below {f : Addr} {fd : FuncData} (F : FnP K "nearest_below" s_nearest_below f fd) (m : mg "nearest_below" = some (.ref f)) (Zm : ZZ K mg) {f_fraction_terms : Addr} {d_fraction_terms : FuncData} (C_fraction_terms : Cal P w K mg base 2 "fraction_terms" ["above", "below"] (LF K sp_fraction_terms) f_fraction_terms d_fraction_terms) {f_fraction : Addr} {d_fraction : FuncData} (C_fraction : Cal P w K mg base 2 "fraction" ["above", "below"] (LF K sp_fraction) f_fraction d_fraction) {f_is_nearer : Addr} {d_is_nearer : FuncData} (C_is_nearer : Cal P w K mg base 1 "is_nearer" ["goal", "one", "other"] (LF K sp_is_nearer) f_is_nearer d_is_nearer)
    (hl : ∀ ds Q, sp_nearest_below ds Q → ds.length = 3) (hq : ∀ ds Q, sp_nearest_below ds Q → rd_nearest_below { nx := fun _ => Q .none, rt := fun d _ => Q d } (ev0 ["above", "below", "most", "terms", "goal", "best", "one", "other", "term", "steps", "fresh"] ds)) :
    Cal P w K mg base 3 "nearest_below" ["above", "below", "most"] (LF K sp_nearest_below) f fd :=
  ⟨fn_ok F sc_nearest_below hl (fun cdv A outer s H E B hr => der_nearest_below Zm C_fraction_terms C_fraction C_is_nearer hr) hq, F.bindsN fun _ _ _ _ _ _ us hl => match us, hl with | [_, _, _], _ => rfl, F.kp, m⟩

/-! ### is_nearer: ["goal", "one", "other", "left", "right"] -/
theorem sc_is_nearer : FnScope ["goal", "one", "other", "left", "right"] ["goal", "one", "other"] (defScope s_is_nearer) := ⟨rfl, rfl, rfl, by decide +kernel, rfl, by decide +kernel, by decide +kernel⟩
def rd_is_nearer : VS := (vSeq (vSet 3 (vBin dMul (vCall cAbs (vCons (vBin (d20 fun i j => .int (i - j)) (vBin dMul (vBin dIx (vVar 1) (vC (.int 0))) (vBin dIx (vVar 0) (vC (.int 1)))) (vBin dMul (vBin dIx (vVar 0) (vC (.int 0))) (vBin dIx (vVar 1) (vC (.int 1))))) vNil)) (vBin dIx (vVar 2) (vC (.int 1)))))
  (vSeq (vSet 4 (vBin dMul (vCall cAbs (vCons (vBin (d20 fun i j => .int (i - j)) (vBin dMul (vBin dIx (vVar 2) (vC (.int 0))) (vBin dIx (vVar 0) (vC (.int 1)))) (vBin dMul (vBin dIx (vVar 0) (vC (.int 0))) (vBin dIx (vVar 2) (vC (.int 1))))) vNil)) (vBin dIx (vVar 1) (vC (.int 1)))))
  (vRet (vOrV (vBin (d20 fun i j => .bool (decide (i < j))) (vVar 3) (vVar 4)) (vAndV (vBin dEq (vVar 3) (vVar 4)) (vBin (d20 fun i j => .bool (decide (i < j))) (vBin dMul (vBin dIx (vVar 1) (vC (.int 0))) (vBin dIx (vVar 2) (vC (.int 1)))) (vBin dMul (vBin dIx (vVar 2) (vC (.int 0))) (vBin dIx (vVar 1) (vC (.int 1))))))))))
theorem der_is_nearer (Zm : ZZ K mg) {f : Addr} {cdv : Value} {A : Around} {outer : List Env} {s : Shared} {H : Hp} {E : XK} {B : Addr → Prop} (hr : Room 0 (A.deeper (envOfC "is_nearer" (defScope s_is_nearer) s.heap.objs.size f cdv))) :
    VSs (cxOf CX0 P w K mg base ["goal", "one", "other", "left", "right"] "is_nearer" (defScope s_is_nearer) f cdv A outer s H E).nox ⟨B, none⟩ (defBody s_is_nearer) rd_is_nearer :=
  (vs_cons (vs_set 3 sc_is_nearer.nd rfl (by first | exact Or.inl rfl | exact Or.inr rfl) (Or.inl rfl) (ve_bin ov_mul (fun h1 h2 => pe_op (op_mulV.or op_repT) h1 h2) (ve_callC cv_abs (fun h => pe_callB call_abs (by rfl) Zm.z_abs (by decide +kernel) h) (VA.vt (va_cons (ve_bin ov_I0 (fun h1 h2 => pe_op (op_sub) h1 h2) (ve_bin ov_mul (fun h1 h2 => pe_op (op_mulV.or op_repT) h1 h2) (ve_bin ov_ix (fun h1 h2 => pe_ix (ix_list.or ix_tup) h1 h2 (fun _ _ => rfl)) (ve_var 1) ve_int) (ve_bin ov_ix (fun h1 h2 => pe_ix (ix_list.or ix_tup) h1 h2 (fun _ _ => rfl)) (ve_var 0) ve_int)) (ve_bin ov_mul (fun h1 h2 => pe_op (op_mulV.or op_repT) h1 h2) (ve_bin ov_ix (fun h1 h2 => pe_ix (ix_list.or ix_tup) h1 h2 (fun _ _ => rfl)) (ve_var 0) ve_int) (ve_bin ov_ix (fun h1 h2 => pe_ix (ix_list.or ix_tup) h1 h2 (fun _ _ => rfl)) (ve_var 1) ve_int))) va_nil))) (ve_bin ov_ix (fun h1 h2 => pe_ix (ix_list.or ix_tup) h1 h2 (fun _ _ => rfl)) (ve_var 2) ve_int)))
  (vs_cons (vs_set 4 sc_is_nearer.nd rfl (by first | exact Or.inl rfl | exact Or.inr rfl) (Or.inl rfl) (ve_bin ov_mul (fun h1 h2 => pe_op (op_mulV.or op_repT) h1 h2) (ve_callC cv_abs (fun h => pe_callB call_abs (by rfl) Zm.z_abs (by decide +kernel) h) (VA.vt (va_cons (ve_bin ov_I0 (fun h1 h2 => pe_op (op_sub) h1 h2) (ve_bin ov_mul (fun h1 h2 => pe_op (op_mulV.or op_repT) h1 h2) (ve_bin ov_ix (fun h1 h2 => pe_ix (ix_list.or ix_tup) h1 h2 (fun _ _ => rfl)) (ve_var 2) ve_int) (ve_bin ov_ix (fun h1 h2 => pe_ix (ix_list.or ix_tup) h1 h2 (fun _ _ => rfl)) (ve_var 0) ve_int)) (ve_bin ov_mul (fun h1 h2 => pe_op (op_mulV.or op_repT) h1 h2) (ve_bin ov_ix (fun h1 h2 => pe_ix (ix_list.or ix_tup) h1 h2 (fun _ _ => rfl)) (ve_var 0) ve_int) (ve_bin ov_ix (fun h1 h2 => pe_ix (ix_list.or ix_tup) h1 h2 (fun _ _ => rfl)) (ve_var 2) ve_int))) va_nil))) (ve_bin ov_ix (fun h1 h2 => pe_ix (ix_list.or ix_tup) h1 h2 (fun _ _ => rfl)) (ve_var 1) ve_int)))
  (vs_one (vs_ret (ve_or (ve_bin ov_B0 (fun h1 h2 => pe_cmpR (op_lt) h1 h2 (nomark _)) (ve_var 3) (ve_var 4)) (ve_one (ve_and (ve_bin ov_eq (fun h1 h2 => pe_cmpR (op_eqD hr.units) h1 h2 (nomark _)) (ve_var 3) (ve_var 4)) (ve_one (ve_bin ov_B0 (fun h1 h2 => pe_cmpR (op_lt) h1 h2 (nomark _)) (ve_bin ov_mul (fun h1 h2 => pe_op (op_mulV.or op_repT) h1 h2) (ve_bin ov_ix (fun h1 h2 => pe_ix (ix_list.or ix_tup) h1 h2 (fun _ _ => rfl)) (ve_var 1) ve_int) (ve_bin ov_ix (fun h1 h2 => pe_ix (ix_list.or ix_tup) h1 h2 (fun _ _ => rfl)) (ve_var 2) ve_int)) (ve_bin ov_mul (fun h1 h2 => pe_op (op_mulV.or op_repT) h1 h2) (ve_bin ov_ix (fun h1 h2 => pe_ix (ix_list.or ix_tup) h1 h2 (fun _ _ => rfl)) (ve_var 2) ve_int) (ve_bin ov_ix (fun h1 h2 => pe_ix (ix_list.or ix_tup) h1 h2 (fun _ _ => rfl)) (ve_var 1) ve_int)))))))))))
theorem ok_is_nearer {f : Addr} {fd : FuncData} (F : FnP K "is_nearer" s_is_nearer f fd) (m : mg "is_nearer" = some (.ref f)) (Zm : ZZ K mg)
    (hl : ∀ ds Q, sp_is_nearer ds Q → ds.length = 3) (hq : ∀ ds Q, sp_is_nearer ds Q → rd_is_nearer { nx := fun _ => Q .none, rt := fun d _ => Q d } (ev0 ["goal", "one", "other", "left", "right"] ds)) :
    Cal P w K mg base 1 "is_nearer" ["goal", "one", "other"] (LF K sp_is_nearer) f fd :=
  ⟨fn_ok F sc_is_nearer hl (fun cdv A outer s H E B hr => der_is_nearer Zm  hr) hq, F.bindsN fun _ _ _ _ _ _ us hl => match us, hl with | [_, _, _], _ => rfl, F.kp, m⟩

/-! ### _law_digits: ["script", "first", "last", "found", "k", "c", "n", "turn", "s"] -/
theorem sc__law_digits : FnScope ["script", "first", "last", "found", "k", "c", "n", "turn", "s"] ["script", "first", "last"] (defScope s__law_digits) := ⟨rfl, rfl, rfl, by decide +kernel, rfl, by decide +kernel, by decide +kernel⟩
def rd__law_digits_f2g : VG := (gN 7)
def rd__law_digits_f2b : VS := (vIfS (vB (vBin (d20 fun i j => .bool (decide (j < i))) (vVar 6) (vC (.int 0)))) (vSeq (vAppend 3 (vBin (d2 (fun _ j => j ≠ 0) fun i j => .int (i.fmod j)) (vVar 6) (vC (.int 1009))))
  (vSet 6 (vBin (d2 (fun _ j => divOk j) fun i j => .int (i.fdiv j)) (vVar 6) (vC (.int 1009))))) vNext)

def rd__law_digits_f3g : VG := (gN 7)
def rd__law_digits_f3b : VS := (vSeq (vSet 8 (vBin (d2 (fun _ j => j ≠ 0) fun i j => .int (i.fmod j)) (vBin dAdd (vBin dAdd (vBin dMul (vVar 8) (vC (.int 16807))) (vBin dMul (vVar 7) (vC (.int 7)))) (vC (.int 1))) (vC (.int 2147483647))))
  (vAppend 3 (vBin (d2 (fun _ j => j ≠ 0) fun i j => .int (i.fmod j)) (vBin (d2 (fun _ j => divOk j) fun i j => .int (i.fdiv j)) (vVar 8) (vC (.int 997))) (vC (.int 1009)))))

def rd__law_digits_f1g : VG := (gN 4)
def rd__law_digits_f1b : VS := (vSeq (vSet 5 (vCallSC 0 sp__law_cell (vCons (vVar 4) vNil)))
  (vSeq (vIfS (vB (vBin (d20 fun i j => .bool (decide (i < j))) (vVar 5) (vC (.int 0)))) (vSet 5 (vBin (d20 fun i j => .int (i - j)) (vC (.int 1)) (vBin dMul (vVar 5) (vC (.int 2))))) vNext)
  (vIfS (vB (vBin (d20 fun i j => .bool (decide (j ≤ i))) (vVar 5) (vBin (d2 shlOk fun i j => .int (i ^ j.toNat)) (vC (.int 10)) (vC (.int 18))))) (vSeq (vSet 6 (vVar 5))
  (vForS (wR1 (vC (.int 60))) rd__law_digits_f2g rd__law_digits_f2b)) (vSeq (vSet 8 (vBin (d2 (fun _ j => j ≠ 0) fun i j => .int (i.fmod j)) (vBin dAdd (vBin dAdd (vBin dMul (vVar 5) (vC (.int 48271))) (vBin dMul (vCall cInt (vCons (vBin dAdd (vVar 4) (vC (.int 1))) vNil)) (vC (.int 69621)))) (vC (.int 11))) (vC (.int 2147483647))))
  (vForS (wR1 (vC (.int 12))) rd__law_digits_f3g rd__law_digits_f3b)))))

def rd__law_digits : VS := (vSeq (vSetO 3 vNil)
  (vSeq (vForS (wR2 (vVar 1) (vVar 2)) rd__law_digits_f1g rd__law_digits_f1b)
  (vFz 3 (vRet (vVar 3)))))
theorem der__law_digits (Zm : ZZ K mg) {f__law_cell : Addr} {d__law_cell : FuncData} (C__law_cell : Cal P w K mg base 1 "_law_cell" ["script", "k"] (LFsc K sp__law_cell) f__law_cell d__law_cell) {f : Addr} {cdv : Value} {A : Around} {outer : List Env} {s : Shared} {H : Hp} {E : XK} {B : Addr → Prop} (hr : Room 1 (A.deeper (envOfC "_law_digits" (defScope s__law_digits) s.heap.objs.size f cdv))) :
    VSs (cxOf CX0 P w K mg base ["script", "first", "last", "found", "k", "c", "n", "turn", "s"] "_law_digits" (defScope s__law_digits) f cdv A outer s H E).nox ⟨B, none⟩ (defBody s__law_digits) rd__law_digits :=
  (vs_cons (vs_setO 3 sc__law_digits.nd rfl (by first | exact Or.inl rfl | exact Or.inr rfl) (Or.inl rfl) (vo_lst va_nil))
  (vs_cons (vs_for (vs := [4]) PassesOwn.never (by rfl) (vw_rng2 (by rfl) Zm.z_range (ve_var 1) (ve_var 2)) (vg_name 4 sc__law_digits.nd rfl (by first | exact Or.inl rfl | exact Or.inr rfl) (Or.inl rfl) (by decide)) (vs_cons (vs_set 5 sc__law_digits.nd rfl (by first | exact Or.inl rfl | exact Or.inr rfl) (Or.inl rfl) (ve_callSC 0 C__law_cell.ok (hr.mono (by decide)) (by rfl) C__law_cell.m C__law_cell.kp C__law_cell.b (pv 0) (va_cons (ve_var 4) va_nil)))
  (vs_cons (vs_if (vb_cmp (op_lt) ov_B0 (nomark _) (ve_var 5) ve_int) (vs_one (vs_set 5 sc__law_digits.nd rfl (by first | exact Or.inl rfl | exact Or.inr rfl) (Or.inl rfl) (ve_bin ov_I0 (fun h1 h2 => pe_op (op_sub) h1 h2) ve_int (ve_bin ov_mul (fun h1 h2 => pe_op (op_mulV.or op_repT) h1 h2) (ve_var 5) ve_int)))) vs_nil)
  (vs_one (vs_if (vb_cmp (op_ge) ov_B0 (nomark _) (ve_var 5) (ve_bin ov_I (fun h1 h2 => pe_op (op_powV) h1 h2) ve_int ve_int)) (vs_cons (vs_set 6 sc__law_digits.nd rfl (by first | exact Or.inl rfl | exact Or.inr rfl) (Or.inl rfl) (ve_var 5))
  (vs_one (vs_for (vs := [7]) PassesOwn.never (by rfl) (vw_rng1 (by rfl) Zm.z_range ve_int) (vg_name 7 sc__law_digits.nd rfl (by first | exact Or.inl rfl | exact Or.inr rfl) (Or.inl rfl) (by decide)) (vs_one (vs_if (vb_cmp (op_gt) ov_B0 (nomark _) (ve_var 6) ve_int) (vs_cons (vs_append 3 (pv 3) (ve_bin ov_I (fun h1 h2 => pe_op (op_modV) h1 h2) (ve_var 6) ve_int) (fun h => mk_append (pv 3) (he := h)))
  (vs_one (vs_set 6 sc__law_digits.nd rfl (by first | exact Or.inl rfl | exact Or.inr rfl) (Or.inl rfl) (ve_bin ov_I (fun h1 h2 => pe_op (op_fdivV) h1 h2) (ve_var 6) ve_int)))) vs_nil))))) (vs_cons (vs_set 8 sc__law_digits.nd rfl (by first | exact Or.inl rfl | exact Or.inr rfl) (Or.inl rfl) (ve_bin ov_I (fun h1 h2 => pe_op (op_modV) h1 h2) (ve_bin ov_add (fun h1 h2 => pe_op (op_add.or (op_catA.or op_cat)) h1 h2) (ve_bin ov_add (fun h1 h2 => pe_op (op_add.or (op_catA.or op_cat)) h1 h2) (ve_bin ov_mul (fun h1 h2 => pe_op (op_mulV.or op_repT) h1 h2) (ve_var 5) ve_int) (ve_bin ov_mul (fun h1 h2 => pe_op (op_mulV.or op_repT) h1 h2) (ve_callC cv_int (fun h => pe_callTy call_int1 (by rfl) Zm.z_int (by decide +kernel) h) (VA.vt (va_cons (ve_bin ov_add (fun h1 h2 => pe_op (op_add.or (op_catA.or op_cat)) h1 h2) (ve_var 4) ve_int) va_nil))) ve_int)) ve_int) ve_int))
  (vs_one (vs_for (vs := [7]) PassesOwn.never (by rfl) (vw_rng1 (by rfl) Zm.z_range ve_int) (vg_name 7 sc__law_digits.nd rfl (by first | exact Or.inl rfl | exact Or.inr rfl) (Or.inl rfl) (by decide)) (vs_cons (vs_set 8 sc__law_digits.nd rfl (by first | exact Or.inl rfl | exact Or.inr rfl) (Or.inl rfl) (ve_bin ov_I (fun h1 h2 => pe_op (op_modV) h1 h2) (ve_bin ov_add (fun h1 h2 => pe_op (op_add.or (op_catA.or op_cat)) h1 h2) (ve_bin ov_add (fun h1 h2 => pe_op (op_add.or (op_catA.or op_cat)) h1 h2) (ve_bin ov_mul (fun h1 h2 => pe_op (op_mulV.or op_repT) h1 h2) (ve_var 8) ve_int) (ve_bin ov_mul (fun h1 h2 => pe_op (op_mulV.or op_repT) h1 h2) (ve_var 7) ve_int)) ve_int) ve_int))
  (vs_one (vs_append 3 (pv 3) (ve_bin ov_I (fun h1 h2 => pe_op (op_modV) h1 h2) (ve_bin ov_I (fun h1 h2 => pe_op (op_fdivV) h1 h2) (ve_var 8) ve_int) ve_int) (fun h => mk_append (pv 3) (he := h)))))))))))))
  (vs_one (vs_fz 3 (Or.inl rfl) (vs_ret (ve_var 3))))))
theorem ok__law_digits {f : Addr} {fd : FuncData} (F : FnP K "_law_digits" s__law_digits f fd) (m : mg "_law_digits" = some (.ref f)) (Zm : ZZ K mg) {f__law_cell : Addr} {d__law_cell : FuncData} (C__law_cell : Cal P w K mg base 1 "_law_cell" ["script", "k"] (LFsc K sp__law_cell) f__law_cell d__law_cell)
    (hl : ∀ ns ds Q, sp__law_digits ns ds Q → ds.length + 1 = 3) (hq : ∀ ns ds Q, sp__law_digits ns ds Q → rd__law_digits { nx := fun _ => Q .none, rt := fun d _ => Q d } (evS ["script", "first", "last", "found", "k", "c", "n", "turn", "s"] ns ds)) :
    Cal P w K mg base 2 "_law_digits" ["script", "first", "last"] (LFsc K sp__law_digits) f fd :=
  ⟨fn_okSC F sc__law_digits hl (fun cdv A outer s H E B hr => der__law_digits Zm C__law_cell hr) hq, F.bindsN fun _ _ _ _ _ _ us hl => match us, hl with | [_, _, _], _ => rfl, F.kp, m⟩

/-! ### _law_draw: ["box", "m", "digits", "at"] -/
theorem sc__law_draw : FnScope ["box", "m", "digits", "at"] ["box", "m"] (defScope s__law_draw) := ⟨rfl, rfl, rfl, by decide +kernel, rfl, by decide +kernel, by decide +kernel⟩
def rd__law_draw : VS := (vSeq (vUnp 2 0 (gsC (gN 2) (gsC (gN 3) gs0)))
  (vSeq (vAsg (vBin dAdd (vVar 3) (vC (.int 1))) (gSet 0 (vC (.int 1))))
  (vSeq (vIfS (vB (vBin (d20 fun i j => .bool (decide (i < j))) (vVar 3) (vCall cLen (vCons (vVar 2) vNil)))) (vRet (vBin (d2 (fun _ j => j ≠ 0) fun i j => .int (i.fmod j)) (vBin dIx (vVar 2) (vVar 3)) (vVar 1))) vNext)
  (vRet (vBin (d2 (fun _ j => j ≠ 0) fun i j => .int (i.fmod j)) (vBin dAdd (vBin dAdd (vBin dAdd (vBin dMul (vBin dMul (vVar 3) (vVar 3)) (vC (.int 3))) (vBin dMul (vVar 3) (vC (.int 4)))) (vBin (d2 (fun _ j => divOk j) fun i j => .int (i.fdiv j)) (vVar 3) (vC (.int 3)))) (vC (.int 1))) (vVar 1))))))
theorem der__law_draw (Zm : ZZ K mg) {f : Addr} {cdv : Value} {A : Around} {outer : List Env} {s : Shared} {H : Hp} {E : XK} {B : Addr → Prop} (a0 : Addr) (hr : Room 0 (A.deeper (envOfC "_law_draw" (defScope s__law_draw) s.heap.objs.size f cdv))) :
    VSs (cxOf CX0 P w K mg base ["box", "m", "digits", "at"] "_law_draw" (defScope s__law_draw) f cdv A outer s H E).nox ⟨B, some a0⟩ (defBody s__law_draw) rd__law_draw :=
  (vs_cons (vs_unp (vs := [2, 3]) 0 (by rfl) (pv 0) (vgs_cons (vg_name 2 sc__law_draw.nd rfl (by first | exact Or.inl rfl | exact Or.inr rfl) (Or.inr (by decide)) (by decide)) (vgs_cons (vg_name 3 sc__law_draw.nd rfl (by first | exact Or.inl rfl | exact Or.inr rfl) (Or.inr (by decide)) (by decide)) vgs_nil)) (fun h => pg_unl (by rfl) h))
  (vs_cons (vs_asg (vs := []) (ve_bin ov_add (fun h1 h2 => pe_op (op_add.or (op_catA.or op_cat)) h1 h2) (ve_var 3) ve_int) (vg_set 0 (pv 0) ve_int))
  (vs_cons (vs_if (vb_cmp (op_lt) ov_B0 (nomark _) (ve_var 3) (ve_callC cv_len (fun h => pe_callB call_len_seq (by rfl) Zm.z_len PySem.boot_len h) (VA.vt (va_cons (ve_var 2) va_nil)))) (vs_one (vs_ret (ve_bin ov_I (fun h1 h2 => pe_op (op_modV) h1 h2) (ve_bin ov_ix (fun h1 h2 => pe_ix (ix_list.or ix_tup) h1 h2 (fun _ _ => rfl)) (ve_var 2) (ve_var 3)) (ve_var 1)))) vs_nil)
  (vs_one (vs_ret (ve_bin ov_I (fun h1 h2 => pe_op (op_modV) h1 h2) (ve_bin ov_add (fun h1 h2 => pe_op (op_add.or (op_catA.or op_cat)) h1 h2) (ve_bin ov_add (fun h1 h2 => pe_op (op_add.or (op_catA.or op_cat)) h1 h2) (ve_bin ov_add (fun h1 h2 => pe_op (op_add.or (op_catA.or op_cat)) h1 h2) (ve_bin ov_mul (fun h1 h2 => pe_op (op_mulV.or op_repT) h1 h2) (ve_bin ov_mul (fun h1 h2 => pe_op (op_mulV.or op_repT) h1 h2) (ve_var 3) (ve_var 3)) ve_int) (ve_bin ov_mul (fun h1 h2 => pe_op (op_mulV.or op_repT) h1 h2) (ve_var 3) ve_int)) (ve_bin ov_I (fun h1 h2 => pe_op (op_fdivV) h1 h2) (ve_var 3) ve_int)) ve_int) (ve_var 1)))))))
theorem ok__law_draw {f : Addr} {fd : FuncData} (F : FnP K "_law_draw" s__law_draw f fd) (m : mg "_law_draw" = some (.ref f)) (Zm : ZZ K mg)
    (hl : ∀ xs ds Q, sp__law_draw xs ds Q → ds.length + 1 = 2) (hq : ∀ xs ds Q, sp__law_draw xs ds Q → rd__law_draw (endIO Q) (ev1 ["box", "m", "digits", "at"] xs ds)) :
    Cal P w K mg base 1 "_law_draw" ["box", "m"] (LFio K sp__law_draw) f fd :=
  ⟨fn_okIO F sc__law_draw hl (fun cdv A outer s H E B a0 hr => der__law_draw Zm  a0 hr) hq, F.bindsN fun _ _ _ _ _ _ us hl => match us, hl with | [_, _], _ => rfl, F.kp, m⟩

/-! ### _law_gcd: ["one", "other"] -/
theorem sc__law_gcd : FnScope ["one", "other"] ["one", "other"] (defScope s__law_gcd) := ⟨rfl, rfl, rfl, by decide +kernel, rfl, by decide +kernel, by decide +kernel⟩
def rd__law_gcd_w1c : VTB := (vB (vBin (d20 fun i j => .bool (decide (j < i))) (vVar 1) (vC (.int 0))))
def rd__law_gcd_w1b : VS := (vPar 0 1 (vVar 1) (vBin (d2 (fun _ j => j ≠ 0) fun i j => .int (i.fmod j)) (vVar 0) (vVar 1)))

def rd__law_gcd : VS := (vSeq (vPar 0 1 (vCall cAbs (vCons (vVar 0) vNil)) (vCall cAbs (vCons (vVar 1) vNil)))
  (vSeq (vWhile rd__law_gcd_w1c rd__law_gcd_w1b)
  (vRet (vVar 0))))
theorem der__law_gcd (Zm : ZZ K mg) {f : Addr} {cdv : Value} {A : Around} {outer : List Env} {s : Shared} {H : Hp} {E : XK} {B : Addr → Prop} (hr : Room 0 (A.deeper (envOfC "_law_gcd" (defScope s__law_gcd) s.heap.objs.size f cdv))) :
    VSs (cxOf CX0 P w K mg base ["one", "other"] "_law_gcd" (defScope s__law_gcd) f cdv A outer s H E).nox ⟨B, none⟩ (defBody s__law_gcd) rd__law_gcd :=
  (vs_cons (vs_par 0 1 (by rfl) sc__law_gcd.nd rfl rfl (by decide) (Or.inl rfl) rfl rfl (ve_callC cv_abs (fun h => pe_callB call_abs (by rfl) Zm.z_abs (by decide +kernel) h) (VA.vt (va_cons (ve_var 0) va_nil))) (ve_callC cv_abs (fun h => pe_callB call_abs (by rfl) Zm.z_abs (by decide +kernel) h) (VA.vt (va_cons (ve_var 1) va_nil))) (by rfl))
  (vs_cons (vs_while PassesOwn.never (vb_cmp (op_gt) ov_B0 (nomark _) (ve_var 1) ve_int) (vs_one (vs_par 0 1 (by rfl) sc__law_gcd.nd rfl rfl (by decide) (Or.inl rfl) rfl rfl (ve_var 1) (ve_bin ov_I (fun h1 h2 => pe_op (op_modV) h1 h2) (ve_var 0) (ve_var 1)) (by rfl))))
  (vs_one (vs_ret (ve_var 0)))))
theorem ok__law_gcd {f : Addr} {fd : FuncData} (F : FnP K "_law_gcd" s__law_gcd f fd) (m : mg "_law_gcd" = some (.ref f)) (Zm : ZZ K mg)
    (hl : ∀ ds Q, sp__law_gcd ds Q → ds.length = 2) (hq : ∀ ds Q, sp__law_gcd ds Q → rd__law_gcd { nx := fun _ => Q .none, rt := fun d _ => Q d } (ev0 ["one", "other"] ds)) :
    Cal P w K mg base 1 "_law_gcd" ["one", "other"] (LF K sp__law_gcd) f fd :=
  ⟨fn_ok F sc__law_gcd hl (fun cdv A outer s H E B hr => der__law_gcd Zm  hr) hq, F.bindsN fun _ _ _ _ _ _ us hl => match us, hl with | [_, _], _ => rfl, F.kp, m⟩

/-! ### _law_fraction: ["above", "below", "common"] -/
theorem sc__law_fraction : FnScope ["above", "below", "common"] ["above", "below"] (defScope s__law_fraction) := ⟨rfl, rfl, rfl, by decide +kernel, rfl, by decide +kernel, by decide +kernel⟩
def rd__law_fraction : VS := (vSeq (vSet 2 (vCall sp__law_gcd (vCons (vVar 0) (vCons (vVar 1) vNil))))
  (vSeq (vIfS (vB (vBin (d20 fun i j => .bool (decide (i < j))) (vVar 1) (vC (.int 0)))) (vSet 2 (vBin (d20 fun i j => .int (i - j)) (vC (.int 0)) (vVar 2))) vNext)
  (vRet (vTup (vCons (vBin (d2 (fun _ j => divOk j) fun i j => .int (i.fdiv j)) (vVar 0) (vVar 2)) (vCons (vBin (d2 (fun _ j => divOk j) fun i j => .int (i.fdiv j)) (vVar 1) (vVar 2)) vNil))))))
theorem der__law_fraction (Zm : ZZ K mg) {f__law_gcd : Addr} {d__law_gcd : FuncData} (C__law_gcd : Cal P w K mg base 1 "_law_gcd" ["one", "other"] (LF K sp__law_gcd) f__law_gcd d__law_gcd) {f : Addr} {cdv : Value} {A : Around} {outer : List Env} {s : Shared} {H : Hp} {E : XK} {B : Addr → Prop} (hr : Room 1 (A.deeper (envOfC "_law_fraction" (defScope s__law_fraction) s.heap.objs.size f cdv))) :
    VSs (cxOf CX0 P w K mg base ["above", "below", "common"] "_law_fraction" (defScope s__law_fraction) f cdv A outer s H E).nox ⟨B, none⟩ (defBody s__law_fraction) rd__law_fraction :=
  (vs_cons (vs_set 2 sc__law_fraction.nd rfl (by first | exact Or.inl rfl | exact Or.inr rfl) (Or.inl rfl) (ve_call C__law_gcd.ok (hr.mono (by decide)) (by rfl) C__law_gcd.m C__law_gcd.kp C__law_gcd.b (va_cons (ve_var 0) (va_cons (ve_var 1) va_nil))))
  (vs_cons (vs_if (vb_cmp (op_lt) ov_B0 (nomark _) (ve_var 1) ve_int) (vs_one (vs_set 2 sc__law_fraction.nd rfl (by first | exact Or.inl rfl | exact Or.inr rfl) (Or.inl rfl) (ve_bin ov_I0 (fun h1 h2 => pe_op (op_sub) h1 h2) ve_int (ve_var 2)))) vs_nil)
  (vs_one (vs_ret (ve_tup (va_cons (ve_bin ov_I (fun h1 h2 => pe_op (op_fdivV) h1 h2) (ve_var 0) (ve_var 2)) (va_cons (ve_bin ov_I (fun h1 h2 => pe_op (op_fdivV) h1 h2) (ve_var 1) (ve_var 2)) va_nil)))))))
theorem ok__law_fraction {f : Addr} {fd : FuncData} (F : FnP K "_law_fraction" s__law_fraction f fd) (m : mg "_law_fraction" = some (.ref f)) (Zm : ZZ K mg) {f__law_gcd : Addr} {d__law_gcd : FuncData} (C__law_gcd : Cal P w K mg base 1 "_law_gcd" ["one", "other"] (LF K sp__law_gcd) f__law_gcd d__law_gcd)
    (hl : ∀ ds Q, sp__law_fraction ds Q → ds.length = 2) (hq : ∀ ds Q, sp__law_fraction ds Q → rd__law_fraction { nx := fun _ => Q .none, rt := fun d _ => Q d } (ev0 ["above", "below", "common"] ds)) :
    Cal P w K mg base 2 "_law_fraction" ["above", "below"] (LF K sp__law_fraction) f fd :=
  ⟨fn_ok F sc__law_fraction hl (fun cdv A outer s H E B hr => der__law_fraction Zm C__law_gcd hr) hq, F.bindsN fun _ _ _ _ _ _ us hl => match us, hl with | [_, _], _ => rfl, F.kp, m⟩

/-! ### _law_less: ["one", "other"] -/
theorem sc__law_less : FnScope ["one", "other"] ["one", "other"] (defScope s__law_less) := ⟨rfl, rfl, rfl, by decide +kernel, rfl, by decide +kernel, by decide +kernel⟩
def rd__law_less : VS := (vRet (vBin (d20 fun i j => .bool (decide (i < j))) (vBin dMul (vBin dIx (vVar 0) (vC (.int 0))) (vBin dIx (vVar 1) (vC (.int 1)))) (vBin dMul (vBin dIx (vVar 1) (vC (.int 0))) (vBin dIx (vVar 0) (vC (.int 1))))))
theorem der__law_less (Zm : ZZ K mg) {f : Addr} {cdv : Value} {A : Around} {outer : List Env} {s : Shared} {H : Hp} {E : XK} {B : Addr → Prop} (hr : Room 0 (A.deeper (envOfC "_law_less" (defScope s__law_less) s.heap.objs.size f cdv))) :
    VSs (cxOf CX0 P w K mg base ["one", "other"] "_law_less" (defScope s__law_less) f cdv A outer s H E).nox ⟨B, none⟩ (defBody s__law_less) rd__law_less :=
  (vs_one (vs_ret (ve_bin ov_B0 (fun h1 h2 => pe_cmpR (op_lt) h1 h2 (nomark _)) (ve_bin ov_mul (fun h1 h2 => pe_op (op_mulV.or op_repT) h1 h2) (ve_bin ov_ix (fun h1 h2 => pe_ix (ix_list.or ix_tup) h1 h2 (fun _ _ => rfl)) (ve_var 0) ve_int) (ve_bin ov_ix (fun h1 h2 => pe_ix (ix_list.or ix_tup) h1 h2 (fun _ _ => rfl)) (ve_var 1) ve_int)) (ve_bin ov_mul (fun h1 h2 => pe_op (op_mulV.or op_repT) h1 h2) (ve_bin ov_ix (fun h1 h2 => pe_ix (ix_list.or ix_tup) h1 h2 (fun _ _ => rfl)) (ve_var 1) ve_int) (ve_bin ov_ix (fun h1 h2 => pe_ix (ix_list.or ix_tup) h1 h2 (fun _ _ => rfl)) (ve_var 0) ve_int)))))
theorem ok__law_less {f : Addr} {fd : FuncData} (F : FnP K "_law_less" s__law_less f fd) (m : mg "_law_less" = some (.ref f)) (Zm : ZZ K mg)
    (hl : ∀ ds Q, sp__law_less ds Q → ds.length = 2) (hq : ∀ ds Q, sp__law_less ds Q → rd__law_less { nx := fun _ => Q .none, rt := fun d _ => Q d } (ev0 ["one", "other"] ds)) :
    Cal P w K mg base 1 "_law_less" ["one", "other"] (LF K sp__law_less) f fd :=
  ⟨fn_ok F sc__law_less hl (fun cdv A outer s H E B hr => der__law_less Zm  hr) hq, F.bindsN fun _ _ _ _ _ _ us hl => match us, hl with | [_, _], _ => rfl, F.kp, m⟩

/-! ### _law_root: ["number", "low", "high", "middle"] -/
theorem sc__law_root : FnScope ["number", "low", "high", "middle"] ["number"] (defScope s__law_root) := ⟨rfl, rfl, rfl, by decide +kernel, rfl, by decide +kernel, by decide +kernel⟩
def rd__law_root_w1c : VTB := (vB (vBin (d20 fun i j => .bool (decide (i ≤ j))) (vBin dMul (vVar 2) (vVar 2)) (vVar 0)))
def rd__law_root_w1b : VS := (vSet 2 (vBin dMul (vVar 2) (vC (.int 2))))

def rd__law_root_w2c : VTB := (vB (vBin (d20 fun i j => .bool (decide (j < i))) (vBin (d20 fun i j => .int (i - j)) (vVar 2) (vVar 1)) (vC (.int 1))))
def rd__law_root_w2b : VS := (vSeq (vSet 3 (vBin (d2 (fun _ j => divOk j) fun i j => .int (i.fdiv j)) (vBin dAdd (vVar 1) (vVar 2)) (vC (.int 2))))
  (vIfS (vB (vBin (d20 fun i j => .bool (decide (i ≤ j))) (vBin dMul (vVar 3) (vVar 3)) (vVar 0))) (vSet 1 (vVar 3)) (vSet 2 (vVar 3))))

def rd__law_root : VS := (vSeq (vAsg (vTup (vCons (vC (.int 0)) (vCons (vC (.int 1)) vNil))) (gT 2 (gsC (gN 1) (gsC (gN 2) gs0))))
  (vSeq (vWhile rd__law_root_w1c rd__law_root_w1b)
  (vSeq (vWhile rd__law_root_w2c rd__law_root_w2b)
  (vRet (vVar 1)))))
theorem der__law_root (Zm : ZZ K mg) {f : Addr} {cdv : Value} {A : Around} {outer : List Env} {s : Shared} {H : Hp} {E : XK} {B : Addr → Prop} (hr : Room 0 (A.deeper (envOfC "_law_root" (defScope s__law_root) s.heap.objs.size f cdv))) :
    VSs (cxOf CX0 P w K mg base ["number", "low", "high", "middle"] "_law_root" (defScope s__law_root) f cdv A outer s H E).nox ⟨B, none⟩ (defBody s__law_root) rd__law_root :=
  (vs_cons (vs_asg (vs := [1, 2]) (ve_tup (va_cons ve_int (va_cons ve_int va_nil))) (vg_tup (by rfl) (vgs_cons (vg_name 1 sc__law_root.nd rfl (by first | exact Or.inl rfl | exact Or.inr rfl) (Or.inl rfl) (by decide)) (vgs_cons (vg_name 2 sc__law_root.nd rfl (by first | exact Or.inl rfl | exact Or.inr rfl) (Or.inl rfl) (by decide)) vgs_nil))))
  (vs_cons (vs_while PassesOwn.never (vb_cmp (op_le) ov_B0 (nomark _) (ve_bin ov_mul (fun h1 h2 => pe_op (op_mulV.or op_repT) h1 h2) (ve_var 2) (ve_var 2)) (ve_var 0)) (vs_one (vs_set 2 sc__law_root.nd rfl (by first | exact Or.inl rfl | exact Or.inr rfl) (Or.inl rfl) (ve_bin ov_mul (fun h1 h2 => pe_op (op_mulV.or op_repT) h1 h2) (ve_var 2) ve_int))))
  (vs_cons (vs_while PassesOwn.never (vb_cmp (op_gt) ov_B0 (nomark _) (ve_bin ov_I0 (fun h1 h2 => pe_op (op_sub) h1 h2) (ve_var 2) (ve_var 1)) ve_int) (vs_cons (vs_set 3 sc__law_root.nd rfl (by first | exact Or.inl rfl | exact Or.inr rfl) (Or.inl rfl) (ve_bin ov_I (fun h1 h2 => pe_op (op_fdivV) h1 h2) (ve_bin ov_add (fun h1 h2 => pe_op (op_add.or (op_catA.or op_cat)) h1 h2) (ve_var 1) (ve_var 2)) ve_int))
  (vs_one (vs_if (vb_cmp (op_le) ov_B0 (nomark _) (ve_bin ov_mul (fun h1 h2 => pe_op (op_mulV.or op_repT) h1 h2) (ve_var 3) (ve_var 3)) (ve_var 0)) (vs_one (vs_set 1 sc__law_root.nd rfl (by first | exact Or.inl rfl | exact Or.inr rfl) (Or.inl rfl) (ve_var 3))) (vs_one (vs_set 2 sc__law_root.nd rfl (by first | exact Or.inl rfl | exact Or.inr rfl) (Or.inl rfl) (ve_var 3)))))))
  (vs_one (vs_ret (ve_var 1))))))
theorem ok__law_root {f : Addr} {fd : FuncData} (F : FnP K "_law_root" s__law_root f fd) (m : mg "_law_root" = some (.ref f)) (Zm : ZZ K mg)
    (hl : ∀ ds Q, sp__law_root ds Q → ds.length = 1) (hq : ∀ ds Q, sp__law_root ds Q → rd__law_root { nx := fun _ => Q .none, rt := fun d _ => Q d } (ev0 ["number", "low", "high", "middle"] ds)) :
    Cal P w K mg base 1 "_law_root" ["number"] (LF K sp__law_root) f fd :=
  ⟨fn_ok F sc__law_root hl (fun cdv A outer s H E B hr => der__law_root Zm  hr) hq, F.bindsN fun _ _ _ _ _ _ us hl => match us, hl with | [_], _ => rfl, F.kp, m⟩

/-! ### _law_value: ["terms", "above", "below", "term"] -/
theorem sc__law_value : FnScope ["terms", "above", "below", "term"] ["terms"] (defScope s__law_value) := ⟨rfl, rfl, rfl, by decide +kernel, rfl, by decide +kernel, by decide +kernel⟩
def rd__law_value_f1g : VG := (gN 3)
def rd__law_value_f1b : VS := (vPar 1 2 (vBin dAdd (vBin dMul (vVar 3) (vVar 1)) (vVar 2)) (vVar 1))

def rd__law_value : VS := (vSeq (vPar 1 2 (vBin dIx (vVar 0) (vUn dNeg (vC (.int 1)))) (vC (.int 1)))
  (vSeq (vForS (wT (vRevT (vSl (vVar 0) vP0 (vP1 (vUn dNeg (vC (.int 1))))))) rd__law_value_f1g rd__law_value_f1b)
  (vRet (vTup (vCons (vVar 1) (vCons (vVar 2) vNil))))))
theorem der__law_value (Zm : ZZ K mg) {f : Addr} {cdv : Value} {A : Around} {outer : List Env} {s : Shared} {H : Hp} {E : XK} {B : Addr → Prop} (hr : Room 0 (A.deeper (envOfC "_law_value" (defScope s__law_value) s.heap.objs.size f cdv))) :
    VSs (cxOf CX0 P w K mg base ["terms", "above", "below", "term"] "_law_value" (defScope s__law_value) f cdv A outer s H E).nox ⟨B, none⟩ (defBody s__law_value) rd__law_value :=
  (vs_cons (vs_par 1 2 (by rfl) sc__law_value.nd rfl rfl (by decide) (Or.inl rfl) rfl rfl (ve_bin ov_ix (fun h1 h2 => pe_ix (ix_list.or ix_tup) h1 h2 (fun _ _ => rfl)) (ve_var 0) (ve_un uv_neg (fun h => pe_un un_neg h) ve_int)) ve_int (by rfl))
  (vs_cons (vs_for (vs := [3]) PassesOwn.never (by rfl) (vw_tup (ve_revT (ve_slice (ve_var 0) vp_none (vp_some (ve_un uv_neg (fun h => pe_un un_neg h) ve_int))))) (vg_name 3 sc__law_value.nd rfl (by first | exact Or.inl rfl | exact Or.inr rfl) (Or.inl rfl) (by decide)) (vs_one (vs_par 1 2 (by rfl) sc__law_value.nd rfl rfl (by decide) (Or.inl rfl) rfl rfl (ve_bin ov_add (fun h1 h2 => pe_op (op_add.or (op_catA.or op_cat)) h1 h2) (ve_bin ov_mul (fun h1 h2 => pe_op (op_mulV.or op_repT) h1 h2) (ve_var 3) (ve_var 1)) (ve_var 2)) (ve_var 1) (by rfl))))
  (vs_one (vs_ret (ve_tup (va_cons (ve_var 1) (va_cons (ve_var 2) va_nil)))))))
theorem ok__law_value {f : Addr} {fd : FuncData} (F : FnP K "_law_value" s__law_value f fd) (m : mg "_law_value" = some (.ref f)) (Zm : ZZ K mg)
    (hl : ∀ ds Q, sp__law_value ds Q → ds.length = 1) (hq : ∀ ds Q, sp__law_value ds Q → rd__law_value { nx := fun _ => Q .none, rt := fun d _ => Q d } (ev0 ["terms", "above", "below", "term"] ds)) :
    Cal P w K mg base 1 "_law_value" ["terms"] (LF K sp__law_value) f fd :=
  ⟨fn_ok F sc__law_value hl (fun cdv A outer s H E B hr => der__law_value Zm  hr) hq, F.bindsN fun _ _ _ _ _ _ us hl => match us, hl with | [_], _ => rfl, F.kp, m⟩

/-! ### law: ["script", "box", "turn", "a", "b", "terms", "rows", "k", "most", "best", "below", "above", "key", "one", "n", "first", "period", "many", "whole", "x", "y", "sign", "value", "term"] -/
theorem sc_law : FnScope ["script", "box", "turn", "a", "b", "terms", "rows", "k", "most", "best", "below", "above", "key", "one", "n", "first", "period", "many", "whole", "x", "y", "sign", "value", "term"] ["script"] (defScope s_law) := ⟨rfl, rfl, rfl, by decide +kernel, rfl, by decide +kernel, by decide +kernel⟩
def rd_law_c2_g : VG := (gN 23)
def rd_law_c2_t : VTB := (vB (vBin (d20 fun i j => .bool (decide (i < j))) (vVar 23) (vC (.int 1))))
def rd_law_c2_e : VT := (vVar 23)

def rd_law_f3g : VG := (gN 7)
def rd_law_f3b : VS := (vIfS (vB (vBin dNe (vBin (d20 fun i j => .int (i - j)) (vBin dMul (vBin dIx (vBin dIx (vVar 6) (vVar 7)) (vC (.int 0))) (vBin dIx (vBin dIx (vVar 6) (vBin (d20 fun i j => .int (i - j)) (vVar 7) (vC (.int 1)))) (vC (.int 1)))) (vBin dMul (vBin dIx (vBin dIx (vVar 6) (vBin (d20 fun i j => .int (i - j)) (vVar 7) (vC (.int 1)))) (vC (.int 0))) (vBin dIx (vBin dIx (vVar 6) (vVar 7)) (vC (.int 1))))) (vIf (vB (vBin dEq (vBin (d2 (fun _ j => j ≠ 0) fun i j => .int (i.fmod j)) (vVar 7) (vC (.int 2))) (vC (.int 1)))) (vC (.int 1)) (vUn dNeg (vC (.int 1)))))) (vRet (vC (.bool false))) vNext)

def rd_law_k1_2 : VS := (vIfS (vOr (vB (vBin dIsN (vVar 9) (vC .none))) (vOr (vTru (vCall sp__law_less (vCons (vVar 12) (vCons (vBin dIx (vVar 9) (vC (.int 0))) vNil)))) (vAnd (vB (vBin dEq (vVar 12) (vBin dIx (vVar 9) (vC (.int 0))))) (vTru (vCall sp__law_less (vCons (vVar 13) (vCons (vBin dIx (vVar 9) (vC (.int 1))) vNil))))))) (vSet 9 (vTup (vCons (vVar 12) (vCons (vVar 13) vNil)))) vNext)

def rd_law_k1_1 : VS := (vSeq (vSet 13 (vCall sp__law_fraction (vCons (vVar 11) (vCons (vVar 10) vNil))))
  rd_law_k1_2)

def rd_law_f5g : VG := (gN 11)
def rd_law_f5b : VS := (vSeq (vSet 12 (vCall sp__law_fraction (vCons (vCall cAbs (vCons (vBin (d20 fun i j => .int (i - j)) (vBin dMul (vVar 11) (vVar 4)) (vBin dMul (vVar 3) (vVar 10))) vNil)) (vCons (vBin dMul (vVar 10) (vVar 4)) vNil))))
  rd_law_k1_1)

def rd_law_f4g : VG := (gN 10)
def rd_law_f4b : VS := (vForS (wL (vOf (vCons (vBin (d2 (fun _ j => divOk j) fun i j => .int (i.fdiv j)) (vBin dMul (vVar 3) (vVar 10)) (vVar 4)) (vCons (vBin dAdd (vBin (d2 (fun _ j => divOk j) fun i j => .int (i.fdiv j)) (vBin dMul (vVar 3) (vVar 10)) (vVar 4)) (vC (.int 1))) vNil)))) rd_law_f5g rd_law_f5b)

def rd_law_k2_9 : VS := (vIfS (vB (vBin dNe (vCall sp_nearest_below (vCons (vVar 3) (vCons (vVar 4) (vCons (vVar 8) vNil)))) (vBin dIx (vVar 9) (vC (.int 1))))) (vRet (vC (.bool false))) vNext)

def rd_law_k2_8 : VS := (vSeq (vForS (wR2 (vC (.int 1)) (vBin dAdd (vVar 8) (vC (.int 1)))) rd_law_f4g rd_law_f4b)
  rd_law_k2_9)

def rd_law_k2_7 : VS := (vSeq (vSet 9 (vC .none))
  rd_law_k2_8)

def rd_law_k2_6 : VS := (vSeq (vSet 8 (vBin dAdd (vC (.int 1)) (vCallIO 1 sp__law_draw (vCons (vC (.int 40)) vNil))))
  rd_law_k2_7)

def rd_law_k2_5 : VS := (vSeq (vForS (wR2 (vC (.int 1)) (vCall cLen (vCons (vVar 6) vNil))) rd_law_f3g rd_law_f3b)
  rd_law_k2_6)

def rd_law_k2_4 : VS := (vSeq (vIfS (vOr (vB (vBin dNe (vCall cLen (vCons (vVar 6) vNil)) (vCall cLen (vCons (vVar 5) vNil)))) (vB (vBin dNe (vBin dIx (vVar 6) (vUn dNeg (vC (.int 1)))) (vCall sp__law_fraction (vCons (vVar 3) (vCons (vVar 4) vNil)))))) (vRet (vC (.bool false))) vNext)
  rd_law_k2_5)

def rd_law_k2_3 : VS := (vSeq (vSet 6 (vCall sp_convergents (vCons (vVar 5) vNil)))
  rd_law_k2_4)

def rd_law_k2_2 : VS := (vSeq (vIfS (vOr (vB (vBin dNe (vCall sp__law_fraction (vCons (vVar 3) (vCons (vVar 4) vNil))) (vCall sp__law_fraction (vCons (vBin dIx (vCall sp__law_value (vCons (vVar 5) vNil)) (vC (.int 0))) (vCons (vBin dIx (vCall sp__law_value (vCons (vVar 5) vNil)) (vC (.int 1))) vNil))))) (vOr (vB (vBin dNe (vOf (vLc (wT (vSl (vVar 5) (vP1 (vC (.int 1))) vP0)) rd_law_c2_g rd_law_c2_t rd_law_c2_e [23])) (vOf vNil))) (vAnd (vB (vBin (d20 fun i j => .bool (decide (j < i))) (vCall cLen (vCons (vVar 5) vNil)) (vC (.int 1)))) (vB (vBin (d20 fun i j => .bool (decide (i < j))) (vBin dIx (vVar 5) (vUn dNeg (vC (.int 1)))) (vC (.int 2))))))) (vRet (vC (.bool false))) vNext)
  rd_law_k2_3)

def rd_law_k2_1 : VS := (vSeq (vSet 5 (vCall sp_fraction_terms (vCons (vVar 3) (vCons (vVar 4) vNil))))
  rd_law_k2_2)

def rd_law_f1g : VG := (gN 2)
def rd_law_f1b : VS := (vSeq (vPar 3 4 (vBin (d20 fun i j => .int (i - j)) (vCallIO 1 sp__law_draw (vCons (vC (.int 2001)) vNil)) (vC (.int 1000))) (vBin dAdd (vC (.int 1)) (vCallIO 1 sp__law_draw (vCons (vC (.int 400)) vNil))))
  rd_law_k2_1)

def rd_law_f6g : VG := (gT 2 (gsC (gN 19) (gsC (gN 20) gs0)))
def rd_law_f6b : VS := (vIfS (vB (vBin (d20 fun i j => .bool (decide (j < i))) (vCall cAbs (vCons (vBin (d20 fun i j => .int (i - j)) (vBin dMul (vVar 19) (vVar 19)) (vBin dMul (vBin dMul (vVar 14) (vVar 20)) (vVar 20))) vNil)) (vBin dAdd (vBin dMul (vC (.int 2)) (vVar 15)) (vC (.int 1))))) (vRet (vC (.bool false))) vNext)

def rd_law_k3_1 : VS := (vIfS (vB (vBin dEq (vBin dMul (vCall sp__law_root (vCons (vVar 22) vNil)) (vCall sp__law_root (vCons (vVar 22) vNil))) (vVar 22))) (vRet (vC (.bool false))) vNext)

def rd_law_f8g : VG := (gN 13)
def rd_law_f8b : VS := (vSeq (vSet 22 (vBin dAdd (vBin dMul (vBin dMul (vVar 14) (vVar 7)) (vVar 7)) (vVar 13)))
  rd_law_k3_1)

def rd_law_f7g : VG := (gN 7)
def rd_law_f7b : VS := (vForS (wL (vOf (vCons (vC (.int 1)) (vCons (vUn dNeg (vC (.int 1))) vNil)))) rd_law_f8g rd_law_f8b)

def rd_law_k4_14 : VS := (vRet (vBin dEq (vVar 21) (vIf (vB (vBin dEq (vBin (d2 (fun _ j => j ≠ 0) fun i j => .int (i.fmod j)) (vCall cLen (vCons (vVar 16) vNil)) (vC (.int 2))) (vC (.int 0)))) (vC (.int 1)) (vUn dNeg (vC (.int 1))))))

def rd_law_k4_13 : VS := (vSeq (vForS (wR2 (vC (.int 1)) (vCall cMin2 (vCons (vVar 20) (vCons (vC (.int 300)) vNil)))) rd_law_f7g rd_law_f7b)
  rd_law_k4_14)

def rd_law_k4_12 : VS := (vSeq (vIfS (vOr (vB (vBin (d20 fun i j => .bool (decide (i < j))) (vVar 19) (vC (.int 1)))) (vOr (vB (vBin (d20 fun i j => .bool (decide (i < j))) (vVar 20) (vC (.int 1)))) (vOr (vB (vBin (dInI true) (vVar 21) (vTup (vCons (vC (.int 1)) (vCons (vUn dNeg (vC (.int 1))) vNil))))) (vB (vBin dNe (vBin (d20 fun i j => .int (i - j)) (vBin dMul (vVar 19) (vVar 19)) (vBin dMul (vBin dMul (vVar 14) (vVar 20)) (vVar 20))) (vVar 21)))))) (vRet (vC (.bool false))) vNext)
  rd_law_k4_13)

def rd_law_k4_11 : VS := (vSeq (vAsg (vCall sp_least_unit (vCons (vVar 14) vNil)) (gT 3 (gsC (gN 19) (gsC (gN 20) (gsC (gN 21) gs0)))))
  rd_law_k4_12)

def rd_law_k4_10 : VS := (vSeq (vForS (wT (vVar 6)) rd_law_f6g rd_law_f6b)
  rd_law_k4_11)

def rd_law_k4_9 : VS := (vSeq (vIfS (vOr (vB (vBin dNe (vCall cLen (vCons (vVar 6) vNil)) (vVar 17))) (vAnd (vB (vBin (d20 fun i j => .bool (decide (i ≤ j))) (vVar 17) (vCall cLen (vCons (vVar 18) vNil)))) (vB (vBin dNe (vVar 6) (vCall sp_convergents (vCons (vSl (vVar 18) vP0 (vP1 (vVar 17))) vNil)))))) (vRet (vC (.bool false))) vNext)
  rd_law_k4_10)

def rd_law_k4_8 : VS := (vSeq (vSet 18 (vBin dAdd (vTup (vCons (vVar 15) vNil)) (vBin dMul (vVar 16) (vC (.int 4)))))
  rd_law_k4_9)

def rd_law_k4_7 : VS := (vSeq (vSet 6 (vCall sp_root_convergents (vCons (vVar 14) (vCons (vVar 17) vNil))))
  rd_law_k4_8)

def rd_law_k4_6 : VS := (vSeq (vSet 17 (vBin dAdd (vC (.int 1)) (vCallIO 1 sp__law_draw (vCons (vBin dAdd (vBin dMul (vC (.int 2)) (vCall cLen (vCons (vVar 16) vNil))) (vC (.int 3))) vNil))))
  rd_law_k4_7)

def rd_law_k4_5 : VS := (vSeq (vIfS (vOr (vB (vBin dNe (vVar 15) (vCall sp__law_root (vCons (vVar 14) vNil)))) (vOr (vB (vBin dNe (vBin dIx (vVar 16) (vUn dNeg (vC (.int 1)))) (vBin dMul (vC (.int 2)) (vVar 15)))) (vB (vBin dNe (vSl (vVar 16) vP0 (vP1 (vUn dNeg (vC (.int 1))))) (vRevT (vSl (vVar 16) vP0 (vP1 (vUn dNeg (vC (.int 1)))))))))) (vRet (vC (.bool false))) vNext)
  rd_law_k4_6)

def rd_law_k4_4 : VS := (vSeq (vAsg (vCall sp_root_terms (vCons (vVar 14) vNil)) (gT 2 (gsC (gN 15) (gsC (gN 16) gs0))))
  rd_law_k4_5)

def rd_law_k4_3 : VS := (vSeq (vIfS (vB (vBin dEq (vBin dMul (vCall sp__law_root (vCons (vVar 14) vNil)) (vCall sp__law_root (vCons (vVar 14) vNil))) (vVar 14))) (vRet (vEqS "number" (vReason (vxCall spx_root_terms (vCons (vVar 14) vNil))))) vNext)
  rd_law_k4_4)

def rd_law_k4_2 : VS := (vSeq (vSet 14 (vBin dAdd (vC (.int 2)) (vCallIO 1 sp__law_draw (vCons (vC (.int 300)) vNil))))
  rd_law_k4_3)

def rd_law_k4_1 : VS := (vSeq (vForS (wR1 (vC (.int 4))) rd_law_f1g rd_law_f1b)
  rd_law_k4_2)

def rd_law : VS := (vSeq (vSetO 1 (vCons (vCallSC 0 sp__law_digits (vCons (vC (.int 0)) (vCons (vC (.int 63)) vNil))) (vCons (vC (.int 0)) vNil)))
  rd_law_k4_1)
theorem der_law {d0 : VX.InitD} {cA Pt : Addr} (Zm : ZZ K mg) (Zr : Rsn P K mg base d0 s__law_reason cA Pt) {f__law_digits : Addr} {d__law_digits : FuncData} (C__law_digits : Cal P w K mg base 2 "_law_digits" ["script", "first", "last"] (LFsc K sp__law_digits) f__law_digits d__law_digits) {f__law_draw : Addr} {d__law_draw : FuncData} (C__law_draw : Cal P w K mg base 1 "_law_draw" ["box", "m"] (LFio K sp__law_draw) f__law_draw d__law_draw) {f_fraction_terms : Addr} {d_fraction_terms : FuncData} (C_fraction_terms : Cal P w K mg base 2 "fraction_terms" ["above", "below"] (LF K sp_fraction_terms) f_fraction_terms d_fraction_terms) {f__law_fraction : Addr} {d__law_fraction : FuncData} (C__law_fraction : Cal P w K mg base 2 "_law_fraction" ["above", "below"] (LF K sp__law_fraction) f__law_fraction d__law_fraction) {f__law_value : Addr} {d__law_value : FuncData} (C__law_value : Cal P w K mg base 1 "_law_value" ["terms"] (LF K sp__law_value) f__law_value d__law_value) {f_convergents : Addr} {d_convergents : FuncData} (C_convergents : Cal P w K mg base 1 "convergents" ["terms"] (LF K sp_convergents) f_convergents d_convergents) {f__law_less : Addr} {d__law_less : FuncData} (C__law_less : Cal P w K mg base 1 "_law_less" ["one", "other"] (LF K sp__law_less) f__law_less d__law_less) {f_nearest_below : Addr} {d_nearest_below : FuncData} (C_nearest_below : Cal P w K mg base 3 "nearest_below" ["above", "below", "most"] (LF K sp_nearest_below) f_nearest_below d_nearest_below) {f__law_root : Addr} {d__law_root : FuncData} (C__law_root : Cal P w K mg base 1 "_law_root" ["number"] (LF K sp__law_root) f__law_root d__law_root) {f_root_terms : Addr} {d_root_terms : FuncData} (C_root_terms : Cal P w K mg base 2 "root_terms" ["number"] (LF K sp_root_terms) f_root_terms d_root_terms) {f_root_convergents : Addr} {d_root_convergents : FuncData} (C_root_convergents : Cal P w K mg base 3 "root_convergents" ["number", "many"] (LF K sp_root_convergents) f_root_convergents d_root_convergents) {f_least_unit : Addr} {d_least_unit : FuncData} (C_least_unit : Cal P w K mg base 4 "least_unit" ["number"] (LF K sp_least_unit) f_least_unit d_least_unit) {fx_root_terms : Addr} {dx_root_terms : FuncData} (X_root_terms : CalX P w K mg base 2 "root_terms" ["number"] (LFx K (VX.C_ K) spx_root_terms) fx_root_terms dx_root_terms) {f : Addr} {A : Around} {outer : List Env} {s : Shared} {H : Hp} {E : XK} (hr : Room 4 (A.deeper (envOfC "law" (defScope s_law) s.heap.objs.size f (.ref cA)))) :
    PSs (cxOf CX0 P w K mg base ["script", "box", "turn", "a", "b", "terms", "rows", "k", "most", "best", "below", "above", "key", "one", "n", "first", "period", "many", "whole", "x", "y", "sign", "value", "term"] "law" (defScope s_law) f (.ref cA) A outer s H E).nox (defBody s_law) (LTS K ⟨fun b => b = Pt, none⟩ [(Pt, "law.<locals>.<lambda>")] rd_law) :=
  (psst_cons (pst_of (vs_setO 1 sc_law.nd rfl (by first | exact Or.inl rfl | exact Or.inr rfl) (Or.inl rfl) (vo_lst (va_cons (ve_callSC 0 C__law_digits.ok (hr.mono (by decide)) (by rfl) C__law_digits.m C__law_digits.kp C__law_digits.b (pv 0) (va_cons ve_int (va_cons ve_int va_nil))) (va_cons ve_int va_nil)))))
  (psst_cons (pst_of (vs_for (vs := [2]) PassesOwn.never (by rfl) (vw_rng1 (by rfl) Zm.z_range ve_int) (vg_name 2 sc_law.nd rfl (by first | exact Or.inl rfl | exact Or.inr rfl) (Or.inl rfl) (by decide)) (vs_cons (vs_par 3 4 (by rfl) sc_law.nd rfl rfl (by decide) (Or.inl rfl) rfl rfl (ve_bin ov_I0 (fun h1 h2 => pe_op (op_sub) h1 h2) (ve_callIO 1 C__law_draw.ok (hr.mono (by decide)) (by rfl) C__law_draw.m C__law_draw.kp C__law_draw.b (pv 1) (va_cons ve_int va_nil)) ve_int) (ve_bin ov_add (fun h1 h2 => pe_op (op_add.or (op_catA.or op_cat)) h1 h2) ve_int (ve_callIO 1 C__law_draw.ok (hr.mono (by decide)) (by rfl) C__law_draw.m C__law_draw.kp C__law_draw.b (pv 1) (va_cons ve_int va_nil))) (by rfl))
  (vs_cons (vs_set 5 sc_law.nd rfl (by first | exact Or.inl rfl | exact Or.inr rfl) (Or.inl rfl) (ve_call C_fraction_terms.ok (hr.mono (by decide)) (by rfl) C_fraction_terms.m C_fraction_terms.kp C_fraction_terms.b (va_cons (ve_var 3) (va_cons (ve_var 4) va_nil))))
  (vs_cons (vs_if (VW.vb (vw_or (vb_cmp (op_neD hr.units) ov_ne (nomark _) (ve_call C__law_fraction.ok (hr.mono (by decide)) (by rfl) C__law_fraction.m C__law_fraction.kp C__law_fraction.b (va_cons (ve_var 3) (va_cons (ve_var 4) va_nil))) (ve_call C__law_fraction.ok (hr.mono (by decide)) (by rfl) C__law_fraction.m C__law_fraction.kp C__law_fraction.b (va_cons (ve_bin ov_ix (fun h1 h2 => pe_ix (ix_list.or ix_tup) h1 h2 (fun _ _ => rfl)) (ve_call C__law_value.ok (hr.mono (by decide)) (by rfl) C__law_value.m C__law_value.kp C__law_value.b (va_cons (ve_var 5) va_nil)) ve_int) (va_cons (ve_bin ov_ix (fun h1 h2 => pe_ix (ix_list.or ix_tup) h1 h2 (fun _ _ => rfl)) (ve_call C__law_value.ok (hr.mono (by decide)) (by rfl) C__law_value.m C__law_value.kp C__law_value.b (va_cons (ve_var 5) va_nil)) ve_int) va_nil)))) (vw_or (vb_cmp (op_neD hr.units) ov_ne (nomark _) (VO.ve (vo_lc (own := [("term", 23)]) (by rfl) sc_law.nd (vw_tup (ve_slice (ve_var 5) (vp_some ve_int) vp_none)) (blkOk_by (own := [("term", 23)]) (by first | rfl | kernel_rfl)) (fun _ _ _ _ _ _ => (vg_name 23 sc_law.nd rfl (by first | exact Or.inl rfl | exact Or.inr rfl) (Or.inl rfl) (by decide))) (fun _ _ _ _ _ _ => (vbs_one (vb_cmp (op_lt) ov_B0 (nomark _) (ve_var 23) ve_int))) (fun _ _ _ _ _ _ => (ve_var 23)))) (VO.ve (vo_lst va_nil))) (vw_or1 (VW.vb (vw_and (vb_cmp (op_gt) ov_B0 (nomark _) (ve_callC cv_len (fun h => pe_callB call_len_seq (by rfl) Zm.z_len PySem.boot_len h) (VA.vt (va_cons (ve_var 5) va_nil))) ve_int) (vw_and1 (vb_cmp (op_lt) ov_B0 (nomark _) (ve_bin ov_ix (fun h1 h2 => pe_ix (ix_list.or ix_tup) h1 h2 (fun _ _ => rfl)) (ve_var 5) (ve_un uv_neg (fun h => pe_un un_neg h) ve_int)) ve_int)))))))) (vs_one (vs_ret ve_bl)) vs_nil)
  (vs_cons (vs_set 6 sc_law.nd rfl (by first | exact Or.inl rfl | exact Or.inr rfl) (Or.inl rfl) (ve_call C_convergents.ok (hr.mono (by decide)) (by rfl) C_convergents.m C_convergents.kp C_convergents.b (va_cons (ve_var 5) va_nil)))
  (vs_cons (vs_if (VW.vb (vw_or (vb_cmp (op_neD hr.units) ov_ne (nomark _) (ve_callC cv_len (fun h => pe_callB call_len_seq (by rfl) Zm.z_len PySem.boot_len h) (VA.vt (va_cons (ve_var 6) va_nil))) (ve_callC cv_len (fun h => pe_callB call_len_seq (by rfl) Zm.z_len PySem.boot_len h) (VA.vt (va_cons (ve_var 5) va_nil)))) (vw_or1 (vb_cmp (op_neD hr.units) ov_ne (nomark _) (ve_bin ov_ix (fun h1 h2 => pe_ix (ix_list.or ix_tup) h1 h2 (fun _ _ => rfl)) (ve_var 6) (ve_un uv_neg (fun h => pe_un un_neg h) ve_int)) (ve_call C__law_fraction.ok (hr.mono (by decide)) (by rfl) C__law_fraction.m C__law_fraction.kp C__law_fraction.b (va_cons (ve_var 3) (va_cons (ve_var 4) va_nil))))))) (vs_one (vs_ret ve_bl)) vs_nil)
  (vs_cons (vs_for (vs := [7]) PassesOwn.never (by rfl) (vw_rng2 (by rfl) Zm.z_range ve_int (ve_callC cv_len (fun h => pe_callB call_len_seq (by rfl) Zm.z_len PySem.boot_len h) (VA.vt (va_cons (ve_var 6) va_nil)))) (vg_name 7 sc_law.nd rfl (by first | exact Or.inl rfl | exact Or.inr rfl) (Or.inl rfl) (by decide)) (vs_one (vs_if (vb_cmp (op_neD hr.units) ov_ne (nomark _) (ve_bin ov_I0 (fun h1 h2 => pe_op (op_sub) h1 h2) (ve_bin ov_mul (fun h1 h2 => pe_op (op_mulV.or op_repT) h1 h2) (ve_bin ov_ix (fun h1 h2 => pe_ix (ix_list.or ix_tup) h1 h2 (fun _ _ => rfl)) (ve_bin ov_ix (fun h1 h2 => pe_ix (ix_list.or ix_tup) h1 h2 (fun _ _ => rfl)) (ve_var 6) (ve_var 7)) ve_int) (ve_bin ov_ix (fun h1 h2 => pe_ix (ix_list.or ix_tup) h1 h2 (fun _ _ => rfl)) (ve_bin ov_ix (fun h1 h2 => pe_ix (ix_list.or ix_tup) h1 h2 (fun _ _ => rfl)) (ve_var 6) (ve_bin ov_I0 (fun h1 h2 => pe_op (op_sub) h1 h2) (ve_var 7) ve_int)) ve_int)) (ve_bin ov_mul (fun h1 h2 => pe_op (op_mulV.or op_repT) h1 h2) (ve_bin ov_ix (fun h1 h2 => pe_ix (ix_list.or ix_tup) h1 h2 (fun _ _ => rfl)) (ve_bin ov_ix (fun h1 h2 => pe_ix (ix_list.or ix_tup) h1 h2 (fun _ _ => rfl)) (ve_var 6) (ve_bin ov_I0 (fun h1 h2 => pe_op (op_sub) h1 h2) (ve_var 7) ve_int)) ve_int) (ve_bin ov_ix (fun h1 h2 => pe_ix (ix_list.or ix_tup) h1 h2 (fun _ _ => rfl)) (ve_bin ov_ix (fun h1 h2 => pe_ix (ix_list.or ix_tup) h1 h2 (fun _ _ => rfl)) (ve_var 6) (ve_var 7)) ve_int))) (ve_if (vb_cmp (op_eqD hr.units) ov_eq (nomark _) (ve_bin ov_I (fun h1 h2 => pe_op (op_modV) h1 h2) (ve_var 7) ve_int) ve_int) ve_int (ve_un uv_neg (fun h => pe_un un_neg h) ve_int))) (vs_one (vs_ret ve_bl)) vs_nil)))
  (vs_cons (vs_set 8 sc_law.nd rfl (by first | exact Or.inl rfl | exact Or.inr rfl) (Or.inl rfl) (ve_bin ov_add (fun h1 h2 => pe_op (op_add.or (op_catA.or op_cat)) h1 h2) ve_int (ve_callIO 1 C__law_draw.ok (hr.mono (by decide)) (by rfl) C__law_draw.m C__law_draw.kp C__law_draw.b (pv 1) (va_cons ve_int va_nil))))
  (vs_cons (vs_set 9 sc_law.nd rfl (by first | exact Or.inl rfl | exact Or.inr rfl) (Or.inl rfl) ve_non)
  (vs_cons (vs_for (vs := [10]) PassesOwn.never (by rfl) (vw_rng2 (by rfl) Zm.z_range ve_int (ve_bin ov_add (fun h1 h2 => pe_op (op_add.or (op_catA.or op_cat)) h1 h2) (ve_var 8) ve_int)) (vg_name 10 sc_law.nd rfl (by first | exact Or.inl rfl | exact Or.inr rfl) (Or.inl rfl) (by decide)) (vs_one (vs_for (vs := [11]) PassesOwn.never (by rfl) (vw_list (VO.ve (vo_lst (va_cons (ve_bin ov_I (fun h1 h2 => pe_op (op_fdivV) h1 h2) (ve_bin ov_mul (fun h1 h2 => pe_op (op_mulV.or op_repT) h1 h2) (ve_var 3) (ve_var 10)) (ve_var 4)) (va_cons (ve_bin ov_add (fun h1 h2 => pe_op (op_add.or (op_catA.or op_cat)) h1 h2) (ve_bin ov_I (fun h1 h2 => pe_op (op_fdivV) h1 h2) (ve_bin ov_mul (fun h1 h2 => pe_op (op_mulV.or op_repT) h1 h2) (ve_var 3) (ve_var 10)) (ve_var 4)) ve_int) va_nil))))) (vg_name 11 sc_law.nd rfl (by first | exact Or.inl rfl | exact Or.inr rfl) (Or.inl rfl) (by decide)) (vs_cons (vs_set 12 sc_law.nd rfl (by first | exact Or.inl rfl | exact Or.inr rfl) (Or.inl rfl) (ve_call C__law_fraction.ok (hr.mono (by decide)) (by rfl) C__law_fraction.m C__law_fraction.kp C__law_fraction.b (va_cons (ve_callC cv_abs (fun h => pe_callB call_abs (by rfl) Zm.z_abs (by decide +kernel) h) (VA.vt (va_cons (ve_bin ov_I0 (fun h1 h2 => pe_op (op_sub) h1 h2) (ve_bin ov_mul (fun h1 h2 => pe_op (op_mulV.or op_repT) h1 h2) (ve_var 11) (ve_var 4)) (ve_bin ov_mul (fun h1 h2 => pe_op (op_mulV.or op_repT) h1 h2) (ve_var 3) (ve_var 10))) va_nil))) (va_cons (ve_bin ov_mul (fun h1 h2 => pe_op (op_mulV.or op_repT) h1 h2) (ve_var 10) (ve_var 4)) va_nil))))
  (vs_cons (vs_set 13 sc_law.nd rfl (by first | exact Or.inl rfl | exact Or.inr rfl) (Or.inl rfl) (ve_call C__law_fraction.ok (hr.mono (by decide)) (by rfl) C__law_fraction.m C__law_fraction.kp C__law_fraction.b (va_cons (ve_var 11) (va_cons (ve_var 10) va_nil))))
  (vs_one (vs_if (VW.vb (vw_or (vb_cmp (op_isN) ov_isN (nomark _) (ve_var 9) ve_non) (vw_or (vb_tru (ve_call C__law_less.ok (hr.mono (by decide)) (by rfl) C__law_less.m C__law_less.kp C__law_less.b (va_cons (ve_var 12) (va_cons (ve_bin ov_ix (fun h1 h2 => pe_ix (ix_list.or ix_tup) h1 h2 (fun _ _ => rfl)) (ve_var 9) ve_int) va_nil)))) (vw_or1 (VW.vb (vw_and (vb_cmp (op_eqD hr.units) ov_eq (nomark _) (ve_var 12) (ve_bin ov_ix (fun h1 h2 => pe_ix (ix_list.or ix_tup) h1 h2 (fun _ _ => rfl)) (ve_var 9) ve_int)) (vw_and1 (vb_tru (ve_call C__law_less.ok (hr.mono (by decide)) (by rfl) C__law_less.m C__law_less.kp C__law_less.b (va_cons (ve_var 13) (va_cons (ve_bin ov_ix (fun h1 h2 => pe_ix (ix_list.or ix_tup) h1 h2 (fun _ _ => rfl)) (ve_var 9) ve_int) va_nil))))))))))) (vs_one (vs_set 9 sc_law.nd rfl (by first | exact Or.inl rfl | exact Or.inr rfl) (Or.inl rfl) (ve_tup (va_cons (ve_var 12) (va_cons (ve_var 13) va_nil))))) vs_nil)))))))
  (vs_one (vs_if (vb_cmp (op_neD hr.units) ov_ne (nomark _) (ve_call C_nearest_below.ok (hr.mono (by decide)) (by rfl) C_nearest_below.m C_nearest_below.kp C_nearest_below.b (va_cons (ve_var 3) (va_cons (ve_var 4) (va_cons (ve_var 8) va_nil)))) (ve_bin ov_ix (fun h1 h2 => pe_ix (ix_list.or ix_tup) h1 h2 (fun _ _ => rfl)) (ve_var 9) ve_int)) (vs_one (vs_ret ve_bl)) vs_nil)))))))))))))
  (psst_cons (pst_of (vs_set 14 sc_law.nd rfl (by first | exact Or.inl rfl | exact Or.inr rfl) (Or.inl rfl) (ve_bin ov_add (fun h1 h2 => pe_op (op_add.or (op_catA.or op_cat)) h1 h2) ve_int (ve_callIO 1 C__law_draw.ok (hr.mono (by decide)) (by rfl) C__law_draw.m C__law_draw.kp C__law_draw.b (pv 1) (va_cons ve_int va_nil)))))
  (psst_cons (pst_if (ptt_of (vb_cmp (op_eqD hr.units) ov_eq (nomark _) (ve_bin ov_mul (fun h1 h2 => pe_op (op_mulV.or op_repT) h1 h2) (ve_call C__law_root.ok (hr.mono (by decide)) (by rfl) C__law_root.m C__law_root.kp C__law_root.b (va_cons (ve_var 14) va_nil)) (ve_call C__law_root.ok (hr.mono (by decide)) (by rfl) C__law_root.m C__law_root.kp C__law_root.b (va_cons (ve_var 14) va_nil))) (ve_var 14))) (psst_one (pst_ret (pet_eqS (pet_rsn (k := 2) Zr (by rfl) (fun _ h => h) (by rfl) (by rfl) (by rfl) (hr.mono (by decide)) (lamS_by (by first | rfl | kernel_rfl)) (by rfl) (fun _ _ _ _ _ => by rfl) (fun A outer s H E f c' hr => (pex_call X_root_terms.ok (takes_of rfl rfl rfl rfl) (hr.mono (by decide)) (by rfl) X_root_terms.m X_root_terms.kp X_root_terms.b (va_cons (ve_var 14) va_nil)))) (op_eqD hr.units)))) psst_nil)
  (psst_cons (pst_of (vs_asg (vs := [15, 16]) (ve_call C_root_terms.ok (hr.mono (by decide)) (by rfl) C_root_terms.m C_root_terms.kp C_root_terms.b (va_cons (ve_var 14) va_nil)) (vg_tup (by rfl) (vgs_cons (vg_name 15 sc_law.nd rfl (by first | exact Or.inl rfl | exact Or.inr rfl) (Or.inl rfl) (by decide)) (vgs_cons (vg_name 16 sc_law.nd rfl (by first | exact Or.inl rfl | exact Or.inr rfl) (Or.inl rfl) (by decide)) vgs_nil)))))
  (psst_cons (pst_of (vs_if (VW.vb (vw_or (vb_cmp (op_neD hr.units) ov_ne (nomark _) (ve_var 15) (ve_call C__law_root.ok (hr.mono (by decide)) (by rfl) C__law_root.m C__law_root.kp C__law_root.b (va_cons (ve_var 14) va_nil))) (vw_or (vb_cmp (op_neD hr.units) ov_ne (nomark _) (ve_bin ov_ix (fun h1 h2 => pe_ix (ix_list.or ix_tup) h1 h2 (fun _ _ => rfl)) (ve_var 16) (ve_un uv_neg (fun h => pe_un un_neg h) ve_int)) (ve_bin ov_mul (fun h1 h2 => pe_op (op_mulV.or op_repT) h1 h2) ve_int (ve_var 15))) (vw_or1 (vb_cmp (op_neD hr.units) ov_ne (nomark _) (ve_slice (ve_var 16) vp_none (vp_some (ve_un uv_neg (fun h => pe_un un_neg h) ve_int))) (ve_revT (ve_slice (ve_var 16) vp_none (vp_some (ve_un uv_neg (fun h => pe_un un_neg h) ve_int))))))))) (vs_one (vs_ret ve_bl)) vs_nil))
  (psst_cons (pst_of (vs_set 17 sc_law.nd rfl (by first | exact Or.inl rfl | exact Or.inr rfl) (Or.inl rfl) (ve_bin ov_add (fun h1 h2 => pe_op (op_add.or (op_catA.or op_cat)) h1 h2) ve_int (ve_callIO 1 C__law_draw.ok (hr.mono (by decide)) (by rfl) C__law_draw.m C__law_draw.kp C__law_draw.b (pv 1) (va_cons (ve_bin ov_add (fun h1 h2 => pe_op (op_add.or (op_catA.or op_cat)) h1 h2) (ve_bin ov_mul (fun h1 h2 => pe_op (op_mulV.or op_repT) h1 h2) ve_int (ve_callC cv_len (fun h => pe_callB call_len_seq (by rfl) Zm.z_len PySem.boot_len h) (VA.vt (va_cons (ve_var 16) va_nil)))) ve_int) va_nil)))))
  (psst_cons (pst_of (vs_set 6 sc_law.nd rfl (by first | exact Or.inl rfl | exact Or.inr rfl) (Or.inl rfl) (ve_call C_root_convergents.ok (hr.mono (by decide)) (by rfl) C_root_convergents.m C_root_convergents.kp C_root_convergents.b (va_cons (ve_var 14) (va_cons (ve_var 17) va_nil)))))
  (psst_cons (pst_of (vs_set 18 sc_law.nd rfl (by first | exact Or.inl rfl | exact Or.inr rfl) (Or.inl rfl) (ve_bin ov_add (fun h1 h2 => pe_op (op_add.or (op_catA.or op_cat)) h1 h2) (ve_tup (va_cons (ve_var 15) va_nil)) (ve_bin ov_mul (fun h1 h2 => pe_op (op_mulV.or op_repT) h1 h2) (ve_var 16) ve_int))))
  (psst_cons (pst_of (vs_if (VW.vb (vw_or (vb_cmp (op_neD hr.units) ov_ne (nomark _) (ve_callC cv_len (fun h => pe_callB call_len_seq (by rfl) Zm.z_len PySem.boot_len h) (VA.vt (va_cons (ve_var 6) va_nil))) (ve_var 17)) (vw_or1 (VW.vb (vw_and (vb_cmp (op_le) ov_B0 (nomark _) (ve_var 17) (ve_callC cv_len (fun h => pe_callB call_len_seq (by rfl) Zm.z_len PySem.boot_len h) (VA.vt (va_cons (ve_var 18) va_nil)))) (vw_and1 (vb_cmp (op_neD hr.units) ov_ne (nomark _) (ve_var 6) (ve_call C_convergents.ok (hr.mono (by decide)) (by rfl) C_convergents.m C_convergents.kp C_convergents.b (va_cons (ve_slice (ve_var 18) vp_none (vp_some (ve_var 17))) va_nil))))))))) (vs_one (vs_ret ve_bl)) vs_nil))
  (psst_cons (pst_of (vs_for (vs := [19, 20]) PassesOwn.never (by rfl) (vw_tup (ve_var 6)) (vg_tup (by rfl) (vgs_cons (vg_name 19 sc_law.nd rfl (by first | exact Or.inl rfl | exact Or.inr rfl) (Or.inl rfl) (by decide)) (vgs_cons (vg_name 20 sc_law.nd rfl (by first | exact Or.inl rfl | exact Or.inr rfl) (Or.inl rfl) (by decide)) vgs_nil))) (vs_one (vs_if (vb_cmp (op_gt) ov_B0 (nomark _) (ve_callC cv_abs (fun h => pe_callB call_abs (by rfl) Zm.z_abs (by decide +kernel) h) (VA.vt (va_cons (ve_bin ov_I0 (fun h1 h2 => pe_op (op_sub) h1 h2) (ve_bin ov_mul (fun h1 h2 => pe_op (op_mulV.or op_repT) h1 h2) (ve_var 19) (ve_var 19)) (ve_bin ov_mul (fun h1 h2 => pe_op (op_mulV.or op_repT) h1 h2) (ve_bin ov_mul (fun h1 h2 => pe_op (op_mulV.or op_repT) h1 h2) (ve_var 14) (ve_var 20)) (ve_var 20))) va_nil))) (ve_bin ov_add (fun h1 h2 => pe_op (op_add.or (op_catA.or op_cat)) h1 h2) (ve_bin ov_mul (fun h1 h2 => pe_op (op_mulV.or op_repT) h1 h2) ve_int (ve_var 15)) ve_int)) (vs_one (vs_ret ve_bl)) vs_nil))))
  (psst_cons (pst_of (vs_asg (vs := [19, 20, 21]) (ve_call C_least_unit.ok (hr.mono (by decide)) (by rfl) C_least_unit.m C_least_unit.kp C_least_unit.b (va_cons (ve_var 14) va_nil)) (vg_tup (by rfl) (vgs_cons (vg_name 19 sc_law.nd rfl (by first | exact Or.inl rfl | exact Or.inr rfl) (Or.inl rfl) (by decide)) (vgs_cons (vg_name 20 sc_law.nd rfl (by first | exact Or.inl rfl | exact Or.inr rfl) (Or.inl rfl) (by decide)) (vgs_cons (vg_name 21 sc_law.nd rfl (by first | exact Or.inl rfl | exact Or.inr rfl) (Or.inl rfl) (by decide)) vgs_nil))))))
  (psst_cons (pst_of (vs_if (VW.vb (vw_or (vb_cmp (op_lt) ov_B0 (nomark _) (ve_var 19) ve_int) (vw_or (vb_cmp (op_lt) ov_B0 (nomark _) (ve_var 20) ve_int) (vw_or (vb_cmp (op_notIn_seq.or (op_notInD hr.units65)) ov_notIn (by with_unfolding_all rfl) (ve_var 21) (ve_tup (va_cons ve_int (va_cons (ve_un uv_neg (fun h => pe_un un_neg h) ve_int) va_nil)))) (vw_or1 (vb_cmp (op_neD hr.units) ov_ne (nomark _) (ve_bin ov_I0 (fun h1 h2 => pe_op (op_sub) h1 h2) (ve_bin ov_mul (fun h1 h2 => pe_op (op_mulV.or op_repT) h1 h2) (ve_var 19) (ve_var 19)) (ve_bin ov_mul (fun h1 h2 => pe_op (op_mulV.or op_repT) h1 h2) (ve_bin ov_mul (fun h1 h2 => pe_op (op_mulV.or op_repT) h1 h2) (ve_var 14) (ve_var 20)) (ve_var 20))) (ve_var 21))))))) (vs_one (vs_ret ve_bl)) vs_nil))
  (psst_cons (pst_of (vs_for (vs := [7]) PassesOwn.never (by rfl) (vw_rng2 (by rfl) Zm.z_range ve_int (ve_callC cv_min2 (fun h => pe_callB (call_min2 rfl) (by rfl) Zm.z_min (by decide +kernel) h) (VA.vt (va_cons (ve_var 20) (va_cons ve_int va_nil))))) (vg_name 7 sc_law.nd rfl (by first | exact Or.inl rfl | exact Or.inr rfl) (Or.inl rfl) (by decide)) (vs_one (vs_for (vs := [13]) PassesOwn.never (by rfl) (vw_list (VO.ve (vo_lst (va_cons ve_int (va_cons (ve_un uv_neg (fun h => pe_un un_neg h) ve_int) va_nil))))) (vg_name 13 sc_law.nd rfl (by first | exact Or.inl rfl | exact Or.inr rfl) (Or.inl rfl) (by decide)) (vs_cons (vs_set 22 sc_law.nd rfl (by first | exact Or.inl rfl | exact Or.inr rfl) (Or.inl rfl) (ve_bin ov_add (fun h1 h2 => pe_op (op_add.or (op_catA.or op_cat)) h1 h2) (ve_bin ov_mul (fun h1 h2 => pe_op (op_mulV.or op_repT) h1 h2) (ve_bin ov_mul (fun h1 h2 => pe_op (op_mulV.or op_repT) h1 h2) (ve_var 14) (ve_var 7)) (ve_var 7)) (ve_var 13)))
  (vs_one (vs_if (vb_cmp (op_eqD hr.units) ov_eq (nomark _) (ve_bin ov_mul (fun h1 h2 => pe_op (op_mulV.or op_repT) h1 h2) (ve_call C__law_root.ok (hr.mono (by decide)) (by rfl) C__law_root.m C__law_root.kp C__law_root.b (va_cons (ve_var 22) va_nil)) (ve_call C__law_root.ok (hr.mono (by decide)) (by rfl) C__law_root.m C__law_root.kp C__law_root.b (va_cons (ve_var 22) va_nil))) (ve_var 22)) (vs_one (vs_ret ve_bl)) vs_nil)))))))
  (psst_one (pst_of (vs_ret (ve_bin ov_eq (fun h1 h2 => pe_cmpR (op_eqD hr.units) h1 h2 (nomark _)) (ve_var 21) (ve_if (vb_cmp (op_eqD hr.units) ov_eq (nomark _) (ve_bin ov_I (fun h1 h2 => pe_op (op_modV) h1 h2) (ve_callC cv_len (fun h => pe_callB call_len_seq (by rfl) Zm.z_len PySem.boot_len h) (VA.vt (va_cons (ve_var 16) va_nil))) ve_int) ve_int) ve_int (ve_un uv_neg (fun h => pe_un un_neg h) ve_int))))))))))))))))))))
theorem ok_law {d0 : VX.InitD} {f cA Pt : Addr} {fd : FuncData} (F : FnP K "law" s_law f fd) (hcA : ∀ oc od osl c, K.lookup f = some ⟨oc, od, .func fd, osl⟩ → fd.code = .ref c → c = cA) (Zm : ZZ K mg) (Zr : Rsn P K mg base d0 s__law_reason cA Pt) {f__law_digits : Addr} {d__law_digits : FuncData} (C__law_digits : Cal P w K mg base 2 "_law_digits" ["script", "first", "last"] (LFsc K sp__law_digits) f__law_digits d__law_digits) {f__law_draw : Addr} {d__law_draw : FuncData} (C__law_draw : Cal P w K mg base 1 "_law_draw" ["box", "m"] (LFio K sp__law_draw) f__law_draw d__law_draw) {f_fraction_terms : Addr} {d_fraction_terms : FuncData} (C_fraction_terms : Cal P w K mg base 2 "fraction_terms" ["above", "below"] (LF K sp_fraction_terms) f_fraction_terms d_fraction_terms) {f__law_fraction : Addr} {d__law_fraction : FuncData} (C__law_fraction : Cal P w K mg base 2 "_law_fraction" ["above", "below"] (LF K sp__law_fraction) f__law_fraction d__law_fraction) {f__law_value : Addr} {d__law_value : FuncData} (C__law_value : Cal P w K mg base 1 "_law_value" ["terms"] (LF K sp__law_value) f__law_value d__law_value) {f_convergents : Addr} {d_convergents : FuncData} (C_convergents : Cal P w K mg base 1 "convergents" ["terms"] (LF K sp_convergents) f_convergents d_convergents) {f__law_less : Addr} {d__law_less : FuncData} (C__law_less : Cal P w K mg base 1 "_law_less" ["one", "other"] (LF K sp__law_less) f__law_less d__law_less) {f_nearest_below : Addr} {d_nearest_below : FuncData} (C_nearest_below : Cal P w K mg base 3 "nearest_below" ["above", "below", "most"] (LF K sp_nearest_below) f_nearest_below d_nearest_below) {f__law_root : Addr} {d__law_root : FuncData} (C__law_root : Cal P w K mg base 1 "_law_root" ["number"] (LF K sp__law_root) f__law_root d__law_root) {f_root_terms : Addr} {d_root_terms : FuncData} (C_root_terms : Cal P w K mg base 2 "root_terms" ["number"] (LF K sp_root_terms) f_root_terms d_root_terms) {f_root_convergents : Addr} {d_root_convergents : FuncData} (C_root_convergents : Cal P w K mg base 3 "root_convergents" ["number", "many"] (LF K sp_root_convergents) f_root_convergents d_root_convergents) {f_least_unit : Addr} {d_least_unit : FuncData} (C_least_unit : Cal P w K mg base 4 "least_unit" ["number"] (LF K sp_least_unit) f_least_unit d_least_unit) {fx_root_terms : Addr} {dx_root_terms : FuncData} (X_root_terms : CalX P w K mg base 2 "root_terms" ["number"] (LFx K (VX.C_ K) spx_root_terms) fx_root_terms dx_root_terms)
    (hq : ∀ ns, rd_law { nx := fun _ => False, rt := fun d _ => d = .bool true } (evS ["script", "box", "turn", "a", "b", "terms", "rows", "k", "most", "best", "below", "above", "key", "one", "n", "first", "period", "many", "whole", "x", "y", "sign", "value", "term"] ns [])) : FnOk P w K mg base CX0 5 f fd ["script"] (spLaw K Pt) :=
  fn_okLaw F sc_law (fun c A outer s H E hc hr => by
    obtain ⟨oc, od, osl, h1, h2⟩ := hc
    obtain rfl := hcA _ _ _ c h1 h2
    exact der_law Zm Zr C__law_digits C__law_draw C_fraction_terms C__law_fraction C__law_value C_convergents C__law_less C_nearest_below C__law_root C_root_terms C_root_convergents C_least_unit X_root_terms hr) hq

def rdx_root_terms_w1c : VTB := (vB (vBin dNe (vVar 5) (vBin dMul (vC (.int 2)) (vVar 1))))
def rdx_root_terms_w1b : VS := (vSeq (vSet 3 (vBin (d20 fun i j => .int (i - j)) (vBin dMul (vVar 5) (vVar 4)) (vVar 3)))
  (vSeq (vSet 4 (vBin (d2 (fun _ j => divOk j) fun i j => .int (i.fdiv j)) (vBin (d20 fun i j => .int (i - j)) (vVar 0) (vBin dMul (vVar 3) (vVar 3))) (vVar 4)))
  (vSeq (vSet 5 (vBin (d2 (fun _ j => divOk j) fun i j => .int (i.fdiv j)) (vBin dAdd (vVar 1) (vVar 3)) (vVar 4)))
  (vAppend 2 (vVar 5)))))

def rdx_root_terms : VSX := (vxSeq (fun _ => (vSet 1 (vIf (vB (vBin (d20 fun i j => .bool (decide (j < i))) (vVar 0) (vC (.int 0)))) (vCall sp_root (vCons (vVar 0) vNil)) (vC (.int 0)))))
  (vxSeq (vxIf (vOr (vB (vBin (d20 fun i j => .bool (decide (i < j))) (vVar 0) (vC (.int 2)))) (vB (vBin dEq (vBin dMul (vVar 1) (vVar 1)) (vVar 0)))) (vxRaise "number") (fun _ => vNext))
  (vxSeq (fun _ => (vSetO 2 vNil))
  (vxSeq (fun _ => (vPar3 3 4 5 (vC (.int 0)) (vC (.int 1)) (vVar 1)))
  (vxSeq (fun _ => (vWhile rdx_root_terms_w1c rdx_root_terms_w1b))
  (fun _ => (vRet (vTup (vCons (vVar 1) (vCons (vCall cTup (vLookA 2)) vNil))))))))))
theorem derx_root_terms {d0 : VX.InitD} (Zm : ZZ K mg) (Bd : Bad P K mg d0) {f_root : Addr} {d_root : FuncData} (C_root : Cal P w K mg base 1 "root" ["number"] (LF K sp_root) f_root d_root) {f : Addr} {cdv : Value} {A : Around} {outer : List Env} {s : Shared} {H : Hp} {E : XK} {B : Addr → Prop} (hr : Room 1 (A.deeper (envOfC "root_terms" (defScope s_root_terms) s.heap.objs.size f cdv))) :
    PSs (cxOf (L2.CX P w) P w K mg base ["number", "whole", "found", "shift", "below", "term"] "root_terms" (defScope s_root_terms) f cdv A outer s H E) (defBody s_root_terms) (LSx K ⟨B, none⟩ (VX.C_ K) E rdx_root_terms) :=
  (pssx_cons (psx_of (vs_set 1 sc_root_terms.nd rfl (by first | exact Or.inl rfl | exact Or.inr rfl) (Or.inl rfl) (ve_if (vb_cmp (op_gt) ov_B0 (nomark _) (ve_var 0) ve_int) (ve_call C_root.ok (hr.mono (by decide)) (by rfl) C_root.m C_root.kp C_root.b (va_cons (ve_var 0) va_nil)) ve_int)))
  (pssx_cons (psx_if (VW.vb (vw_or (vb_cmp (op_lt) ov_B0 (nomark _) (ve_var 0) ve_int) (vw_or1 (vb_cmp (op_eqD hr.units) ov_eq (nomark _) (ve_bin ov_mul (fun h1 h2 => pe_op (op_mulV.or op_repT) h1 h2) (ve_var 1) (ve_var 1)) (ve_var 0))))) (pssx_one (psx_raise (k := 0) (by rfl) (takes_of rfl rfl rfl rfl) Bd.S Bd.D (hr.mono (by decide)) (by rfl) Bd.m)) (pssx_of vs_nil))
  (pssx_cons (psx_of (vs_setO 2 sc_root_terms.nd rfl (by first | exact Or.inl rfl | exact Or.inr rfl) (Or.inl rfl) (vo_lst va_nil)))
  (pssx_cons (psx_of (vs_par3 3 4 5 (by rfl) sc_root_terms.nd rfl rfl rfl (by decide) (by decide) (by decide) (Or.inl rfl) rfl rfl rfl ve_int ve_int (ve_var 1) (by rfl)))
  (pssx_cons (psx_of (vs_while (passes_of rfl) (vb_cmp (op_neD hr.units) ov_ne (nomark _) (ve_var 5) (ve_bin ov_mul (fun h1 h2 => pe_op (op_mulV.or op_repT) h1 h2) ve_int (ve_var 1))) (vs_cons (vs_set 3 sc_root_terms.nd rfl (by first | exact Or.inl rfl | exact Or.inr rfl) (Or.inl rfl) (ve_bin ov_I0 (fun h1 h2 => pe_op (op_sub) h1 h2) (ve_bin ov_mul (fun h1 h2 => pe_op (op_mulV.or op_repT) h1 h2) (ve_var 5) (ve_var 4)) (ve_var 3)))
  (vs_cons (vs_set 4 sc_root_terms.nd rfl (by first | exact Or.inl rfl | exact Or.inr rfl) (Or.inl rfl) (ve_bin ov_I (fun h1 h2 => pe_op (op_fdivV) h1 h2) (ve_bin ov_I0 (fun h1 h2 => pe_op (op_sub) h1 h2) (ve_var 0) (ve_bin ov_mul (fun h1 h2 => pe_op (op_mulV.or op_repT) h1 h2) (ve_var 3) (ve_var 3))) (ve_var 4)))
  (vs_cons (vs_set 5 sc_root_terms.nd rfl (by first | exact Or.inl rfl | exact Or.inr rfl) (Or.inl rfl) (ve_bin ov_I (fun h1 h2 => pe_op (op_fdivV) h1 h2) (ve_bin ov_add (fun h1 h2 => pe_op (op_add.or (op_catA.or op_cat)) h1 h2) (ve_var 1) (ve_var 3)) (ve_var 4)))
  (vs_one (vs_append 2 (pv 2) (ve_var 5) (fun h => mk_append (pv 2) (he := h)))))))))
  (pssx_one (psx_of (vs_ret (ve_tup (va_cons (ve_var 1) (va_cons (ve_callC cv_tup (fun h => pe_callTy call_tuple_of (by rfl) Zm.z_tuple (by decide +kernel) h) (vt_lookP 2 (pv 2))) va_nil)))))))))))
theorem okx_root_terms {d0 : VX.InitD} {f : Addr} {fd : FuncData} (F : FnP K "root_terms" s_root_terms f fd) (m : mg "root_terms" = some (.ref f)) (Zm : ZZ K mg) (Bd : Bad P K mg d0) {f_root : Addr} {d_root : FuncData} (C_root : Cal P w K mg base 1 "root" ["number"] (LF K sp_root) f_root d_root)
    (hl : ∀ ds Q Rv, spx_root_terms ds Q Rv → ds.length = 1) (hq : ∀ ds Q Rv, spx_root_terms ds Q Rv → rdx_root_terms Rv { nx := fun _ => Q .none, rt := fun d _ => Q d } (ev0 ["number", "whole", "found", "shift", "below", "term"] ds)) :
    CalX P w K mg base 2 "root_terms" ["number"] (LFx K (VX.C_ K) spx_root_terms) f fd :=
  ⟨fn_okX F sc_root_terms hl (fun cdv A outer s H E B hr => derx_root_terms Zm Bd C_root hr) hq, F.bindsN fun _ _ _ _ _ _ us hl => match us, hl with | [_], _ => rfl, F.kp, m⟩

end
end VL

set_option Elab.async false
set_option linter.all false
set_option maxRecDepth 100000
set_option maxHeartbeats 4000000
namespace VL
open PySem PySem.Spec PyProof.Rows L2 HD
/-! ### loops -/
theorem vFor_nil {g : VG} {b : VS} {Z : VEnds} {ev : Ev} : vFor g b Z [] ev = Z.nx ev := rfl
theorem vFor_cons {g : VG} {b : VS} {Z : VEnds} {x : D} {xs : List D} {ev : Ev} : vFor g b Z (x :: xs) ev = g x ev fun e1 => b { nx := vFor g b Z xs, rt := Z.rt, bk := Z.nx, ct := vFor g b Z xs } e1 := rfl
theorem wit_succ {c : VTB} {b : VS} {D : VEnds} {n : Nat} {ev : Ev} : wit c b D (n + 1) ev = c ev fun t e1 => match t with
    | true => b { nx := wit c b D n, rt := D.rt, bk := D.nx, ct := wit c b D n } e1
    | false => D.nx e1 := rfl
theorem mul_small {i j : Int} (h : -18446744073709551616 < j ∧ j < 18446744073709551616) : mulOk i j := .inr (.inl h)
theorem mul_smallL {i j : Int} (h : -18446744073709551616 < i ∧ i < 18446744073709551616) : mulOk i j := .inl h
theorem div_small {j : Int} (h0 : j ≠ 0) (h : -18446744073709551616 < j ∧ j < 18446744073709551616) : divOk j := ⟨h0, .inl h⟩
theorem fdiv_pos {a b : Int} (h : 0 ≤ b) : a.fdiv b = a / b := Int.fdiv_eq_ediv_of_nonneg a h
theorem fmod_pos {a b : Int} (h : 0 ≤ b) : a.fmod b = a % b := Int.fmod_eq_emod_of_nonneg a h
/-! ### divisor, _law_gcd -/
theorem gcd_step (x y : Nat) (h : 0 < y) : Nat.gcd x y = Nat.gcd y (x % y) := by
  rw [Nat.gcd_comm, Nat.gcd_rec, Nat.gcd_comm]
theorem wit_divisor (D : VEnds) : ∀ (n y x : Nat), y < n → D.nx [.fr (.int (Nat.gcd x y)), .fr (.int 0)] → wit rd_divisor_w1c rd_divisor_w1b D n [.fr (.int x), .fr (.int y)] := by
  intro n
  induction n with
  | zero => intro y x h; omega
  | succ n ih =>
    intro y x h hD
    rw [wit_succ]
    by_cases hy : y = 0
    · subst hy
      simp only [↓rd_divisor_w1c, ↓vSeq, ↓vPar, ↓vPar3, ↓vSet, ↓vSetO, ↓vAsg, ↓vAug, ↓vAppend, ↓vExt, ↓vUnp, ↓vFz, ↓vRet, ↓vRetN, ↓vDrop, ↓vIfS, ↓vNext, ↓vBrk, ↓vCnt, ↓vNever, ↓vForS, ↓vC, ↓vVar, ↓vTup, ↓vOf, ↓vBin, ↓vBinL, ↓vBinR, ↓vUn, ↓vCall, ↓vCallO, ↓vCallIO, ↓vCallSC, ↓vLookA, ↓vB, ↓vTru, ↓vTruO, ↓vAnd, ↓vOr, ↓vNot, ↓vAndV, ↓vOrV, ↓vNotV, ↓vIf, ↓vChain, ↓vNil, ↓vCons, ↓vSl, ↓vSlL, ↓vP0, ↓vP1, ↓vRevT, ↓vRevL, ↓vRevLL, ↓vBits, ↓vPop, ↓vLc, ↓vTurn, ↓vYes, ↓gN, ↓gT, ↓gsC, ↓gs0, ↓gSet, ↓wL, ↓wT, ↓wR1, ↓wR2, ↓d2, ↓d20, ↓dAdd, ↓dMul, ↓dEq, ↓dNe, ↓dIsN, ↓dNotN, ↓isN, ↓dNeg, ↓dIx, ↓dInI, ↓dSl, ↓truD, ↓cLen, ↓cAbs, ↓cMax2, ↓cMin2, ↓cInt, ↓cTup, ↓cLst, ↓sv, ↓List.getD_cons_zero, ↓List.getD_cons_succ, ↓List.set_cons_zero, ↓List.set_cons_succ, ↓vxSeq, ↓vxIf, ↓vxRaise, ↓vxRet, ↓vxAsg, ↓vxCall, ↓vReason, ↓vEqS]
      simpa using hD
    · have h0 : (y : Int) ≠ 0 := by omega
      have h2 : ((y : Int) != 0) = true := by simp; omega
      simp only [↓rd_divisor_w1c, ↓rd_divisor_w1b, ↓vSeq, ↓vPar, ↓vPar3, ↓vSet, ↓vSetO, ↓vAsg, ↓vAug, ↓vAppend, ↓vExt, ↓vUnp, ↓vFz, ↓vRet, ↓vRetN, ↓vDrop, ↓vIfS, ↓vNext, ↓vBrk, ↓vCnt, ↓vNever, ↓vForS, ↓vC, ↓vVar, ↓vTup, ↓vOf, ↓vBin, ↓vBinL, ↓vBinR, ↓vUn, ↓vCall, ↓vCallO, ↓vCallIO, ↓vCallSC, ↓vLookA, ↓vB, ↓vTru, ↓vTruO, ↓vAnd, ↓vOr, ↓vNot, ↓vAndV, ↓vOrV, ↓vNotV, ↓vIf, ↓vChain, ↓vNil, ↓vCons, ↓vSl, ↓vSlL, ↓vP0, ↓vP1, ↓vRevT, ↓vRevL, ↓vRevLL, ↓vBits, ↓vPop, ↓vLc, ↓vTurn, ↓vYes, ↓gN, ↓gT, ↓gsC, ↓gs0, ↓gSet, ↓wL, ↓wT, ↓wR1, ↓wR2, ↓d2, ↓d20, ↓dAdd, ↓dMul, ↓dEq, ↓dNe, ↓dIsN, ↓dNotN, ↓isN, ↓dNeg, ↓dIx, ↓dInI, ↓dSl, ↓truD, ↓cLen, ↓cAbs, ↓cMax2, ↓cMin2, ↓cInt, ↓cTup, ↓cLst, ↓sv, ↓List.getD_cons_zero, ↓List.getD_cons_succ, ↓List.set_cons_zero, ↓List.set_cons_succ, ↓vxSeq, ↓vxIf, ↓vxRaise, ↓vxRet, ↓vxAsg, ↓vxCall, ↓vReason, ↓vEqS, h0, h2, ne_eq, not_false_eq_true, true_and]
      have e : (x : Int).fmod y = ((x % y : Nat) : Int) := by rw [fmod_pos (by omega)]; omega
      rw [e]
      exact ih (x % y) y (by have := Nat.mod_lt x (Nat.pos_of_ne_zero hy); omega) (by rw [← gcd_step x y (Nat.pos_of_ne_zero hy)]; exact hD)
theorem abs_if (a : Int) : (if a < 0 then -a else a) = (a.natAbs : Int) := by split <;> omega
theorem hq_divisor (ds : List D) (Q : D → Prop) (h : sp_divisor ds Q) : rd_divisor { nx := fun _ => Q .none, rt := fun d _ => Q d } (ev0 ["one", "other"] ds) := by
  obtain ⟨a, b, rfl, h⟩ := h
  show rd_divisor _ [.fr (.int a), .fr (.int b)]
  simp only [↓rd_divisor, ↓vSeq, ↓vPar, ↓vPar3, ↓vSet, ↓vSetO, ↓vAsg, ↓vAug, ↓vAppend, ↓vExt, ↓vUnp, ↓vFz, ↓vRet, ↓vRetN, ↓vDrop, ↓vIfS, ↓vNext, ↓vBrk, ↓vCnt, ↓vNever, ↓vForS, ↓vC, ↓vVar, ↓vTup, ↓vOf, ↓vBin, ↓vBinL, ↓vBinR, ↓vUn, ↓vCall, ↓vCallO, ↓vCallIO, ↓vCallSC, ↓vLookA, ↓vB, ↓vTru, ↓vTruO, ↓vAnd, ↓vOr, ↓vNot, ↓vAndV, ↓vOrV, ↓vNotV, ↓vIf, ↓vChain, ↓vNil, ↓vCons, ↓vSl, ↓vSlL, ↓vP0, ↓vP1, ↓vRevT, ↓vRevL, ↓vRevLL, ↓vBits, ↓vPop, ↓vLc, ↓vTurn, ↓vYes, ↓gN, ↓gT, ↓gsC, ↓gs0, ↓gSet, ↓wL, ↓wT, ↓wR1, ↓wR2, ↓d2, ↓d20, ↓dAdd, ↓dMul, ↓dEq, ↓dNe, ↓dIsN, ↓dNotN, ↓isN, ↓dNeg, ↓dIx, ↓dInI, ↓dSl, ↓truD, ↓cLen, ↓cAbs, ↓cMax2, ↓cMin2, ↓cInt, ↓cTup, ↓cLst, ↓sv, ↓List.getD_cons_zero, ↓List.getD_cons_succ, ↓List.set_cons_zero, ↓List.set_cons_succ, ↓vxSeq, ↓vxIf, ↓vxRaise, ↓vxRet, ↓vxAsg, ↓vxCall, ↓vReason, ↓vEqS, abs_if, vWhile]
  exact ⟨_, wit_divisor _ (b.natAbs + 1) b.natAbs a.natAbs (by omega) (by simp only [↓vSeq, ↓vPar, ↓vPar3, ↓vSet, ↓vSetO, ↓vAsg, ↓vAug, ↓vAppend, ↓vExt, ↓vUnp, ↓vFz, ↓vRet, ↓vRetN, ↓vDrop, ↓vIfS, ↓vNext, ↓vBrk, ↓vCnt, ↓vNever, ↓vForS, ↓vC, ↓vVar, ↓vTup, ↓vOf, ↓vBin, ↓vBinL, ↓vBinR, ↓vUn, ↓vCall, ↓vCallO, ↓vCallIO, ↓vCallSC, ↓vLookA, ↓vB, ↓vTru, ↓vTruO, ↓vAnd, ↓vOr, ↓vNot, ↓vAndV, ↓vOrV, ↓vNotV, ↓vIf, ↓vChain, ↓vNil, ↓vCons, ↓vSl, ↓vSlL, ↓vP0, ↓vP1, ↓vRevT, ↓vRevL, ↓vRevLL, ↓vBits, ↓vPop, ↓vLc, ↓vTurn, ↓vYes, ↓gN, ↓gT, ↓gsC, ↓gs0, ↓gSet, ↓wL, ↓wT, ↓wR1, ↓wR2, ↓d2, ↓d20, ↓dAdd, ↓dMul, ↓dEq, ↓dNe, ↓dIsN, ↓dNotN, ↓isN, ↓dNeg, ↓dIx, ↓dInI, ↓dSl, ↓truD, ↓cLen, ↓cAbs, ↓cMax2, ↓cMin2, ↓cInt, ↓cTup, ↓cLst, ↓sv, ↓List.getD_cons_zero, ↓List.getD_cons_succ, ↓List.set_cons_zero, ↓List.set_cons_succ, ↓vxSeq, ↓vxIf, ↓vxRaise, ↓vxRet, ↓vxAsg, ↓vxCall, ↓vReason, ↓vEqS]; exact h)⟩
theorem wit_gcd (D : VEnds) : ∀ (n y x : Nat), y < n → D.nx [.fr (.int (Nat.gcd x y)), .fr (.int 0)] → wit rd__law_gcd_w1c rd__law_gcd_w1b D n [.fr (.int x), .fr (.int y)] := by
  intro n
  induction n with
  | zero => intro y x h; omega
  | succ n ih =>
    intro y x h hD
    rw [wit_succ]
    by_cases hy : y = 0
    · subst hy
      simp only [↓rd__law_gcd_w1c, ↓vSeq, ↓vPar, ↓vPar3, ↓vSet, ↓vSetO, ↓vAsg, ↓vAug, ↓vAppend, ↓vExt, ↓vUnp, ↓vFz, ↓vRet, ↓vRetN, ↓vDrop, ↓vIfS, ↓vNext, ↓vBrk, ↓vCnt, ↓vNever, ↓vForS, ↓vC, ↓vVar, ↓vTup, ↓vOf, ↓vBin, ↓vBinL, ↓vBinR, ↓vUn, ↓vCall, ↓vCallO, ↓vCallIO, ↓vCallSC, ↓vLookA, ↓vB, ↓vTru, ↓vTruO, ↓vAnd, ↓vOr, ↓vNot, ↓vAndV, ↓vOrV, ↓vNotV, ↓vIf, ↓vChain, ↓vNil, ↓vCons, ↓vSl, ↓vSlL, ↓vP0, ↓vP1, ↓vRevT, ↓vRevL, ↓vRevLL, ↓vBits, ↓vPop, ↓vLc, ↓vTurn, ↓vYes, ↓gN, ↓gT, ↓gsC, ↓gs0, ↓gSet, ↓wL, ↓wT, ↓wR1, ↓wR2, ↓d2, ↓d20, ↓dAdd, ↓dMul, ↓dEq, ↓dNe, ↓dIsN, ↓dNotN, ↓isN, ↓dNeg, ↓dIx, ↓dInI, ↓dSl, ↓truD, ↓cLen, ↓cAbs, ↓cMax2, ↓cMin2, ↓cInt, ↓cTup, ↓cLst, ↓sv, ↓List.getD_cons_zero, ↓List.getD_cons_succ, ↓List.set_cons_zero, ↓List.set_cons_succ, ↓vxSeq, ↓vxIf, ↓vxRaise, ↓vxRet, ↓vxAsg, ↓vxCall, ↓vReason, ↓vEqS]
      simpa using hD
    · have h0 : (0 : Int) < (y : Int) := by omega
      have h1 : (y : Int) ≠ 0 := by omega
      simp only [↓rd__law_gcd_w1c, ↓rd__law_gcd_w1b, ↓vSeq, ↓vPar, ↓vPar3, ↓vSet, ↓vSetO, ↓vAsg, ↓vAug, ↓vAppend, ↓vExt, ↓vUnp, ↓vFz, ↓vRet, ↓vRetN, ↓vDrop, ↓vIfS, ↓vNext, ↓vBrk, ↓vCnt, ↓vNever, ↓vForS, ↓vC, ↓vVar, ↓vTup, ↓vOf, ↓vBin, ↓vBinL, ↓vBinR, ↓vUn, ↓vCall, ↓vCallO, ↓vCallIO, ↓vCallSC, ↓vLookA, ↓vB, ↓vTru, ↓vTruO, ↓vAnd, ↓vOr, ↓vNot, ↓vAndV, ↓vOrV, ↓vNotV, ↓vIf, ↓vChain, ↓vNil, ↓vCons, ↓vSl, ↓vSlL, ↓vP0, ↓vP1, ↓vRevT, ↓vRevL, ↓vRevLL, ↓vBits, ↓vPop, ↓vLc, ↓vTurn, ↓vYes, ↓gN, ↓gT, ↓gsC, ↓gs0, ↓gSet, ↓wL, ↓wT, ↓wR1, ↓wR2, ↓d2, ↓d20, ↓dAdd, ↓dMul, ↓dEq, ↓dNe, ↓dIsN, ↓dNotN, ↓isN, ↓dNeg, ↓dIx, ↓dInI, ↓dSl, ↓truD, ↓cLen, ↓cAbs, ↓cMax2, ↓cMin2, ↓cInt, ↓cTup, ↓cLst, ↓sv, ↓List.getD_cons_zero, ↓List.getD_cons_succ, ↓List.set_cons_zero, ↓List.set_cons_succ, ↓vxSeq, ↓vxIf, ↓vxRaise, ↓vxRet, ↓vxAsg, ↓vxCall, ↓vReason, ↓vEqS, h0, h1, decide_true, ne_eq, not_false_eq_true, true_and]
      have e : (x : Int).fmod y = ((x % y : Nat) : Int) := by rw [fmod_pos (by omega)]; omega
      rw [e]
      exact ih (x % y) y (by have := Nat.mod_lt x (Nat.pos_of_ne_zero hy); omega) (by rw [← gcd_step x y (Nat.pos_of_ne_zero hy)]; exact hD)
theorem hq__law_gcd (ds : List D) (Q : D → Prop) (h : sp__law_gcd ds Q) : rd__law_gcd { nx := fun _ => Q .none, rt := fun d _ => Q d } (ev0 ["one", "other"] ds) := by
  obtain ⟨a, b, rfl, h⟩ := h
  show rd__law_gcd _ [.fr (.int a), .fr (.int b)]
  simp only [↓rd__law_gcd, ↓vSeq, ↓vPar, ↓vPar3, ↓vSet, ↓vSetO, ↓vAsg, ↓vAug, ↓vAppend, ↓vExt, ↓vUnp, ↓vFz, ↓vRet, ↓vRetN, ↓vDrop, ↓vIfS, ↓vNext, ↓vBrk, ↓vCnt, ↓vNever, ↓vForS, ↓vC, ↓vVar, ↓vTup, ↓vOf, ↓vBin, ↓vBinL, ↓vBinR, ↓vUn, ↓vCall, ↓vCallO, ↓vCallIO, ↓vCallSC, ↓vLookA, ↓vB, ↓vTru, ↓vTruO, ↓vAnd, ↓vOr, ↓vNot, ↓vAndV, ↓vOrV, ↓vNotV, ↓vIf, ↓vChain, ↓vNil, ↓vCons, ↓vSl, ↓vSlL, ↓vP0, ↓vP1, ↓vRevT, ↓vRevL, ↓vRevLL, ↓vBits, ↓vPop, ↓vLc, ↓vTurn, ↓vYes, ↓gN, ↓gT, ↓gsC, ↓gs0, ↓gSet, ↓wL, ↓wT, ↓wR1, ↓wR2, ↓d2, ↓d20, ↓dAdd, ↓dMul, ↓dEq, ↓dNe, ↓dIsN, ↓dNotN, ↓isN, ↓dNeg, ↓dIx, ↓dInI, ↓dSl, ↓truD, ↓cLen, ↓cAbs, ↓cMax2, ↓cMin2, ↓cInt, ↓cTup, ↓cLst, ↓sv, ↓List.getD_cons_zero, ↓List.getD_cons_succ, ↓List.set_cons_zero, ↓List.set_cons_succ, ↓vxSeq, ↓vxIf, ↓vxRaise, ↓vxRet, ↓vxAsg, ↓vxCall, ↓vReason, ↓vEqS, abs_if, vWhile]
  exact ⟨_, wit_gcd _ (b.natAbs + 1) b.natAbs a.natAbs (by omega) (by simp only [↓vSeq, ↓vPar, ↓vPar3, ↓vSet, ↓vSetO, ↓vAsg, ↓vAug, ↓vAppend, ↓vExt, ↓vUnp, ↓vFz, ↓vRet, ↓vRetN, ↓vDrop, ↓vIfS, ↓vNext, ↓vBrk, ↓vCnt, ↓vNever, ↓vForS, ↓vC, ↓vVar, ↓vTup, ↓vOf, ↓vBin, ↓vBinL, ↓vBinR, ↓vUn, ↓vCall, ↓vCallO, ↓vCallIO, ↓vCallSC, ↓vLookA, ↓vB, ↓vTru, ↓vTruO, ↓vAnd, ↓vOr, ↓vNot, ↓vAndV, ↓vOrV, ↓vNotV, ↓vIf, ↓vChain, ↓vNil, ↓vCons, ↓vSl, ↓vSlL, ↓vP0, ↓vP1, ↓vRevT, ↓vRevL, ↓vRevLL, ↓vBits, ↓vPop, ↓vLc, ↓vTurn, ↓vYes, ↓gN, ↓gT, ↓gsC, ↓gs0, ↓gSet, ↓wL, ↓wT, ↓wR1, ↓wR2, ↓d2, ↓d20, ↓dAdd, ↓dMul, ↓dEq, ↓dNe, ↓dIsN, ↓dNotN, ↓isN, ↓dNeg, ↓dIx, ↓dInI, ↓dSl, ↓truD, ↓cLen, ↓cAbs, ↓cMax2, ↓cMin2, ↓cInt, ↓cTup, ↓cLst, ↓sv, ↓List.getD_cons_zero, ↓List.getD_cons_succ, ↓List.set_cons_zero, ↓List.set_cons_succ, ↓vxSeq, ↓vxIf, ↓vxRaise, ↓vxRet, ↓vxAsg, ↓vxCall, ↓vReason, ↓vEqS]; exact h)⟩
/-! ### fractions -/
theorem gcd_pos {a b : Int} (h : 0 < b) : 0 < Int.gcd a b ∧ (Int.gcd a b : Int) ≤ b := by
  refine ⟨Int.gcd_pos_of_ne_zero_right a (by omega), ?_⟩
  have h1 : (Int.gcd a b : Int) ∣ b := Int.gcd_dvd_right a b
  exact Int.le_of_dvd h h1
theorem hq_fraction (ds : List D) (Q : D → Prop) (h : sp_fraction ds Q) : rd_fraction { nx := fun _ => Q .none, rt := fun d _ => Q d } (ev0 ["above", "below", "common"] ds) := by
  obtain ⟨a, b, rfl, hb, hs, h⟩ := h
  show rd_fraction _ [.fr (.int a), .fr (.int b), .un]
  have h1 : ¬ b < 0 := by omega
  obtain ⟨g1, g2⟩ := gcd_pos (a := a) hb
  simp only [↓rd_fraction, ↓vSeq, ↓vPar, ↓vPar3, ↓vSet, ↓vSetO, ↓vAsg, ↓vAug, ↓vAppend, ↓vExt, ↓vUnp, ↓vFz, ↓vRet, ↓vRetN, ↓vDrop, ↓vIfS, ↓vNext, ↓vBrk, ↓vCnt, ↓vNever, ↓vForS, ↓vC, ↓vVar, ↓vTup, ↓vOf, ↓vBin, ↓vBinL, ↓vBinR, ↓vUn, ↓vCall, ↓vCallO, ↓vCallIO, ↓vCallSC, ↓vLookA, ↓vB, ↓vTru, ↓vTruO, ↓vAnd, ↓vOr, ↓vNot, ↓vAndV, ↓vOrV, ↓vNotV, ↓vIf, ↓vChain, ↓vNil, ↓vCons, ↓vSl, ↓vSlL, ↓vP0, ↓vP1, ↓vRevT, ↓vRevL, ↓vRevLL, ↓vBits, ↓vPop, ↓vLc, ↓vTurn, ↓vYes, ↓gN, ↓gT, ↓gsC, ↓gs0, ↓gSet, ↓wL, ↓wT, ↓wR1, ↓wR2, ↓d2, ↓d20, ↓dAdd, ↓dMul, ↓dEq, ↓dNe, ↓dIsN, ↓dNotN, ↓isN, ↓dNeg, ↓dIx, ↓dInI, ↓dSl, ↓truD, ↓cLen, ↓cAbs, ↓cMax2, ↓cMin2, ↓cInt, ↓cTup, ↓cLst, ↓sv, ↓List.getD_cons_zero, ↓List.getD_cons_succ, ↓List.set_cons_zero, ↓List.set_cons_succ, ↓vxSeq, ↓vxIf, ↓vxRaise, ↓vxRet, ↓vxAsg, ↓vxCall, ↓vReason, ↓vEqS]
  refine ⟨a, b, rfl, ?_⟩
  simp only [↓vSeq, ↓vPar, ↓vPar3, ↓vSet, ↓vSetO, ↓vAsg, ↓vAug, ↓vAppend, ↓vExt, ↓vUnp, ↓vFz, ↓vRet, ↓vRetN, ↓vDrop, ↓vIfS, ↓vNext, ↓vBrk, ↓vCnt, ↓vNever, ↓vForS, ↓vC, ↓vVar, ↓vTup, ↓vOf, ↓vBin, ↓vBinL, ↓vBinR, ↓vUn, ↓vCall, ↓vCallO, ↓vCallIO, ↓vCallSC, ↓vLookA, ↓vB, ↓vTru, ↓vTruO, ↓vAnd, ↓vOr, ↓vNot, ↓vAndV, ↓vOrV, ↓vNotV, ↓vIf, ↓vChain, ↓vNil, ↓vCons, ↓vSl, ↓vSlL, ↓vP0, ↓vP1, ↓vRevT, ↓vRevL, ↓vRevLL, ↓vBits, ↓vPop, ↓vLc, ↓vTurn, ↓vYes, ↓gN, ↓gT, ↓gsC, ↓gs0, ↓gSet, ↓wL, ↓wT, ↓wR1, ↓wR2, ↓d2, ↓d20, ↓dAdd, ↓dMul, ↓dEq, ↓dNe, ↓dIsN, ↓dNotN, ↓isN, ↓dNeg, ↓dIx, ↓dInI, ↓dSl, ↓truD, ↓cLen, ↓cAbs, ↓cMax2, ↓cMin2, ↓cInt, ↓cTup, ↓cLst, ↓sv, ↓List.getD_cons_zero, ↓List.getD_cons_succ, ↓List.set_cons_zero, ↓List.set_cons_succ, ↓vxSeq, ↓vxIf, ↓vxRaise, ↓vxRet, ↓vxAsg, ↓vxCall, ↓vReason, ↓vEqS, h1, decide_false]
  refine ⟨div_small (by omega) ⟨by omega, by omega⟩, div_small (by omega) ⟨by omega, by omega⟩, ?_⟩
  rw [fdiv_pos (by omega), fdiv_pos (by omega)]
  exact h
theorem hq__law_fraction (ds : List D) (Q : D → Prop) (h : sp__law_fraction ds Q) : rd__law_fraction { nx := fun _ => Q .none, rt := fun d _ => Q d } (ev0 ["above", "below", "common"] ds) := by
  obtain ⟨a, b, rfl, hb, hs, h⟩ := h
  show rd__law_fraction _ [.fr (.int a), .fr (.int b), .un]
  have h1 : ¬ b < 0 := by omega
  obtain ⟨g1, g2⟩ := gcd_pos (a := a) hb
  simp only [↓rd__law_fraction, ↓vSeq, ↓vPar, ↓vPar3, ↓vSet, ↓vSetO, ↓vAsg, ↓vAug, ↓vAppend, ↓vExt, ↓vUnp, ↓vFz, ↓vRet, ↓vRetN, ↓vDrop, ↓vIfS, ↓vNext, ↓vBrk, ↓vCnt, ↓vNever, ↓vForS, ↓vC, ↓vVar, ↓vTup, ↓vOf, ↓vBin, ↓vBinL, ↓vBinR, ↓vUn, ↓vCall, ↓vCallO, ↓vCallIO, ↓vCallSC, ↓vLookA, ↓vB, ↓vTru, ↓vTruO, ↓vAnd, ↓vOr, ↓vNot, ↓vAndV, ↓vOrV, ↓vNotV, ↓vIf, ↓vChain, ↓vNil, ↓vCons, ↓vSl, ↓vSlL, ↓vP0, ↓vP1, ↓vRevT, ↓vRevL, ↓vRevLL, ↓vBits, ↓vPop, ↓vLc, ↓vTurn, ↓vYes, ↓gN, ↓gT, ↓gsC, ↓gs0, ↓gSet, ↓wL, ↓wT, ↓wR1, ↓wR2, ↓d2, ↓d20, ↓dAdd, ↓dMul, ↓dEq, ↓dNe, ↓dIsN, ↓dNotN, ↓isN, ↓dNeg, ↓dIx, ↓dInI, ↓dSl, ↓truD, ↓cLen, ↓cAbs, ↓cMax2, ↓cMin2, ↓cInt, ↓cTup, ↓cLst, ↓sv, ↓List.getD_cons_zero, ↓List.getD_cons_succ, ↓List.set_cons_zero, ↓List.set_cons_succ, ↓vxSeq, ↓vxIf, ↓vxRaise, ↓vxRet, ↓vxAsg, ↓vxCall, ↓vReason, ↓vEqS]
  refine ⟨a, b, rfl, ?_⟩
  simp only [↓vSeq, ↓vPar, ↓vPar3, ↓vSet, ↓vSetO, ↓vAsg, ↓vAug, ↓vAppend, ↓vExt, ↓vUnp, ↓vFz, ↓vRet, ↓vRetN, ↓vDrop, ↓vIfS, ↓vNext, ↓vBrk, ↓vCnt, ↓vNever, ↓vForS, ↓vC, ↓vVar, ↓vTup, ↓vOf, ↓vBin, ↓vBinL, ↓vBinR, ↓vUn, ↓vCall, ↓vCallO, ↓vCallIO, ↓vCallSC, ↓vLookA, ↓vB, ↓vTru, ↓vTruO, ↓vAnd, ↓vOr, ↓vNot, ↓vAndV, ↓vOrV, ↓vNotV, ↓vIf, ↓vChain, ↓vNil, ↓vCons, ↓vSl, ↓vSlL, ↓vP0, ↓vP1, ↓vRevT, ↓vRevL, ↓vRevLL, ↓vBits, ↓vPop, ↓vLc, ↓vTurn, ↓vYes, ↓gN, ↓gT, ↓gsC, ↓gs0, ↓gSet, ↓wL, ↓wT, ↓wR1, ↓wR2, ↓d2, ↓d20, ↓dAdd, ↓dMul, ↓dEq, ↓dNe, ↓dIsN, ↓dNotN, ↓isN, ↓dNeg, ↓dIx, ↓dInI, ↓dSl, ↓truD, ↓cLen, ↓cAbs, ↓cMax2, ↓cMin2, ↓cInt, ↓cTup, ↓cLst, ↓sv, ↓List.getD_cons_zero, ↓List.getD_cons_succ, ↓List.set_cons_zero, ↓List.set_cons_succ, ↓vxSeq, ↓vxIf, ↓vxRaise, ↓vxRet, ↓vxAsg, ↓vxCall, ↓vReason, ↓vEqS, h1, decide_false]
  refine ⟨div_small (by omega) ⟨by omega, by omega⟩, div_small (by omega) ⟨by omega, by omega⟩, ?_⟩
  rw [fdiv_pos (by omega), fdiv_pos (by omega)]
  exact h
/-! ### roots -/
theorem sq_lt {x y : Int} (hx : 0 ≤ x) (hy : 0 ≤ y) : x * x < y * y ↔ x < y := by
  constructor
  · intro h
    refine Int.not_le.mp fun z => ?_
    have := Int.mul_le_mul z z hy hx
    omega
  · intro h
    have h1 : x * x ≤ x * y := Int.mul_le_mul_of_nonneg_left (by omega) hx
    have h2 : x * y < y * y := Int.mul_lt_mul_of_pos_right h (by omega)
    omega
theorem sq_nonneg (x : Int) : 0 ≤ x * x := by
  rcases Int.le_total 0 x with h | h
  · exact Int.mul_nonneg h h
  · exact Int.mul_nonneg_of_nonpos_of_nonpos h h
theorem newton {n f r : Int} (hr : isRoot n r) (hf : 0 < f) (hfr : r ≤ f) (hn : n < f * f) : r ≤ (f + n / f) / 2 ∧ (f + n / f) / 2 < f ∧ 0 ≤ n / f := by
  obtain ⟨h0, h1, h2⟩ := hr
  have hn0 : 0 ≤ n := by have := Int.mul_nonneg h0 h0; omega
  have e1 : n / f < f := Int.ediv_lt_of_lt_mul hf hn
  have e2 : 2 * r - f ≤ n / f := by
    rw [Int.le_ediv_iff_mul_le hf]
    have h3 : 0 ≤ (r - f) * (r - f) := sq_nonneg _
    grind
  have e3 : 0 ≤ n / f := Int.ediv_nonneg hn0 (by omega)
  omega
theorem root_uniq {n r s : Int} (h : isRoot n r) (k : isRoot n s) : r = s := by
  obtain ⟨a1, a2, a3⟩ := h
  obtain ⟨b1, b2, b3⟩ := k
  have h1 : r * r < (s + 1) * (s + 1) := by omega
  have h2 : s * s < (r + 1) * (r + 1) := by omega
  rw [sq_lt a1 (by omega)] at h1
  rw [sq_lt b1 (by omega)] at h2
  omega
theorem root_ex (n : Nat) : ∃ r : Int, isRoot n r := by
  induction n with
  | zero => exact ⟨0, by unfold isRoot; omega⟩
  | succ n ih =>
    obtain ⟨r, h0, h1, h2⟩ := ih
    by_cases h : ((n + 1 : Nat) : Int) < (r + 1) * (r + 1)
    · exact ⟨r, h0, by omega, h⟩
    · refine ⟨r + 1, by omega, by omega, ?_⟩
      have : (r + 1 + 1) * (r + 1 + 1) = (r + 1) * (r + 1) + 2 * (r + 1) + 1 := by grind
      omega
theorem root_at (n : Int) (h : 0 ≤ n) : ∃ r : Int, isRoot n r := by
  obtain ⟨m, rfl⟩ := Int.eq_ofNat_of_zero_le h
  exact root_ex m
theorem wit_root (D : VEnds) (n r : Int) (hr : isRoot n r) (hn : 0 < n) : ∀ (k : Nat) (f : Int), f < k → 0 < f → r ≤ f → f < 18446744073709551616 → D.nx [.fr (.int n), .fr (.int r)] → wit rd_root_w1c rd_root_w1b D k [.fr (.int n), .fr (.int f)] := by
  intro k
  induction k with
  | zero => intro f h; omega
  | succ k ih =>
    intro f h hf hfr hs hD
    rw [wit_succ]
    simp only [↓rd_root_w1c, ↓rd_root_w1b, ↓vSeq, ↓vPar, ↓vPar3, ↓vSet, ↓vSetO, ↓vAsg, ↓vAug, ↓vAppend, ↓vExt, ↓vUnp, ↓vFz, ↓vRet, ↓vRetN, ↓vDrop, ↓vIfS, ↓vNext, ↓vBrk, ↓vCnt, ↓vNever, ↓vForS, ↓vC, ↓vVar, ↓vTup, ↓vOf, ↓vBin, ↓vBinL, ↓vBinR, ↓vUn, ↓vCall, ↓vCallO, ↓vCallIO, ↓vCallSC, ↓vLookA, ↓vB, ↓vTru, ↓vTruO, ↓vAnd, ↓vOr, ↓vNot, ↓vAndV, ↓vOrV, ↓vNotV, ↓vIf, ↓vChain, ↓vNil, ↓vCons, ↓vSl, ↓vSlL, ↓vP0, ↓vP1, ↓vRevT, ↓vRevL, ↓vRevLL, ↓vBits, ↓vPop, ↓vLc, ↓vTurn, ↓vYes, ↓gN, ↓gT, ↓gsC, ↓gs0, ↓gSet, ↓wL, ↓wT, ↓wR1, ↓wR2, ↓d2, ↓d20, ↓dAdd, ↓dMul, ↓dEq, ↓dNe, ↓dIsN, ↓dNotN, ↓isN, ↓dNeg, ↓dIx, ↓dInI, ↓dSl, ↓truD, ↓cLen, ↓cAbs, ↓cMax2, ↓cMin2, ↓cInt, ↓cTup, ↓cLst, ↓sv, ↓List.getD_cons_zero, ↓List.getD_cons_succ, ↓List.set_cons_zero, ↓List.set_cons_succ, ↓vxSeq, ↓vxIf, ↓vxRaise, ↓vxRet, ↓vxAsg, ↓vxCall, ↓vReason, ↓vEqS]
    refine ⟨mul_small ⟨by omega, hs⟩, ?_⟩
    by_cases hy : n < f * f
    · obtain ⟨e1, e2, e3⟩ := newton hr hf hfr hy
      simp only [hy, decide_true]
      rw [fdiv_pos (by omega), fdiv_pos (by omega)]
      have hr0 : 0 < r := by
        obtain ⟨a1, a2, a3⟩ := hr
        refine Int.not_le.mp fun z => ?_
        have : r = 0 := by omega
        subst this
        omega
      exact ⟨div_small (by omega) ⟨by omega, hs⟩, div_small (by omega) ⟨by omega, by omega⟩, ih _ (by omega) (by omega) e1 (by omega) hD⟩
    · simp only [hy, decide_false]
      have : f = r := by
        obtain ⟨a1, a2, a3⟩ := hr
        have h1 : f * f < (r + 1) * (r + 1) := by omega
        rw [sq_lt (by omega) (by omega)] at h1
        omega
      rw [this]
      exact hD
theorem bits_lt {n : Int} (h : 0 < n) : n < 2 ^ (Builtin.Int.intBits n) ∧ 0 < Builtin.Int.intBits n := by
  have h0 : (n == 0) = false := by simp; omega
  unfold Builtin.Int.intBits
  rw [h0]
  simp only [Bool.false_eq_true, if_false]
  refine ⟨?_, by omega⟩
  have h1 := Nat.lt_log2_self (n := n.natAbs)
  have h2 : n = (n.natAbs : Int) := by omega
  rw [h2]
  exact_mod_cast h1
theorem bits_le {n : Int} {k : Nat} (h : 0 < n) (hk : n < 2 ^ k) : Builtin.Int.intBits n ≤ k := by
  have h0 : (n == 0) = false := by simp; omega
  unfold Builtin.Int.intBits
  rw [h0]
  simp only [Bool.false_eq_true, if_false]
  have h2 : n.natAbs < 2 ^ k := by
    have h2 : n = (n.natAbs : Int) := by omega
    rw [h2] at hk
    exact_mod_cast hk
  have := (Nat.log2_lt (by omega)).mpr h2
  omega
theorem hq_root (ds : List D) (Q : D → Prop) (h : sp_root ds Q) : rd_root { nx := fun _ => Q .none, rt := fun d _ => Q d } (ev0 ["number", "found"] ds) := by
  obtain ⟨n, rfl, hn, hs, h⟩ := h
  show rd_root _ [.fr (.int n), .un]
  obtain ⟨r, hr⟩ := root_at n (by omega)
  obtain ⟨b1, b2⟩ := bits_lt hn
  have b3 : Builtin.Int.intBits n ≤ 64 := bits_le hn hs
  generalize hb : Builtin.Int.intBits n = b at b1 b2 b3
  simp only [↓rd_root, ↓vSeq, ↓vPar, ↓vPar3, ↓vSet, ↓vSetO, ↓vAsg, ↓vAug, ↓vAppend, ↓vExt, ↓vUnp, ↓vFz, ↓vRet, ↓vRetN, ↓vDrop, ↓vIfS, ↓vNext, ↓vBrk, ↓vCnt, ↓vNever, ↓vForS, ↓vC, ↓vVar, ↓vTup, ↓vOf, ↓vBin, ↓vBinL, ↓vBinR, ↓vUn, ↓vCall, ↓vCallO, ↓vCallIO, ↓vCallSC, ↓vLookA, ↓vB, ↓vTru, ↓vTruO, ↓vAnd, ↓vOr, ↓vNot, ↓vAndV, ↓vOrV, ↓vNotV, ↓vIf, ↓vChain, ↓vNil, ↓vCons, ↓vSl, ↓vSlL, ↓vP0, ↓vP1, ↓vRevT, ↓vRevL, ↓vRevLL, ↓vBits, ↓vPop, ↓vLc, ↓vTurn, ↓vYes, ↓gN, ↓gT, ↓gsC, ↓gs0, ↓gSet, ↓wL, ↓wT, ↓wR1, ↓wR2, ↓d2, ↓d20, ↓dAdd, ↓dMul, ↓dEq, ↓dNe, ↓dIsN, ↓dNotN, ↓isN, ↓dNeg, ↓dIx, ↓dInI, ↓dSl, ↓truD, ↓cLen, ↓cAbs, ↓cMax2, ↓cMin2, ↓cInt, ↓cTup, ↓cLst, ↓sv, ↓List.getD_cons_zero, ↓List.getD_cons_succ, ↓List.set_cons_zero, ↓List.set_cons_succ, ↓vxSeq, ↓vxIf, ↓vxRaise, ↓vxRet, ↓vxAsg, ↓vxCall, ↓vReason, ↓vEqS, hb, vWhile]
  have hd : ((b : Int) + 1).fdiv 2 = (((b + 1) / 2 : Nat) : Int) := by rw [fdiv_pos (by omega)]; omega
  rw [hd]
  refine ⟨div_small (by omega) ⟨by omega, by omega⟩, ⟨by omega, by omega, by omega, by omega⟩, ?_⟩
  have e1 : (1 : Int) * 2 ^ (((b + 1) / 2 : Nat) : Int).toNat = ((2 ^ ((b + 1) / 2) : Nat) : Int) := by
    rw [Int.one_mul, Int.toNat_natCast]; exact_mod_cast rfl
  rw [e1]
  generalize hc : (b + 1) / 2 = c
  have hc2 : b ≤ c + c := by omega
  have hc3 : c ≤ 32 := by omega
  have p1 : 2 ^ b ≤ 2 ^ c * 2 ^ c := by rw [← Nat.pow_add]; exact Nat.pow_le_pow_right (by omega) hc2
  have p2 : 2 ^ c ≤ 2 ^ 32 := Nat.pow_le_pow_right (by omega) hc3
  have p3 : 0 < 2 ^ c := Nat.pow_pos (by omega)
  generalize hF : (2 : Nat) ^ c = F at p1 p2 p3
  have b4 : n < ((F * F : Nat) : Int) := by
    have : ((2 ^ b : Nat) : Int) ≤ ((F * F : Nat) : Int) := by exact_mod_cast p1
    have e2 : (((2 : Nat) ^ b : Nat) : Int) = 2 ^ b := by exact_mod_cast rfl
    omega
  have hrF : r ≤ F := by
    obtain ⟨a1, a2, a3⟩ := hr
    have h1 : r * r < (F : Int) * F := by
      have : ((F * F : Nat) : Int) = (F : Int) * F := by push_cast; rfl
      omega
    rw [sq_lt a1 (by omega)] at h1
    omega
  exact ⟨F + 1, wit_root _ n r hr hn (F + 1) F (by omega) (by omega) hrF (by omega) (by simpa only [↓vSeq, ↓vPar, ↓vPar3, ↓vSet, ↓vSetO, ↓vAsg, ↓vAug, ↓vAppend, ↓vExt, ↓vUnp, ↓vFz, ↓vRet, ↓vRetN, ↓vDrop, ↓vIfS, ↓vNext, ↓vBrk, ↓vCnt, ↓vNever, ↓vForS, ↓vC, ↓vVar, ↓vTup, ↓vOf, ↓vBin, ↓vBinL, ↓vBinR, ↓vUn, ↓vCall, ↓vCallO, ↓vCallIO, ↓vCallSC, ↓vLookA, ↓vB, ↓vTru, ↓vTruO, ↓vAnd, ↓vOr, ↓vNot, ↓vAndV, ↓vOrV, ↓vNotV, ↓vIf, ↓vChain, ↓vNil, ↓vCons, ↓vSl, ↓vSlL, ↓vP0, ↓vP1, ↓vRevT, ↓vRevL, ↓vRevLL, ↓vBits, ↓vPop, ↓vLc, ↓vTurn, ↓vYes, ↓gN, ↓gT, ↓gsC, ↓gs0, ↓gSet, ↓wL, ↓wT, ↓wR1, ↓wR2, ↓d2, ↓d20, ↓dAdd, ↓dMul, ↓dEq, ↓dNe, ↓dIsN, ↓dNotN, ↓isN, ↓dNeg, ↓dIx, ↓dInI, ↓dSl, ↓truD, ↓cLen, ↓cAbs, ↓cMax2, ↓cMin2, ↓cInt, ↓cTup, ↓cLst, ↓sv, ↓List.getD_cons_zero, ↓List.getD_cons_succ, ↓List.set_cons_zero, ↓List.set_cons_succ, ↓vxSeq, ↓vxIf, ↓vxRaise, ↓vxRet, ↓vxAsg, ↓vxCall, ↓vReason, ↓vEqS] using h r hr)⟩
/-! ### _law_root -/
theorem mul_pos2 {a b : Int} (ha : 0 < a) (hb : 0 < b) : 0 < a * b := Int.mul_pos ha hb
theorem wit_lr1 (D : VEnds) (n l : Int) (hn : n < 18446744073709551616) : ∀ (k : Nat) (f : Int), n < f + k → 0 < f → f ≤ 18446744073709551616 → (∀ g, 0 < g → n < g * g → g ≤ 2 * 18446744073709551616 → D.nx [.fr (.int n), .fr (.int l), .fr (.int g), .un]) → wit rd__law_root_w1c rd__law_root_w1b D (k + 1) [.fr (.int n), .fr (.int l), .fr (.int f), .un] := by
  intro k
  induction k with
  | zero =>
    intro f h hf hs hD
    rw [wit_succ]
    have h1 : ¬ f * f ≤ n := by
      have : f * 1 ≤ f * f := Int.mul_le_mul_of_nonneg_left (by omega) (by omega)
      omega
    simp only [↓rd__law_root_w1c, ↓rd__law_root_w1b, ↓vSeq, ↓vPar, ↓vPar3, ↓vSet, ↓vSetO, ↓vAsg, ↓vAug, ↓vAppend, ↓vExt, ↓vUnp, ↓vFz, ↓vRet, ↓vRetN, ↓vDrop, ↓vIfS, ↓vNext, ↓vBrk, ↓vCnt, ↓vNever, ↓vForS, ↓vC, ↓vVar, ↓vTup, ↓vOf, ↓vBin, ↓vBinL, ↓vBinR, ↓vUn, ↓vCall, ↓vCallO, ↓vCallIO, ↓vCallSC, ↓vLookA, ↓vB, ↓vTru, ↓vTruO, ↓vAnd, ↓vOr, ↓vNot, ↓vAndV, ↓vOrV, ↓vNotV, ↓vIf, ↓vChain, ↓vNil, ↓vCons, ↓vSl, ↓vSlL, ↓vP0, ↓vP1, ↓vRevT, ↓vRevL, ↓vRevLL, ↓vBits, ↓vPop, ↓vLc, ↓vTurn, ↓vYes, ↓gN, ↓gT, ↓gsC, ↓gs0, ↓gSet, ↓wL, ↓wT, ↓wR1, ↓wR2, ↓d2, ↓d20, ↓dAdd, ↓dMul, ↓dEq, ↓dNe, ↓dIsN, ↓dNotN, ↓isN, ↓dNeg, ↓dIx, ↓dInI, ↓dSl, ↓truD, ↓cLen, ↓cAbs, ↓cMax2, ↓cMin2, ↓cInt, ↓cTup, ↓cLst, ↓sv, ↓List.getD_cons_zero, ↓List.getD_cons_succ, ↓List.set_cons_zero, ↓List.set_cons_succ, ↓vxSeq, ↓vxIf, ↓vxRaise, ↓vxRet, ↓vxAsg, ↓vxCall, ↓vReason, ↓vEqS, h1, decide_false]
    by_cases hs2 : f < 18446744073709551616
    · exact ⟨mul_small ⟨by omega, hs2⟩, hD f hf (by omega) (by omega)⟩
    · exact ⟨.inr (.inr (by have : f = 18446744073709551616 := by omega
                            subst this
                            show (_ : Int) ≤ _
                            decide +kernel)), hD f hf (by omega) (by omega)⟩
  | succ k ih =>
    intro f h hf hs hD
    rw [wit_succ]
    generalize hW : wit rd__law_root_w1c rd__law_root_w1b D (k + 1) = W
    have hm : mulOk f f := by
      by_cases hs2 : f < 18446744073709551616
      · exact mul_small ⟨by omega, hs2⟩
      · exact .inr (.inr (by have : f = 18446744073709551616 := by omega
                             subst this
                             show (_ : Int) ≤ _
                             decide +kernel))
    simp only [↓rd__law_root_w1c, ↓rd__law_root_w1b, ↓vSeq, ↓vPar, ↓vPar3, ↓vSet, ↓vSetO, ↓vAsg, ↓vAug, ↓vAppend, ↓vExt, ↓vUnp, ↓vFz, ↓vRet, ↓vRetN, ↓vDrop, ↓vIfS, ↓vNext, ↓vBrk, ↓vCnt, ↓vNever, ↓vForS, ↓vC, ↓vVar, ↓vTup, ↓vOf, ↓vBin, ↓vBinL, ↓vBinR, ↓vUn, ↓vCall, ↓vCallO, ↓vCallIO, ↓vCallSC, ↓vLookA, ↓vB, ↓vTru, ↓vTruO, ↓vAnd, ↓vOr, ↓vNot, ↓vAndV, ↓vOrV, ↓vNotV, ↓vIf, ↓vChain, ↓vNil, ↓vCons, ↓vSl, ↓vSlL, ↓vP0, ↓vP1, ↓vRevT, ↓vRevL, ↓vRevLL, ↓vBits, ↓vPop, ↓vLc, ↓vTurn, ↓vYes, ↓gN, ↓gT, ↓gsC, ↓gs0, ↓gSet, ↓wL, ↓wT, ↓wR1, ↓wR2, ↓d2, ↓d20, ↓dAdd, ↓dMul, ↓dEq, ↓dNe, ↓dIsN, ↓dNotN, ↓isN, ↓dNeg, ↓dIx, ↓dInI, ↓dSl, ↓truD, ↓cLen, ↓cAbs, ↓cMax2, ↓cMin2, ↓cInt, ↓cTup, ↓cLst, ↓sv, ↓List.getD_cons_zero, ↓List.getD_cons_succ, ↓List.set_cons_zero, ↓List.set_cons_succ, ↓vxSeq, ↓vxIf, ↓vxRaise, ↓vxRet, ↓vxAsg, ↓vxCall, ↓vReason, ↓vEqS]
    refine ⟨hm, ?_⟩
    by_cases hy : f * f ≤ n
    · simp only [hy, decide_true]
      refine ⟨mul_small ⟨by omega, by omega⟩, ?_⟩
      rw [← hW]
      have hf2 : f < 4294967296 := by
        refine Int.not_le.mp fun z => ?_
        have := Int.mul_le_mul z z (by omega) (by omega)
        omega
      exact ih _ (by omega) (by omega) (by omega) hD
    · simp only [hy, decide_false]
      exact hD f hf (by omega) (by omega)
theorem wit_lr2 (D : VEnds) (n r : Int) (hr : isRoot n r) : ∀ (k : Nat) (l h : Int) (x : SV), h - l ≤ k + 1 → 0 ≤ l → l < h → l * l ≤ n → n < h * h → h ≤ 2 * 18446744073709551616 → (∀ a b, D.nx [.fr (.int n), .fr (.int r), .fr a, b]) → wit rd__law_root_w2c rd__law_root_w2b D (k + 1) [.fr (.int n), .fr (.int l), .fr (.int h), x] := by
  intro k
  have fin : ∀ {l h : Int}, 0 ≤ l → l * l ≤ n → n < h * h → h - l ≤ 1 → l < h → l = r := fun {l h} a b c d e => by
    have : h = l + 1 := by omega
    subst this
    exact root_uniq ⟨a, b, c⟩ hr
  induction k with
  | zero =>
    intro l h x hk hl hlh h1 h2 hs hD
    rw [wit_succ]
    have h3 : ¬ (1 : Int) < h - l := by omega
    simp only [↓rd__law_root_w2c, ↓vSeq, ↓vPar, ↓vPar3, ↓vSet, ↓vSetO, ↓vAsg, ↓vAug, ↓vAppend, ↓vExt, ↓vUnp, ↓vFz, ↓vRet, ↓vRetN, ↓vDrop, ↓vIfS, ↓vNext, ↓vBrk, ↓vCnt, ↓vNever, ↓vForS, ↓vC, ↓vVar, ↓vTup, ↓vOf, ↓vBin, ↓vBinL, ↓vBinR, ↓vUn, ↓vCall, ↓vCallO, ↓vCallIO, ↓vCallSC, ↓vLookA, ↓vB, ↓vTru, ↓vTruO, ↓vAnd, ↓vOr, ↓vNot, ↓vAndV, ↓vOrV, ↓vNotV, ↓vIf, ↓vChain, ↓vNil, ↓vCons, ↓vSl, ↓vSlL, ↓vP0, ↓vP1, ↓vRevT, ↓vRevL, ↓vRevLL, ↓vBits, ↓vPop, ↓vLc, ↓vTurn, ↓vYes, ↓gN, ↓gT, ↓gsC, ↓gs0, ↓gSet, ↓wL, ↓wT, ↓wR1, ↓wR2, ↓d2, ↓d20, ↓dAdd, ↓dMul, ↓dEq, ↓dNe, ↓dIsN, ↓dNotN, ↓isN, ↓dNeg, ↓dIx, ↓dInI, ↓dSl, ↓truD, ↓cLen, ↓cAbs, ↓cMax2, ↓cMin2, ↓cInt, ↓cTup, ↓cLst, ↓sv, ↓List.getD_cons_zero, ↓List.getD_cons_succ, ↓List.set_cons_zero, ↓List.set_cons_succ, ↓vxSeq, ↓vxIf, ↓vxRaise, ↓vxRet, ↓vxAsg, ↓vxCall, ↓vReason, ↓vEqS, h3, decide_false]
    rw [fin hl h1 h2 (by omega) hlh]
    exact hD _ _
  | succ k ih =>
    intro l h x hk hl hlh h1 h2 hs hD
    rw [wit_succ]
    generalize hW : wit rd__law_root_w2c rd__law_root_w2b D (k + 1) = W
    by_cases h3 : (1 : Int) < h - l
    · simp only [↓rd__law_root_w2c, ↓rd__law_root_w2b, ↓vSeq, ↓vPar, ↓vPar3, ↓vSet, ↓vSetO, ↓vAsg, ↓vAug, ↓vAppend, ↓vExt, ↓vUnp, ↓vFz, ↓vRet, ↓vRetN, ↓vDrop, ↓vIfS, ↓vNext, ↓vBrk, ↓vCnt, ↓vNever, ↓vForS, ↓vC, ↓vVar, ↓vTup, ↓vOf, ↓vBin, ↓vBinL, ↓vBinR, ↓vUn, ↓vCall, ↓vCallO, ↓vCallIO, ↓vCallSC, ↓vLookA, ↓vB, ↓vTru, ↓vTruO, ↓vAnd, ↓vOr, ↓vNot, ↓vAndV, ↓vOrV, ↓vNotV, ↓vIf, ↓vChain, ↓vNil, ↓vCons, ↓vSl, ↓vSlL, ↓vP0, ↓vP1, ↓vRevT, ↓vRevL, ↓vRevLL, ↓vBits, ↓vPop, ↓vLc, ↓vTurn, ↓vYes, ↓gN, ↓gT, ↓gsC, ↓gs0, ↓gSet, ↓wL, ↓wT, ↓wR1, ↓wR2, ↓d2, ↓d20, ↓dAdd, ↓dMul, ↓dEq, ↓dNe, ↓dIsN, ↓dNotN, ↓isN, ↓dNeg, ↓dIx, ↓dInI, ↓dSl, ↓truD, ↓cLen, ↓cAbs, ↓cMax2, ↓cMin2, ↓cInt, ↓cTup, ↓cLst, ↓sv, ↓List.getD_cons_zero, ↓List.getD_cons_succ, ↓List.set_cons_zero, ↓List.set_cons_succ, ↓vxSeq, ↓vxIf, ↓vxRaise, ↓vxRet, ↓vxAsg, ↓vxCall, ↓vReason, ↓vEqS, h3, decide_true]
      rw [fdiv_pos (by omega)]
      generalize hm : (l + h) / 2 = m
      have m1 : l < m := by omega
      have m2 : m < h := by omega
      refine ⟨div_small (by omega) ⟨by omega, by omega⟩, .inr (.inr ?_), ?_⟩
      · show (Builtin.Int.intBits m : Int) + (Builtin.Int.intBits m : Int) ≤ 134217728
        have := bits_le (n := m) (k := 65) (by omega) (by omega)
        omega
      · by_cases hy : m * m ≤ n
        · simp only [hy, decide_true, ↓vSeq, ↓vPar, ↓vPar3, ↓vSet, ↓vSetO, ↓vAsg, ↓vAug, ↓vAppend, ↓vExt, ↓vUnp, ↓vFz, ↓vRet, ↓vRetN, ↓vDrop, ↓vIfS, ↓vNext, ↓vBrk, ↓vCnt, ↓vNever, ↓vForS, ↓vC, ↓vVar, ↓vTup, ↓vOf, ↓vBin, ↓vBinL, ↓vBinR, ↓vUn, ↓vCall, ↓vCallO, ↓vCallIO, ↓vCallSC, ↓vLookA, ↓vB, ↓vTru, ↓vTruO, ↓vAnd, ↓vOr, ↓vNot, ↓vAndV, ↓vOrV, ↓vNotV, ↓vIf, ↓vChain, ↓vNil, ↓vCons, ↓vSl, ↓vSlL, ↓vP0, ↓vP1, ↓vRevT, ↓vRevL, ↓vRevLL, ↓vBits, ↓vPop, ↓vLc, ↓vTurn, ↓vYes, ↓gN, ↓gT, ↓gsC, ↓gs0, ↓gSet, ↓wL, ↓wT, ↓wR1, ↓wR2, ↓d2, ↓d20, ↓dAdd, ↓dMul, ↓dEq, ↓dNe, ↓dIsN, ↓dNotN, ↓isN, ↓dNeg, ↓dIx, ↓dInI, ↓dSl, ↓truD, ↓cLen, ↓cAbs, ↓cMax2, ↓cMin2, ↓cInt, ↓cTup, ↓cLst, ↓sv, ↓List.getD_cons_zero, ↓List.getD_cons_succ, ↓List.set_cons_zero, ↓List.set_cons_succ, ↓vxSeq, ↓vxIf, ↓vxRaise, ↓vxRet, ↓vxAsg, ↓vxCall, ↓vReason, ↓vEqS]
          rw [← hW]
          exact ih m h _ (by omega) (by omega) m2 hy h2 hs hD
        · simp only [hy, decide_false, ↓vSeq, ↓vPar, ↓vPar3, ↓vSet, ↓vSetO, ↓vAsg, ↓vAug, ↓vAppend, ↓vExt, ↓vUnp, ↓vFz, ↓vRet, ↓vRetN, ↓vDrop, ↓vIfS, ↓vNext, ↓vBrk, ↓vCnt, ↓vNever, ↓vForS, ↓vC, ↓vVar, ↓vTup, ↓vOf, ↓vBin, ↓vBinL, ↓vBinR, ↓vUn, ↓vCall, ↓vCallO, ↓vCallIO, ↓vCallSC, ↓vLookA, ↓vB, ↓vTru, ↓vTruO, ↓vAnd, ↓vOr, ↓vNot, ↓vAndV, ↓vOrV, ↓vNotV, ↓vIf, ↓vChain, ↓vNil, ↓vCons, ↓vSl, ↓vSlL, ↓vP0, ↓vP1, ↓vRevT, ↓vRevL, ↓vRevLL, ↓vBits, ↓vPop, ↓vLc, ↓vTurn, ↓vYes, ↓gN, ↓gT, ↓gsC, ↓gs0, ↓gSet, ↓wL, ↓wT, ↓wR1, ↓wR2, ↓d2, ↓d20, ↓dAdd, ↓dMul, ↓dEq, ↓dNe, ↓dIsN, ↓dNotN, ↓isN, ↓dNeg, ↓dIx, ↓dInI, ↓dSl, ↓truD, ↓cLen, ↓cAbs, ↓cMax2, ↓cMin2, ↓cInt, ↓cTup, ↓cLst, ↓sv, ↓List.getD_cons_zero, ↓List.getD_cons_succ, ↓List.set_cons_zero, ↓List.set_cons_succ, ↓vxSeq, ↓vxIf, ↓vxRaise, ↓vxRet, ↓vxAsg, ↓vxCall, ↓vReason, ↓vEqS]
          rw [← hW]
          exact ih l m _ (by omega) hl m1 h1 (by omega) (by omega) hD
    · simp only [↓rd__law_root_w2c, ↓vSeq, ↓vPar, ↓vPar3, ↓vSet, ↓vSetO, ↓vAsg, ↓vAug, ↓vAppend, ↓vExt, ↓vUnp, ↓vFz, ↓vRet, ↓vRetN, ↓vDrop, ↓vIfS, ↓vNext, ↓vBrk, ↓vCnt, ↓vNever, ↓vForS, ↓vC, ↓vVar, ↓vTup, ↓vOf, ↓vBin, ↓vBinL, ↓vBinR, ↓vUn, ↓vCall, ↓vCallO, ↓vCallIO, ↓vCallSC, ↓vLookA, ↓vB, ↓vTru, ↓vTruO, ↓vAnd, ↓vOr, ↓vNot, ↓vAndV, ↓vOrV, ↓vNotV, ↓vIf, ↓vChain, ↓vNil, ↓vCons, ↓vSl, ↓vSlL, ↓vP0, ↓vP1, ↓vRevT, ↓vRevL, ↓vRevLL, ↓vBits, ↓vPop, ↓vLc, ↓vTurn, ↓vYes, ↓gN, ↓gT, ↓gsC, ↓gs0, ↓gSet, ↓wL, ↓wT, ↓wR1, ↓wR2, ↓d2, ↓d20, ↓dAdd, ↓dMul, ↓dEq, ↓dNe, ↓dIsN, ↓dNotN, ↓isN, ↓dNeg, ↓dIx, ↓dInI, ↓dSl, ↓truD, ↓cLen, ↓cAbs, ↓cMax2, ↓cMin2, ↓cInt, ↓cTup, ↓cLst, ↓sv, ↓List.getD_cons_zero, ↓List.getD_cons_succ, ↓List.set_cons_zero, ↓List.set_cons_succ, ↓vxSeq, ↓vxIf, ↓vxRaise, ↓vxRet, ↓vxAsg, ↓vxCall, ↓vReason, ↓vEqS, h3, decide_false]
      rw [fin hl h1 h2 (by omega) hlh]
      exact hD _ _
theorem hq__law_root (ds : List D) (Q : D → Prop) (h : sp__law_root ds Q) : rd__law_root { nx := fun _ => Q .none, rt := fun d _ => Q d } (ev0 ["number", "low", "high", "middle"] ds) := by
  obtain ⟨n, rfl, hn, hs, h⟩ := h
  show rd__law_root _ [.fr (.int n), .un, .un, .un]
  obtain ⟨r, hr⟩ := root_at n (by omega)
  simp only [↓rd__law_root, ↓vSeq, ↓vPar, ↓vPar3, ↓vSet, ↓vSetO, ↓vAsg, ↓vAug, ↓vAppend, ↓vExt, ↓vUnp, ↓vFz, ↓vRet, ↓vRetN, ↓vDrop, ↓vIfS, ↓vNext, ↓vBrk, ↓vCnt, ↓vNever, ↓vForS, ↓vC, ↓vVar, ↓vTup, ↓vOf, ↓vBin, ↓vBinL, ↓vBinR, ↓vUn, ↓vCall, ↓vCallO, ↓vCallIO, ↓vCallSC, ↓vLookA, ↓vB, ↓vTru, ↓vTruO, ↓vAnd, ↓vOr, ↓vNot, ↓vAndV, ↓vOrV, ↓vNotV, ↓vIf, ↓vChain, ↓vNil, ↓vCons, ↓vSl, ↓vSlL, ↓vP0, ↓vP1, ↓vRevT, ↓vRevL, ↓vRevLL, ↓vBits, ↓vPop, ↓vLc, ↓vTurn, ↓vYes, ↓gN, ↓gT, ↓gsC, ↓gs0, ↓gSet, ↓wL, ↓wT, ↓wR1, ↓wR2, ↓d2, ↓d20, ↓dAdd, ↓dMul, ↓dEq, ↓dNe, ↓dIsN, ↓dNotN, ↓isN, ↓dNeg, ↓dIx, ↓dInI, ↓dSl, ↓truD, ↓cLen, ↓cAbs, ↓cMax2, ↓cMin2, ↓cInt, ↓cTup, ↓cLst, ↓sv, ↓List.getD_cons_zero, ↓List.getD_cons_succ, ↓List.set_cons_zero, ↓List.set_cons_succ, ↓vxSeq, ↓vxIf, ↓vxRaise, ↓vxRet, ↓vxAsg, ↓vxCall, ↓vReason, ↓vEqS, vWhile]
  refine ⟨rfl, n.toNat + 1, wit_lr1 _ n 0 hs n.toNat 1 (by omega) (by omega) (by omega) fun g h0 h1 h2 => ?_⟩
  simp only [↓vSeq, ↓vPar, ↓vPar3, ↓vSet, ↓vSetO, ↓vAsg, ↓vAug, ↓vAppend, ↓vExt, ↓vUnp, ↓vFz, ↓vRet, ↓vRetN, ↓vDrop, ↓vIfS, ↓vNext, ↓vBrk, ↓vCnt, ↓vNever, ↓vForS, ↓vC, ↓vVar, ↓vTup, ↓vOf, ↓vBin, ↓vBinL, ↓vBinR, ↓vUn, ↓vCall, ↓vCallO, ↓vCallIO, ↓vCallSC, ↓vLookA, ↓vB, ↓vTru, ↓vTruO, ↓vAnd, ↓vOr, ↓vNot, ↓vAndV, ↓vOrV, ↓vNotV, ↓vIf, ↓vChain, ↓vNil, ↓vCons, ↓vSl, ↓vSlL, ↓vP0, ↓vP1, ↓vRevT, ↓vRevL, ↓vRevLL, ↓vBits, ↓vPop, ↓vLc, ↓vTurn, ↓vYes, ↓gN, ↓gT, ↓gsC, ↓gs0, ↓gSet, ↓wL, ↓wT, ↓wR1, ↓wR2, ↓d2, ↓d20, ↓dAdd, ↓dMul, ↓dEq, ↓dNe, ↓dIsN, ↓dNotN, ↓isN, ↓dNeg, ↓dIx, ↓dInI, ↓dSl, ↓truD, ↓cLen, ↓cAbs, ↓cMax2, ↓cMin2, ↓cInt, ↓cTup, ↓cLst, ↓sv, ↓List.getD_cons_zero, ↓List.getD_cons_succ, ↓List.set_cons_zero, ↓List.set_cons_succ, ↓vxSeq, ↓vxIf, ↓vxRaise, ↓vxRet, ↓vxAsg, ↓vxCall, ↓vReason, ↓vEqS]
  exact ⟨g.toNat + 1, wit_lr2 _ n r hr g.toNat 0 g _ (by omega) (by omega) (by omega) (by omega) h1 h2 fun a b => by simp only [↓vSeq, ↓vPar, ↓vPar3, ↓vSet, ↓vSetO, ↓vAsg, ↓vAug, ↓vAppend, ↓vExt, ↓vUnp, ↓vFz, ↓vRet, ↓vRetN, ↓vDrop, ↓vIfS, ↓vNext, ↓vBrk, ↓vCnt, ↓vNever, ↓vForS, ↓vC, ↓vVar, ↓vTup, ↓vOf, ↓vBin, ↓vBinL, ↓vBinR, ↓vUn, ↓vCall, ↓vCallO, ↓vCallIO, ↓vCallSC, ↓vLookA, ↓vB, ↓vTru, ↓vTruO, ↓vAnd, ↓vOr, ↓vNot, ↓vAndV, ↓vOrV, ↓vNotV, ↓vIf, ↓vChain, ↓vNil, ↓vCons, ↓vSl, ↓vSlL, ↓vP0, ↓vP1, ↓vRevT, ↓vRevL, ↓vRevLL, ↓vBits, ↓vPop, ↓vLc, ↓vTurn, ↓vYes, ↓gN, ↓gT, ↓gsC, ↓gs0, ↓gSet, ↓wL, ↓wT, ↓wR1, ↓wR2, ↓d2, ↓d20, ↓dAdd, ↓dMul, ↓dEq, ↓dNe, ↓dIsN, ↓dNotN, ↓isN, ↓dNeg, ↓dIx, ↓dInI, ↓dSl, ↓truD, ↓cLen, ↓cAbs, ↓cMax2, ↓cMin2, ↓cInt, ↓cTup, ↓cLst, ↓sv, ↓List.getD_cons_zero, ↓List.getD_cons_succ, ↓List.set_cons_zero, ↓List.set_cons_succ, ↓vxSeq, ↓vxIf, ↓vxRaise, ↓vxRet, ↓vxAsg, ↓vxCall, ↓vReason, ↓vEqS]; exact h r hr⟩
/-! ### _law_draw -/
theorem atI_nat {α : Type} {ds : List α} {i : Int} (h : 0 ≤ i) : atI ds i = ds[i.toNat]? := by
  unfold atI ixN
  rw [if_pos h]
  by_cases h1 : i < ds.length
  · rw [if_pos h1]; rfl
  · rw [if_neg h1]
    rw [List.getElem?_eq_none (by omega)]
    rfl
theorem atI_neg1 {α : Type} {ds : List α} (h : ds ≠ []) : atI ds (-1) = some (ds.getLast h) := by
  have hp := List.length_pos_iff.mpr h
  unfold atI ixN
  rw [if_neg (by omega), if_pos (by omega)]
  have e : (-1 + (ds.length : Int)).toNat = ds.length - 1 := by omega
  rw [e, List.getLast_eq_getElem]
  show ds[ds.length - 1]? = _
  rw [List.getElem?_eq_getElem (by omega)]
theorem ixN_nat {n : Nat} {i : Int} (h : 0 ≤ i) (h1 : i < n) : ixN n i = some i.toNat := by
  unfold ixN
  rw [if_pos h, if_pos h1]
theorem hq__law_draw (xs ds : List D) (Q : List D → D → Prop) (h : sp__law_draw xs ds Q) : rd__law_draw (endIO Q) (ev1 ["box", "m", "digits", "at"] xs ds) := by
  obtain ⟨gs, at_, m, g, rfl, rfl, hm, h0, hg, h⟩ := h
  show rd__law_draw _ [.ow [.list (gs.map .int), .int at_], .fr (.int m), .un, .un]
  have hlt : at_ < ((gs.map PyData.int).length : Int) := by
    have := (List.getElem?_eq_some_iff.mp hg).1
    rw [List.length_map]
    omega
  simp only [↓rd__law_draw, ↓vSeq, ↓vPar, ↓vPar3, ↓vSet, ↓vSetO, ↓vAsg, ↓vAug, ↓vAppend, ↓vExt, ↓vUnp, ↓vFz, ↓vRet, ↓vRetN, ↓vDrop, ↓vIfS, ↓vNext, ↓vBrk, ↓vCnt, ↓vNever, ↓vForS, ↓vC, ↓vVar, ↓vTup, ↓vOf, ↓vBin, ↓vBinL, ↓vBinR, ↓vUn, ↓vCall, ↓vCallO, ↓vCallIO, ↓vCallSC, ↓vLookA, ↓vB, ↓vTru, ↓vTruO, ↓vAnd, ↓vOr, ↓vNot, ↓vAndV, ↓vOrV, ↓vNotV, ↓vIf, ↓vChain, ↓vNil, ↓vCons, ↓vSl, ↓vSlL, ↓vP0, ↓vP1, ↓vRevT, ↓vRevL, ↓vRevLL, ↓vBits, ↓vPop, ↓vLc, ↓vTurn, ↓vYes, ↓gN, ↓gT, ↓gsC, ↓gs0, ↓gSet, ↓wL, ↓wT, ↓wR1, ↓wR2, ↓d2, ↓d20, ↓dAdd, ↓dMul, ↓dEq, ↓dNe, ↓dIsN, ↓dNotN, ↓isN, ↓dNeg, ↓dIx, ↓dInI, ↓dSl, ↓truD, ↓cLen, ↓cAbs, ↓cMax2, ↓cMin2, ↓cInt, ↓cTup, ↓cLst, ↓sv, ↓List.getD_cons_zero, ↓List.getD_cons_succ, ↓List.set_cons_zero, ↓List.set_cons_succ, ↓vxSeq, ↓vxIf, ↓vxRaise, ↓vxRet, ↓vxAsg, ↓vxCall, ↓vReason, ↓vEqS]
  refine ⟨rfl, 1, rfl, ?_⟩
  simp only [↓vSeq, ↓vPar, ↓vPar3, ↓vSet, ↓vSetO, ↓vAsg, ↓vAug, ↓vAppend, ↓vExt, ↓vUnp, ↓vFz, ↓vRet, ↓vRetN, ↓vDrop, ↓vIfS, ↓vNext, ↓vBrk, ↓vCnt, ↓vNever, ↓vForS, ↓vC, ↓vVar, ↓vTup, ↓vOf, ↓vBin, ↓vBinL, ↓vBinR, ↓vUn, ↓vCall, ↓vCallO, ↓vCallIO, ↓vCallSC, ↓vLookA, ↓vB, ↓vTru, ↓vTruO, ↓vAnd, ↓vOr, ↓vNot, ↓vAndV, ↓vOrV, ↓vNotV, ↓vIf, ↓vChain, ↓vNil, ↓vCons, ↓vSl, ↓vSlL, ↓vP0, ↓vP1, ↓vRevT, ↓vRevL, ↓vRevLL, ↓vBits, ↓vPop, ↓vLc, ↓vTurn, ↓vYes, ↓gN, ↓gT, ↓gsC, ↓gs0, ↓gSet, ↓wL, ↓wT, ↓wR1, ↓wR2, ↓d2, ↓d20, ↓dAdd, ↓dMul, ↓dEq, ↓dNe, ↓dIsN, ↓dNotN, ↓isN, ↓dNeg, ↓dIx, ↓dInI, ↓dSl, ↓truD, ↓cLen, ↓cAbs, ↓cMax2, ↓cMin2, ↓cInt, ↓cTup, ↓cLst, ↓sv, ↓List.getD_cons_zero, ↓List.getD_cons_succ, ↓List.set_cons_zero, ↓List.set_cons_succ, ↓vxSeq, ↓vxIf, ↓vxRaise, ↓vxRet, ↓vxAsg, ↓vxCall, ↓vReason, ↓vEqS, Int.toNat_one, hlt, decide_true]
  rw [atI_nat h0, List.getElem?_map, hg]
  simp only [Option.map_some, ↓vSeq, ↓vPar, ↓vPar3, ↓vSet, ↓vSetO, ↓vAsg, ↓vAug, ↓vAppend, ↓vExt, ↓vUnp, ↓vFz, ↓vRet, ↓vRetN, ↓vDrop, ↓vIfS, ↓vNext, ↓vBrk, ↓vCnt, ↓vNever, ↓vForS, ↓vC, ↓vVar, ↓vTup, ↓vOf, ↓vBin, ↓vBinL, ↓vBinR, ↓vUn, ↓vCall, ↓vCallO, ↓vCallIO, ↓vCallSC, ↓vLookA, ↓vB, ↓vTru, ↓vTruO, ↓vAnd, ↓vOr, ↓vNot, ↓vAndV, ↓vOrV, ↓vNotV, ↓vIf, ↓vChain, ↓vNil, ↓vCons, ↓vSl, ↓vSlL, ↓vP0, ↓vP1, ↓vRevT, ↓vRevL, ↓vRevLL, ↓vBits, ↓vPop, ↓vLc, ↓vTurn, ↓vYes, ↓gN, ↓gT, ↓gsC, ↓gs0, ↓gSet, ↓wL, ↓wT, ↓wR1, ↓wR2, ↓d2, ↓d20, ↓dAdd, ↓dMul, ↓dEq, ↓dNe, ↓dIsN, ↓dNotN, ↓isN, ↓dNeg, ↓dIx, ↓dInI, ↓dSl, ↓truD, ↓cLen, ↓cAbs, ↓cMax2, ↓cMin2, ↓cInt, ↓cTup, ↓cLst, ↓sv, ↓List.getD_cons_zero, ↓List.getD_cons_succ, ↓List.set_cons_zero, ↓List.set_cons_succ, ↓vxSeq, ↓vxIf, ↓vxRaise, ↓vxRet, ↓vxAsg, ↓vxCall, ↓vReason, ↓vEqS]
  refine ⟨by omega, ?_⟩
  rw [fmod_pos (by omega)]
  exact h
/-! ### _law_digits -/
theorem dig_mod (x : Int) : 0 ≤ x.fmod 1009 ∧ x.fmod 1009 < 1009 := by rw [fmod_pos (by omega)]; omega
theorem digs_snoc {gs : List Int} {x : Int} (h : digsOk gs) (h2 : 0 ≤ x ∧ x < 1009) : digsOk (gs ++ [x]) := fun d hd => by
  rcases List.mem_append.mp hd with z | z
  · exact h d z
  · rw [List.mem_singleton.mp z]; exact h2
theorem digs_app {gs hs : List Int} (h : digsOk gs) (h2 : digsOk hs) : digsOk (gs ++ hs) := fun d hd => by
  rcases List.mem_append.mp hd with z | z
  · exact h d z
  · exact h2 d z
theorem map_snoc {gs : List Int} {x : Int} : gs.map PyData.int ++ [PyData.int x] = (gs ++ [x]).map PyData.int := by simp
theorem loop_f3 (Z : VEnds) (a0 a1 a2 a4 a5 a6 : SV) : ∀ (xs : List Int) (fs : List Int) (s : Int) (a7 : SV), digsOk fs → (∀ t ∈ xs, 0 ≤ t ∧ t < 64) → fs.length + xs.length ≤ 100000 →
    (∀ gs b7 b8, digsOk gs → gs.length = fs.length + xs.length → Z.nx [a0, a1, a2, .ow (gs.map .int), a4, a5, a6, b7, b8]) → vFor rd__law_digits_f3g rd__law_digits_f3b Z (xs.map .int) [a0, a1, a2, .ow (fs.map .int), a4, a5, a6, a7, .fr (.int s)] := by
  intro xs
  induction xs with
  | nil => intro fs s a7 hd hx hl hZ; exact hZ fs a7 _ hd rfl
  | cons t xs ih =>
    intro fs s a7 hd hx hl hZ
    obtain ⟨t1, t2⟩ := hx t (List.mem_cons_self ..)
    rw [List.length_cons] at hl
    rw [List.map_cons, vFor_cons]
    generalize hW : vFor rd__law_digits_f3g rd__law_digits_f3b Z (xs.map .int) = W
    simp only [↓rd__law_digits_f3g, ↓rd__law_digits_f3b, ↓vSeq, ↓vPar, ↓vPar3, ↓vSet, ↓vSetO, ↓vAsg, ↓vAug, ↓vAppend, ↓vExt, ↓vUnp, ↓vFz, ↓vRet, ↓vRetN, ↓vDrop, ↓vIfS, ↓vNext, ↓vBrk, ↓vCnt, ↓vNever, ↓vForS, ↓vC, ↓vVar, ↓vTup, ↓vOf, ↓vBin, ↓vBinL, ↓vBinR, ↓vUn, ↓vCall, ↓vCallO, ↓vCallIO, ↓vCallSC, ↓vLookA, ↓vB, ↓vTru, ↓vTruO, ↓vAnd, ↓vOr, ↓vNot, ↓vAndV, ↓vOrV, ↓vNotV, ↓vIf, ↓vChain, ↓vNil, ↓vCons, ↓vSl, ↓vSlL, ↓vP0, ↓vP1, ↓vRevT, ↓vRevL, ↓vRevLL, ↓vBits, ↓vPop, ↓vLc, ↓vTurn, ↓vYes, ↓gN, ↓gT, ↓gsC, ↓gs0, ↓gSet, ↓wL, ↓wT, ↓wR1, ↓wR2, ↓d2, ↓d20, ↓dAdd, ↓dMul, ↓dEq, ↓dNe, ↓dIsN, ↓dNotN, ↓isN, ↓dNeg, ↓dIx, ↓dInI, ↓dSl, ↓truD, ↓cLen, ↓cAbs, ↓cMax2, ↓cMin2, ↓cInt, ↓cTup, ↓cLst, ↓sv, ↓List.getD_cons_zero, ↓List.getD_cons_succ, ↓List.set_cons_zero, ↓List.set_cons_succ, ↓vxSeq, ↓vxIf, ↓vxRaise, ↓vxRet, ↓vxAsg, ↓vxCall, ↓vReason, ↓vEqS]
    refine ⟨mul_small (by omega), mul_small (by omega), by omega, div_small (by omega) (by omega), by omega, ?_, ?_⟩
    · rw [List.length_map, sizeLine_eq]; omega
    · rw [map_snoc, ← hW]
      refine ih _ _ _ (digs_snoc hd (dig_mod _)) (fun u hu => hx u (List.mem_cons_of_mem _ hu)) (by rw [List.length_append]; simp; omega) fun gs b7 b8 h1 h2 => hZ gs b7 b8 h1 (by rw [h2, List.length_append, List.length_cons]; simp; omega)
theorem loop_f2 (Z : VEnds) (a0 a1 a2 a4 a5 a8 : SV) : ∀ (xs : List Int) (fs : List Int) (n : Int) (j : Nat) (a7 : SV), digsOk fs → j ≤ xs.length → (j = 0 ∨ (1009 : Int) ^ (j - 1) ≤ n) → fs.length + xs.length ≤ 100000 →
    (∀ gs b6 b7, digsOk gs → fs.length + j ≤ gs.length → gs.length ≤ fs.length + xs.length → Z.nx [a0, a1, a2, .ow (gs.map .int), a4, a5, b6, b7, a8]) → vFor rd__law_digits_f2g rd__law_digits_f2b Z (xs.map .int) [a0, a1, a2, .ow (fs.map .int), a4, a5, .fr (.int n), a7, a8] := by
  intro xs
  induction xs with
  | nil => intro fs n j a7 hd hj hn hl hZ; exact hZ fs _ a7 hd (by simp at hj; omega) (by simp)
  | cons t xs ih =>
    intro fs n j a7 hd hj hn hl hZ
    rw [List.length_cons] at hl hj
    rw [List.map_cons, vFor_cons]
    generalize hW : vFor rd__law_digits_f2g rd__law_digits_f2b Z (xs.map .int) = W
    simp only [↓rd__law_digits_f2g, ↓rd__law_digits_f2b, ↓vSeq, ↓vPar, ↓vPar3, ↓vSet, ↓vSetO, ↓vAsg, ↓vAug, ↓vAppend, ↓vExt, ↓vUnp, ↓vFz, ↓vRet, ↓vRetN, ↓vDrop, ↓vIfS, ↓vNext, ↓vBrk, ↓vCnt, ↓vNever, ↓vForS, ↓vC, ↓vVar, ↓vTup, ↓vOf, ↓vBin, ↓vBinL, ↓vBinR, ↓vUn, ↓vCall, ↓vCallO, ↓vCallIO, ↓vCallSC, ↓vLookA, ↓vB, ↓vTru, ↓vTruO, ↓vAnd, ↓vOr, ↓vNot, ↓vAndV, ↓vOrV, ↓vNotV, ↓vIf, ↓vChain, ↓vNil, ↓vCons, ↓vSl, ↓vSlL, ↓vP0, ↓vP1, ↓vRevT, ↓vRevL, ↓vRevLL, ↓vBits, ↓vPop, ↓vLc, ↓vTurn, ↓vYes, ↓gN, ↓gT, ↓gsC, ↓gs0, ↓gSet, ↓wL, ↓wT, ↓wR1, ↓wR2, ↓d2, ↓d20, ↓dAdd, ↓dMul, ↓dEq, ↓dNe, ↓dIsN, ↓dNotN, ↓isN, ↓dNeg, ↓dIx, ↓dInI, ↓dSl, ↓truD, ↓cLen, ↓cAbs, ↓cMax2, ↓cMin2, ↓cInt, ↓cTup, ↓cLst, ↓sv, ↓List.getD_cons_zero, ↓List.getD_cons_succ, ↓List.set_cons_zero, ↓List.set_cons_succ, ↓vxSeq, ↓vxIf, ↓vxRaise, ↓vxRet, ↓vxAsg, ↓vxCall, ↓vReason, ↓vEqS]
    by_cases h : 0 < n
    · simp only [h, decide_true, ↓vSeq, ↓vPar, ↓vPar3, ↓vSet, ↓vSetO, ↓vAsg, ↓vAug, ↓vAppend, ↓vExt, ↓vUnp, ↓vFz, ↓vRet, ↓vRetN, ↓vDrop, ↓vIfS, ↓vNext, ↓vBrk, ↓vCnt, ↓vNever, ↓vForS, ↓vC, ↓vVar, ↓vTup, ↓vOf, ↓vBin, ↓vBinL, ↓vBinR, ↓vUn, ↓vCall, ↓vCallO, ↓vCallIO, ↓vCallSC, ↓vLookA, ↓vB, ↓vTru, ↓vTruO, ↓vAnd, ↓vOr, ↓vNot, ↓vAndV, ↓vOrV, ↓vNotV, ↓vIf, ↓vChain, ↓vNil, ↓vCons, ↓vSl, ↓vSlL, ↓vP0, ↓vP1, ↓vRevT, ↓vRevL, ↓vRevLL, ↓vBits, ↓vPop, ↓vLc, ↓vTurn, ↓vYes, ↓gN, ↓gT, ↓gsC, ↓gs0, ↓gSet, ↓wL, ↓wT, ↓wR1, ↓wR2, ↓d2, ↓d20, ↓dAdd, ↓dMul, ↓dEq, ↓dNe, ↓dIsN, ↓dNotN, ↓isN, ↓dNeg, ↓dIx, ↓dInI, ↓dSl, ↓truD, ↓cLen, ↓cAbs, ↓cMax2, ↓cMin2, ↓cInt, ↓cTup, ↓cLst, ↓sv, ↓List.getD_cons_zero, ↓List.getD_cons_succ, ↓List.set_cons_zero, ↓List.set_cons_succ, ↓vxSeq, ↓vxIf, ↓vxRaise, ↓vxRet, ↓vxAsg, ↓vxCall, ↓vReason, ↓vEqS]
      refine ⟨by omega, by rw [List.length_map, sizeLine_eq]; omega, div_small (by omega) (by omega), ?_⟩
      rw [map_snoc, ← hW]
      refine ih _ _ (j - 1) _ (digs_snoc hd (dig_mod _)) (by omega) ?_ (by rw [List.length_append]; simp; omega) fun gs b6 b7 h1 h2 h3 => hZ gs b6 b7 h1 (by rw [List.length_append] at h2; simp at h2; omega) (by rw [List.length_append] at h3; rw [List.length_cons]; simp at h3; omega)
      rcases hn with z | z
      · exact .inl (by omega)
      · by_cases h2 : j ≤ 1
        · exact .inl (by omega)
        · refine .inr ?_
          rw [fdiv_pos (by omega), Int.le_ediv_iff_mul_le (by omega)]
          have e : j - 1 = (j - 1 - 1) + 1 := by omega
          rw [e, Int.pow_succ] at z
          exact z
    · simp only [h, decide_false, ↓vSeq, ↓vPar, ↓vPar3, ↓vSet, ↓vSetO, ↓vAsg, ↓vAug, ↓vAppend, ↓vExt, ↓vUnp, ↓vFz, ↓vRet, ↓vRetN, ↓vDrop, ↓vIfS, ↓vNext, ↓vBrk, ↓vCnt, ↓vNever, ↓vForS, ↓vC, ↓vVar, ↓vTup, ↓vOf, ↓vBin, ↓vBinL, ↓vBinR, ↓vUn, ↓vCall, ↓vCallO, ↓vCallIO, ↓vCallSC, ↓vLookA, ↓vB, ↓vTru, ↓vTruO, ↓vAnd, ↓vOr, ↓vNot, ↓vAndV, ↓vOrV, ↓vNotV, ↓vIf, ↓vChain, ↓vNil, ↓vCons, ↓vSl, ↓vSlL, ↓vP0, ↓vP1, ↓vRevT, ↓vRevL, ↓vRevLL, ↓vBits, ↓vPop, ↓vLc, ↓vTurn, ↓vYes, ↓gN, ↓gT, ↓gsC, ↓gs0, ↓gSet, ↓wL, ↓wT, ↓wR1, ↓wR2, ↓d2, ↓d20, ↓dAdd, ↓dMul, ↓dEq, ↓dNe, ↓dIsN, ↓dNotN, ↓isN, ↓dNeg, ↓dIx, ↓dInI, ↓dSl, ↓truD, ↓cLen, ↓cAbs, ↓cMax2, ↓cMin2, ↓cInt, ↓cTup, ↓cLst, ↓sv, ↓List.getD_cons_zero, ↓List.getD_cons_succ, ↓List.set_cons_zero, ↓List.set_cons_succ, ↓vxSeq, ↓vxIf, ↓vxRaise, ↓vxRet, ↓vxAsg, ↓vxCall, ↓vReason, ↓vEqS]
      rw [← hW]
      have hj0 : j = 0 := by
        rcases hn with z | z
        · exact z
        · have : (0 : Int) < 1009 ^ (j - 1) := Int.pow_pos (by omega)
          omega
      exact ih _ _ j _ hd (by omega) (.inl hj0) (by omega) fun gs b6 b7 h1 h2 h3 => hZ gs b6 b7 h1 h2 (by rw [List.length_cons]; omega)
theorem rngD_map (lo : Int) (n : Nat) : rngD lo n = ((List.range n).map fun i => lo + (i : Nat)).map PyData.int := by
  unfold rngD; rw [List.map_map]; rfl
theorem loop_f1 (Z : VEnds) (ns : List Int) (a1 a2 : SV) : ∀ (xs : List Int) (fs : List Int) (a4 a5 a6 a7 a8 : SV), digsOk fs → (∀ t ∈ xs, 0 ≤ t ∧ t < 64) → fs.length + 60 * xs.length ≤ 10000 →
    (∀ gs b4 b5 b6 b7 b8, digsOk gs → fs.length + 6 * xs.length ≤ gs.length → Z.nx [.rw ns, a1, a2, .ow (gs.map .int), b4, b5, b6, b7, b8]) → vFor rd__law_digits_f1g rd__law_digits_f1b Z (xs.map .int) [.rw ns, a1, a2, .ow (fs.map .int), a4, a5, a6, a7, a8] := by
  intro xs
  induction xs with
  | nil => intro fs a4 a5 a6 a7 a8 hd hx hl hZ; exact hZ fs a4 a5 a6 a7 a8 hd (by simp)
  | cons t xs ih =>
    intro fs a4 a5 a6 a7 a8 hd hx hl hZ
    obtain ⟨t1, t2⟩ := hx t (List.mem_cons_self ..)
    rw [List.length_cons] at hl
    rw [List.map_cons, vFor_cons]
    generalize hW : vFor rd__law_digits_f1g rd__law_digits_f1b Z (xs.map .int) = W
    have go : ∀ gs b4 b5 b6 b7 b8, digsOk gs → fs.length + 6 ≤ gs.length → gs.length ≤ fs.length + 60 → W [.rw ns, a1, a2, .ow (gs.map .int), b4, b5, b6, b7, b8] := fun gs b4 b5 b6 b7 b8 h1 h2 h3 => by
      rw [← hW]
      exact ih gs b4 b5 b6 b7 b8 h1 (fun u hu => hx u (List.mem_cons_of_mem _ hu)) (by omega) fun hs c4 c5 c6 c7 c8 g1 g2 => hZ hs c4 c5 c6 c7 c8 g1 (by rw [List.length_cons]; omega)
    -- the rest of a turn, c known not to be negative
    have rest : ∀ c : Int, 0 ≤ c → (vIfS (vB (vBin (d20 fun i j => .bool (decide (j ≤ i))) (vVar 5) (vBin (d2 shlOk fun i j => .int (i ^ j.toNat)) (vC (.int 10)) (vC (.int 18))))) (vSeq (vSet 6 (vVar 5))
        (vForS (wR1 (vC (.int 60))) rd__law_digits_f2g rd__law_digits_f2b)) (vSeq (vSet 8 (vBin (d2 (fun _ j => j ≠ 0) fun i j => .int (i.fmod j)) (vBin dAdd (vBin dAdd (vBin dMul (vVar 5) (vC (.int 48271))) (vBin dMul (vCall cInt (vCons (vBin dAdd (vVar 4) (vC (.int 1))) vNil)) (vC (.int 69621)))) (vC (.int 11))) (vC (.int 2147483647))))
        (vForS (wR1 (vC (.int 12))) rd__law_digits_f3g rd__law_digits_f3b))) { nx := W, rt := Z.rt, bk := Z.nx, ct := W } [.rw ns, a1, a2, .ow (fs.map .int), .fr (.int t), .fr (.int c), a6, a7, a8] := fun c hc => by
      have hp : (10 : Int) ^ (18 : Int).toNat = 1000000000000000000 := by decide +kernel
      simp only [↓vSeq, ↓vPar, ↓vPar3, ↓vSet, ↓vSetO, ↓vAsg, ↓vAug, ↓vAppend, ↓vExt, ↓vUnp, ↓vFz, ↓vRet, ↓vRetN, ↓vDrop, ↓vIfS, ↓vNext, ↓vBrk, ↓vCnt, ↓vNever, ↓vForS, ↓vC, ↓vVar, ↓vTup, ↓vOf, ↓vBin, ↓vBinL, ↓vBinR, ↓vUn, ↓vCall, ↓vCallO, ↓vCallIO, ↓vCallSC, ↓vLookA, ↓vB, ↓vTru, ↓vTruO, ↓vAnd, ↓vOr, ↓vNot, ↓vAndV, ↓vOrV, ↓vNotV, ↓vIf, ↓vChain, ↓vNil, ↓vCons, ↓vSl, ↓vSlL, ↓vP0, ↓vP1, ↓vRevT, ↓vRevL, ↓vRevLL, ↓vBits, ↓vPop, ↓vLc, ↓vTurn, ↓vYes, ↓gN, ↓gT, ↓gsC, ↓gs0, ↓gSet, ↓wL, ↓wT, ↓wR1, ↓wR2, ↓d2, ↓d20, ↓dAdd, ↓dMul, ↓dEq, ↓dNe, ↓dIsN, ↓dNotN, ↓isN, ↓dNeg, ↓dIx, ↓dInI, ↓dSl, ↓truD, ↓cLen, ↓cAbs, ↓cMax2, ↓cMin2, ↓cInt, ↓cTup, ↓cLst, ↓sv, ↓List.getD_cons_zero, ↓List.getD_cons_succ, ↓List.set_cons_zero, ↓List.set_cons_succ, ↓vxSeq, ↓vxIf, ↓vxRaise, ↓vxRet, ↓vxAsg, ↓vxCall, ↓vReason, ↓vEqS, hp]
      refine ⟨⟨by omega, by omega, by omega, by omega⟩, ?_⟩
      by_cases h : (1000000000000000000 : Int) ≤ c
      · simp only [h, decide_true, ↓vSeq, ↓vPar, ↓vPar3, ↓vSet, ↓vSetO, ↓vAsg, ↓vAug, ↓vAppend, ↓vExt, ↓vUnp, ↓vFz, ↓vRet, ↓vRetN, ↓vDrop, ↓vIfS, ↓vNext, ↓vBrk, ↓vCnt, ↓vNever, ↓vForS, ↓vC, ↓vVar, ↓vTup, ↓vOf, ↓vBin, ↓vBinL, ↓vBinR, ↓vUn, ↓vCall, ↓vCallO, ↓vCallIO, ↓vCallSC, ↓vLookA, ↓vB, ↓vTru, ↓vTruO, ↓vAnd, ↓vOr, ↓vNot, ↓vAndV, ↓vOrV, ↓vNotV, ↓vIf, ↓vChain, ↓vNil, ↓vCons, ↓vSl, ↓vSlL, ↓vP0, ↓vP1, ↓vRevT, ↓vRevL, ↓vRevLL, ↓vBits, ↓vPop, ↓vLc, ↓vTurn, ↓vYes, ↓gN, ↓gT, ↓gsC, ↓gs0, ↓gSet, ↓wL, ↓wT, ↓wR1, ↓wR2, ↓d2, ↓d20, ↓dAdd, ↓dMul, ↓dEq, ↓dNe, ↓dIsN, ↓dNotN, ↓isN, ↓dNeg, ↓dIx, ↓dInI, ↓dSl, ↓truD, ↓cLen, ↓cAbs, ↓cMax2, ↓cMin2, ↓cInt, ↓cTup, ↓cLst, ↓sv, ↓List.getD_cons_zero, ↓List.getD_cons_succ, ↓List.set_cons_zero, ↓List.set_cons_succ, ↓vxSeq, ↓vxIf, ↓vxRaise, ↓vxRet, ↓vxAsg, ↓vxCall, ↓vReason, ↓vEqS]
        refine ⟨by decide +kernel, ?_⟩
        rw [rngD_map]
        refine loop_f2 _ _ _ _ _ _ _ _ fs c 6 _ hd (by simp) (.inr ?_) (by simp; omega) fun gs b6 b7 h1 h2 h3 => go gs _ _ _ _ _ h1 h2 (by simpa using h3)
        have : (1009 : Int) ^ (6 - 1) ≤ 1000000000000000000 := by decide +kernel
        omega
      · simp only [h, decide_false, ↓vSeq, ↓vPar, ↓vPar3, ↓vSet, ↓vSetO, ↓vAsg, ↓vAug, ↓vAppend, ↓vExt, ↓vUnp, ↓vFz, ↓vRet, ↓vRetN, ↓vDrop, ↓vIfS, ↓vNext, ↓vBrk, ↓vCnt, ↓vNever, ↓vForS, ↓vC, ↓vVar, ↓vTup, ↓vOf, ↓vBin, ↓vBinL, ↓vBinR, ↓vUn, ↓vCall, ↓vCallO, ↓vCallIO, ↓vCallSC, ↓vLookA, ↓vB, ↓vTru, ↓vTruO, ↓vAnd, ↓vOr, ↓vNot, ↓vAndV, ↓vOrV, ↓vNotV, ↓vIf, ↓vChain, ↓vNil, ↓vCons, ↓vSl, ↓vSlL, ↓vP0, ↓vP1, ↓vRevT, ↓vRevL, ↓vRevLL, ↓vBits, ↓vPop, ↓vLc, ↓vTurn, ↓vYes, ↓gN, ↓gT, ↓gsC, ↓gs0, ↓gSet, ↓wL, ↓wT, ↓wR1, ↓wR2, ↓d2, ↓d20, ↓dAdd, ↓dMul, ↓dEq, ↓dNe, ↓dIsN, ↓dNotN, ↓isN, ↓dNeg, ↓dIx, ↓dInI, ↓dSl, ↓truD, ↓cLen, ↓cAbs, ↓cMax2, ↓cMin2, ↓cInt, ↓cTup, ↓cLst, ↓sv, ↓List.getD_cons_zero, ↓List.getD_cons_succ, ↓List.set_cons_zero, ↓List.set_cons_succ, ↓vxSeq, ↓vxIf, ↓vxRaise, ↓vxRet, ↓vxAsg, ↓vxCall, ↓vReason, ↓vEqS]
        refine ⟨mul_small (by omega), mul_small (by omega), by omega, by decide +kernel, ?_⟩
        rw [rngD_map]
        refine loop_f3 _ _ _ _ _ _ _ _ fs _ _ hd (fun u hu => ?_) (by simp; omega) fun gs b7 b8 h1 h2 => go gs _ _ _ _ _ h1 (by simp at h2; omega) (by simp at h2; omega)
        obtain ⟨i, hi, rfl⟩ := List.mem_map.mp hu
        have := List.mem_range.mp hi
        omega
    simp only [↓rd__law_digits_f1g, ↓rd__law_digits_f1b, ↓vSeq, ↓gN, ↓vSet, ↓vCallSC, ↓sp__law_cell, ↓vSeq, ↓vPar, ↓vPar3, ↓vSet, ↓vSetO, ↓vAsg, ↓vAug, ↓vAppend, ↓vExt, ↓vUnp, ↓vFz, ↓vRet, ↓vRetN, ↓vDrop, ↓vIfS, ↓vNext, ↓vBrk, ↓vCnt, ↓vNever, ↓vForS, ↓vC, ↓vVar, ↓vTup, ↓vOf, ↓vBin, ↓vBinL, ↓vBinR, ↓vUn, ↓vCall, ↓vCallO, ↓vCallIO, ↓vCallSC, ↓vLookA, ↓vB, ↓vTru, ↓vTruO, ↓vAnd, ↓vOr, ↓vNot, ↓vAndV, ↓vOrV, ↓vNotV, ↓vIf, ↓vChain, ↓vNil, ↓vCons, ↓vSl, ↓vSlL, ↓vP0, ↓vP1, ↓vRevT, ↓vRevL, ↓vRevLL, ↓vBits, ↓vPop, ↓vLc, ↓vTurn, ↓vYes, ↓gN, ↓gT, ↓gsC, ↓gs0, ↓gSet, ↓wL, ↓wT, ↓wR1, ↓wR2, ↓d2, ↓d20, ↓dAdd, ↓dMul, ↓dEq, ↓dNe, ↓dIsN, ↓dNotN, ↓isN, ↓dNeg, ↓dIx, ↓dInI, ↓dSl, ↓truD, ↓cLen, ↓cAbs, ↓cMax2, ↓cMin2, ↓cInt, ↓cTup, ↓cLst, ↓sv, ↓List.getD_cons_zero, ↓List.getD_cons_succ, ↓List.set_cons_zero, ↓List.set_cons_succ, ↓vxSeq, ↓vxIf, ↓vxRaise, ↓vxRet, ↓vxAsg, ↓vxCall, ↓vReason, ↓vEqS] at rest ⊢
    refine ⟨t1, ?_⟩
    generalize cellOf ns t.toNat = c
    by_cases h : c < 0
    · simp only [h, decide_true, ↓vSeq, ↓vPar, ↓vPar3, ↓vSet, ↓vSetO, ↓vAsg, ↓vAug, ↓vAppend, ↓vExt, ↓vUnp, ↓vFz, ↓vRet, ↓vRetN, ↓vDrop, ↓vIfS, ↓vNext, ↓vBrk, ↓vCnt, ↓vNever, ↓vForS, ↓vC, ↓vVar, ↓vTup, ↓vOf, ↓vBin, ↓vBinL, ↓vBinR, ↓vUn, ↓vCall, ↓vCallO, ↓vCallIO, ↓vCallSC, ↓vLookA, ↓vB, ↓vTru, ↓vTruO, ↓vAnd, ↓vOr, ↓vNot, ↓vAndV, ↓vOrV, ↓vNotV, ↓vIf, ↓vChain, ↓vNil, ↓vCons, ↓vSl, ↓vSlL, ↓vP0, ↓vP1, ↓vRevT, ↓vRevL, ↓vRevLL, ↓vBits, ↓vPop, ↓vLc, ↓vTurn, ↓vYes, ↓gN, ↓gT, ↓gsC, ↓gs0, ↓gSet, ↓wL, ↓wT, ↓wR1, ↓wR2, ↓d2, ↓d20, ↓dAdd, ↓dMul, ↓dEq, ↓dNe, ↓dIsN, ↓dNotN, ↓isN, ↓dNeg, ↓dIx, ↓dInI, ↓dSl, ↓truD, ↓cLen, ↓cAbs, ↓cMax2, ↓cMin2, ↓cInt, ↓cTup, ↓cLst, ↓sv, ↓List.getD_cons_zero, ↓List.getD_cons_succ, ↓List.set_cons_zero, ↓List.set_cons_succ, ↓vxSeq, ↓vxIf, ↓vxRaise, ↓vxRet, ↓vxAsg, ↓vxCall, ↓vReason, ↓vEqS]
      exact ⟨mul_small (by omega), rest _ (by omega)⟩
    · simp only [h, decide_false, ↓vSeq, ↓vPar, ↓vPar3, ↓vSet, ↓vSetO, ↓vAsg, ↓vAug, ↓vAppend, ↓vExt, ↓vUnp, ↓vFz, ↓vRet, ↓vRetN, ↓vDrop, ↓vIfS, ↓vNext, ↓vBrk, ↓vCnt, ↓vNever, ↓vForS, ↓vC, ↓vVar, ↓vTup, ↓vOf, ↓vBin, ↓vBinL, ↓vBinR, ↓vUn, ↓vCall, ↓vCallO, ↓vCallIO, ↓vCallSC, ↓vLookA, ↓vB, ↓vTru, ↓vTruO, ↓vAnd, ↓vOr, ↓vNot, ↓vAndV, ↓vOrV, ↓vNotV, ↓vIf, ↓vChain, ↓vNil, ↓vCons, ↓vSl, ↓vSlL, ↓vP0, ↓vP1, ↓vRevT, ↓vRevL, ↓vRevLL, ↓vBits, ↓vPop, ↓vLc, ↓vTurn, ↓vYes, ↓gN, ↓gT, ↓gsC, ↓gs0, ↓gSet, ↓wL, ↓wT, ↓wR1, ↓wR2, ↓d2, ↓d20, ↓dAdd, ↓dMul, ↓dEq, ↓dNe, ↓dIsN, ↓dNotN, ↓isN, ↓dNeg, ↓dIx, ↓dInI, ↓dSl, ↓truD, ↓cLen, ↓cAbs, ↓cMax2, ↓cMin2, ↓cInt, ↓cTup, ↓cLst, ↓sv, ↓List.getD_cons_zero, ↓List.getD_cons_succ, ↓List.set_cons_zero, ↓List.set_cons_succ, ↓vxSeq, ↓vxIf, ↓vxRaise, ↓vxRet, ↓vxAsg, ↓vxCall, ↓vReason, ↓vEqS]
      exact rest _ (by omega)
theorem hq__law_digits (ns : List Int) (ds : List D) (Q : D → Prop) (h : sp__law_digits ns ds Q) : rd__law_digits { nx := fun _ => Q .none, rt := fun d _ => Q d } (evS ["script", "first", "last", "found", "k", "c", "n", "turn", "s"] ns ds) := by
  obtain ⟨lo, hi, rfl, h0, h1, h2, h⟩ := h
  show rd__law_digits _ [.rw ns, .fr (.int lo), .fr (.int hi), .un, .un, .un, .un, .un, .un]
  simp only [↓rd__law_digits, ↓vSeq, ↓vPar, ↓vPar3, ↓vSet, ↓vSetO, ↓vAsg, ↓vAug, ↓vAppend, ↓vExt, ↓vUnp, ↓vFz, ↓vRet, ↓vRetN, ↓vDrop, ↓vIfS, ↓vNext, ↓vBrk, ↓vCnt, ↓vNever, ↓vForS, ↓vC, ↓vVar, ↓vTup, ↓vOf, ↓vBin, ↓vBinL, ↓vBinR, ↓vUn, ↓vCall, ↓vCallO, ↓vCallIO, ↓vCallSC, ↓vLookA, ↓vB, ↓vTru, ↓vTruO, ↓vAnd, ↓vOr, ↓vNot, ↓vAndV, ↓vOrV, ↓vNotV, ↓vIf, ↓vChain, ↓vNil, ↓vCons, ↓vSl, ↓vSlL, ↓vP0, ↓vP1, ↓vRevT, ↓vRevL, ↓vRevLL, ↓vBits, ↓vPop, ↓vLc, ↓vTurn, ↓vYes, ↓gN, ↓gT, ↓gsC, ↓gs0, ↓gSet, ↓wL, ↓wT, ↓wR1, ↓wR2, ↓d2, ↓d20, ↓dAdd, ↓dMul, ↓dEq, ↓dNe, ↓dIsN, ↓dNotN, ↓isN, ↓dNeg, ↓dIx, ↓dInI, ↓dSl, ↓truD, ↓cLen, ↓cAbs, ↓cMax2, ↓cMin2, ↓cInt, ↓cTup, ↓cLst, ↓sv, ↓List.getD_cons_zero, ↓List.getD_cons_succ, ↓List.set_cons_zero, ↓List.set_cons_succ, ↓vxSeq, ↓vxIf, ↓vxRaise, ↓vxRet, ↓vxAsg, ↓vxCall, ↓vReason, ↓vEqS]
  refine ⟨by omega, ?_⟩
  rw [rngD_map]
  refine loop_f1 _ ns _ _ _ [] _ _ _ _ _ (fun d hd => by cases hd) (fun u hu => ?_) (by simp; omega) fun gs b4 b5 b6 b7 b8 g1 g2 => ?_
  · obtain ⟨i, hi, rfl⟩ := List.mem_map.mp hu
    have := List.mem_range.mp hi
    omega
  · simp only [↓vSeq, ↓vPar, ↓vPar3, ↓vSet, ↓vSetO, ↓vAsg, ↓vAug, ↓vAppend, ↓vExt, ↓vUnp, ↓vFz, ↓vRet, ↓vRetN, ↓vDrop, ↓vIfS, ↓vNext, ↓vBrk, ↓vCnt, ↓vNever, ↓vForS, ↓vC, ↓vVar, ↓vTup, ↓vOf, ↓vBin, ↓vBinL, ↓vBinR, ↓vUn, ↓vCall, ↓vCallO, ↓vCallIO, ↓vCallSC, ↓vLookA, ↓vB, ↓vTru, ↓vTruO, ↓vAnd, ↓vOr, ↓vNot, ↓vAndV, ↓vOrV, ↓vNotV, ↓vIf, ↓vChain, ↓vNil, ↓vCons, ↓vSl, ↓vSlL, ↓vP0, ↓vP1, ↓vRevT, ↓vRevL, ↓vRevLL, ↓vBits, ↓vPop, ↓vLc, ↓vTurn, ↓vYes, ↓gN, ↓gT, ↓gsC, ↓gs0, ↓gSet, ↓wL, ↓wT, ↓wR1, ↓wR2, ↓d2, ↓d20, ↓dAdd, ↓dMul, ↓dEq, ↓dNe, ↓dIsN, ↓dNotN, ↓isN, ↓dNeg, ↓dIx, ↓dInI, ↓dSl, ↓truD, ↓cLen, ↓cAbs, ↓cMax2, ↓cMin2, ↓cInt, ↓cTup, ↓cLst, ↓sv, ↓List.getD_cons_zero, ↓List.getD_cons_succ, ↓List.set_cons_zero, ↓List.set_cons_succ, ↓vxSeq, ↓vxIf, ↓vxRaise, ↓vxRet, ↓vxAsg, ↓vxCall, ↓vReason, ↓vEqS]
    exact h gs g1 (by simp at g2; omega)
/-! ### data compared -/
mutual
def plD : D → Bool
  | .int _ => true
  | .none => true
  | .list xs => plAll xs
  | .tuple xs => plAll xs
  | _ => false
def plAll : List D → Bool
  | [] => true
  | x :: xs => plD x && plAll xs
end
mutual
theorem pl_lay : ∀ d : D, plD d = true → d.canLay0 = true
  | .int _, _ => rfl
  | .none, _ => rfl
  | .list xs, h => plAll_lay xs h
  | .tuple xs, h => plAll_lay xs h
  | .bool _, h => nomatch h
  | .str _, h => nomatch h
  | .dict _, h => nomatch h
theorem plAll_lay : ∀ xs : List D, plAll xs = true → PyData.canLayAll0 xs = true
  | [], _ => rfl
  | x :: xs, h => by
    have h' : plD x = true ∧ plAll xs = true := by simpa [plAll] using h
    show (x.canLay0 && PyData.canLayAll0 xs) = true
    rw [pl_lay x h'.1, plAll_lay xs h'.2]; rfl
end
mutual
theorem pl_eqv : ∀ d e : D, plD d = true → plD e = true → (PyData.eqv d e = true ↔ d = e)
  | .int i, .int j, _, _ => by simp [PyData.eqv]
  | .none, .none, _, _ => by simp [PyData.eqv]
  | .list xs, .list ys, h, k => by
    rw [PyData.eqv, plAll_eqv xs ys h k]; simp
  | .tuple xs, .tuple ys, h, k => by
    rw [PyData.eqv, plAll_eqv xs ys h k]; simp
  | .int _, .none, _, _ => by simp [PyData.eqv]
  | .int _, .list _, _, _ => by simp [PyData.eqv]
  | .int _, .tuple _, _, _ => by simp [PyData.eqv]
  | .none, .int _, _, _ => by simp [PyData.eqv]
  | .none, .list _, _, _ => by simp [PyData.eqv]
  | .none, .tuple _, _, _ => by simp [PyData.eqv]
  | .list _, .int _, _, _ => by simp [PyData.eqv]
  | .list _, .none, _, _ => by simp [PyData.eqv]
  | .list _, .tuple _, _, _ => by simp [PyData.eqv]
  | .tuple _, .int _, _, _ => by simp [PyData.eqv]
  | .tuple _, .none, _, _ => by simp [PyData.eqv]
  | .tuple _, .list _, _, _ => by simp [PyData.eqv]
  | .bool _, _, h, _ => nomatch h
  | .str _, _, h, _ => nomatch h
  | .dict _, _, h, _ => nomatch h
  | .int _, .bool _, _, k => nomatch k
  | .int _, .str _, _, k => nomatch k
  | .int _, .dict _, _, k => nomatch k
  | .none, .bool _, _, k => nomatch k
  | .none, .str _, _, k => nomatch k
  | .none, .dict _, _, k => nomatch k
  | .list _, .bool _, _, k => nomatch k
  | .list _, .str _, _, k => nomatch k
  | .list _, .dict _, _, k => nomatch k
  | .tuple _, .bool _, _, k => nomatch k
  | .tuple _, .str _, _, k => nomatch k
  | .tuple _, .dict _, _, k => nomatch k
theorem plAll_eqv : ∀ xs ys : List D, plAll xs = true → plAll ys = true → (PyData.eqvAll xs ys = true ↔ xs = ys)
  | [], [], _, _ => by simp [PyData.eqvAll]
  | [], _ :: _, _, _ => by simp [PyData.eqvAll]
  | _ :: _, [], _, _ => by simp [PyData.eqvAll]
  | x :: xs, y :: ys, h, k => by
    have h' : plD x = true ∧ plAll xs = true := by simpa [plAll] using h
    have k' : plD y = true ∧ plAll ys = true := by simpa [plAll] using k
    rw [PyData.eqvAll, Bool.and_eq_true, pl_eqv x y h'.1 k'.1, plAll_eqv xs ys h'.2 k'.2]
    simp
end
theorem plAll_iff {xs : List D} : plAll xs = true ↔ ∀ x ∈ xs, plD x = true := by
  induction xs with
  | nil => simp [plAll]
  | cons x xs ih => simp [plAll, ih]
theorem depthAll_le {xs : List D} {n : Nat} : PyData.depthAll xs ≤ n ↔ ∀ x ∈ xs, PyData.depth x ≤ n := by
  induction xs with
  | nil => simp [PyData.depthAll]
  | cons x xs ih => simp [PyData.depthAll, Nat.max_le, ih]
theorem shaped_pl {d : D} (h : plD d = true) (k : PyData.depth d ≤ 64) : SeqAt.shaped d = true := by
  unfold SeqAt.shaped
  rw [pl_lay d h, decide_eq_true k]; rfl
theorem eqv_same {d e : D} (h : plD d = true) (k : plD e = true) (q : d = e) : PyData.eqv d e = true := (pl_eqv d e h k).mpr q
theorem eqv_other {d e : D} (h : plD d = true) (k : plD e = true) (q : d ≠ e) : PyData.eqv d e = false := by
  cases z : PyData.eqv d e with
  | false => rfl
  | true => exact absurd ((pl_eqv d e h k).mp z) q
theorem plAll_ints (xs : List Int) : plAll (xs.map PyData.int) = true := plAll_iff.mpr fun x hx => by
  obtain ⟨i, _, rfl⟩ := List.mem_map.mp hx
  rfl
theorem map_int_inj {xs ys : List Int} : xs.map PyData.int = ys.map PyData.int ↔ xs = ys := by
  constructor
  · intro h
    exact List.map_inj_right (fun a b e => by cases e; rfl) |>.mp h
  · intro h; rw [h]
theorem depth_ints (xs : List Int) : PyData.depthAll (xs.map PyData.int) ≤ 0 := depthAll_le.mpr fun x hx => by
  obtain ⟨i, _, rfl⟩ := List.mem_map.mp hx
  exact Nat.le_refl _
/-! ### slices -/
theorem sIx_some (n d : Nat) (v : Int) : HT.sIx n d (some v) = if v < 0 then (v + (n : Int)).toNat else min v.toNat n := rfl
theorem cut_init {xs : List D} : cutD xs none (some (-1)) = xs.dropLast := by
  unfold cutD
  rw [sIx_some, HT.sIx_none, List.drop_zero, if_pos (by omega), List.dropLast_eq_take]
  congr 1
  omega
theorem cut_tail {xs : List D} : cutD xs (some 1) none = xs.drop 1 := by
  unfold cutD
  rw [sIx_some, HT.sIx_none, if_neg (by omega)]
  by_cases h : xs = []
  · subst h; rfl
  · have hp := List.length_pos_iff.mpr h
    have e : min (Int.toNat 1) xs.length = 1 := by simp; omega
    rw [e, List.take_of_length_le (by rw [List.length_drop]; omega)]
theorem cut_take {xs : List D} {m : Int} (h : 0 ≤ m) : cutD xs none (some m) = xs.take m.toNat := by
  unfold cutD
  rw [sIx_some, HT.sIx_none, if_neg (by omega), List.drop_zero, Nat.sub_zero]
  by_cases z : m.toNat ≤ xs.length
  · rw [Nat.min_eq_left z]
  · rw [Nat.min_eq_right (by omega), List.take_of_length_le (Nat.le_refl _), List.take_of_length_le (by omega)]
end VL

set_option Elab.async false
set_option linter.all false
set_option maxRecDepth 100000
set_option maxHeartbeats 4000000
namespace VL
open PySem PySem.Spec PyProof.Rows L2 HD
theorem atI_0 {α : Type} {x : α} {xs : List α} : atI (x :: xs) 0 = some x := by rw [atI_nat (Int.le_refl 0)]; rfl
theorem atI_1 {α : Type} {x y : α} {xs : List α} : atI (x :: y :: xs) 1 = some y := by rw [atI_nat (by omega)]; rfl
theorem small_of {x : Int} (h : small x) : -18446744073709551616 < x ∧ x < 18446744073709551616 := h
theorem emod_lt' {a b : Int} (h : 0 < b) : 0 ≤ a % b ∧ a % b < b := ⟨Int.emod_nonneg a (by omega), Int.emod_lt_of_pos a h⟩
theorem sub_div_mul {a b : Int} : a - a / b * b = a % b := by
  have := Int.mul_ediv_add_emod a b
  have h2 : b * (a / b) = a / b * b := Int.mul_comm _ _
  omega
/-! ### fraction_terms -/
theorem cf_zero {k : Nat} {a : Int} : cf (k + 1) a 0 = [] := by unfold cf; rw [if_pos rfl]
theorem cf_succ {k : Nat} {a b : Int} (h : b ≠ 0) : cf (k + 1) a b = (a / b) :: cf k b (a % b) := by
  show (if b = 0 then [] else _) = _
  rw [if_neg h]
theorem wit_ft (D : VEnds) : ∀ (k : Nat) (a b : Int) (fs : List Int) (x : SV), 0 ≤ b → b < k → b < 100000 → fs.length + k ≤ 200000 → (∀ y z, D.nx [.fr (.int y), .fr (.int 0), .ow ((fs ++ cf k a b).map .int), z]) →
    wit rd_fraction_terms_w1c rd_fraction_terms_w1b D k [.fr (.int a), .fr (.int b), .ow (fs.map .int), x] := by
  intro k
  induction k with
  | zero => intro a b fs x h1 h2; omega
  | succ k ih =>
    intro a b fs x h1 h2 h3 hl hD
    rw [wit_succ]
    generalize hW : wit rd_fraction_terms_w1c rd_fraction_terms_w1b D k = W
    by_cases hb : b = 0
    · subst hb
      rw [cf_zero, List.append_nil] at hD
      simp only [↓rd_fraction_terms_w1c, ↓vSeq, ↓vPar, ↓vPar3, ↓vSet, ↓vSetO, ↓vAsg, ↓vAug, ↓vAppend, ↓vExt, ↓vUnp, ↓vFz, ↓vRet, ↓vRetN, ↓vDrop, ↓vIfS, ↓vNext, ↓vBrk, ↓vCnt, ↓vNever, ↓vForS, ↓vC, ↓vVar, ↓vTup, ↓vOf, ↓vBin, ↓vBinL, ↓vBinR, ↓vUn, ↓vCall, ↓vCallO, ↓vCallIO, ↓vCallSC, ↓vLookA, ↓vB, ↓vTru, ↓vTruO, ↓vAnd, ↓vOr, ↓vNot, ↓vAndV, ↓vOrV, ↓vNotV, ↓vIf, ↓vChain, ↓vNil, ↓vCons, ↓vSl, ↓vSlL, ↓vP0, ↓vP1, ↓vRevT, ↓vRevL, ↓vRevLL, ↓vBits, ↓vPop, ↓vLc, ↓vTurn, ↓vYes, ↓gN, ↓gT, ↓gsC, ↓gs0, ↓gSet, ↓wL, ↓wT, ↓wR1, ↓wR2, ↓d2, ↓d20, ↓dAdd, ↓dMul, ↓dEq, ↓dNe, ↓dIsN, ↓dNotN, ↓isN, ↓dNeg, ↓dIx, ↓dInI, ↓dSl, ↓truD, ↓cLen, ↓cAbs, ↓cMax2, ↓cMin2, ↓cInt, ↓cTup, ↓cLst, ↓sv, ↓List.getD_cons_zero, ↓List.getD_cons_succ, ↓List.set_cons_zero, ↓List.set_cons_succ, ↓vxSeq, ↓vxIf, ↓vxRaise, ↓vxRet, ↓vxAsg, ↓vxCall, ↓vReason, ↓vEqS]
      exact hD a x
    · have hb2 : (b != 0) = true := by simp; omega
      simp only [↓rd_fraction_terms_w1c, ↓rd_fraction_terms_w1b, ↓vSeq, ↓vPar, ↓vPar3, ↓vSet, ↓vSetO, ↓vAsg, ↓vAug, ↓vAppend, ↓vExt, ↓vUnp, ↓vFz, ↓vRet, ↓vRetN, ↓vDrop, ↓vIfS, ↓vNext, ↓vBrk, ↓vCnt, ↓vNever, ↓vForS, ↓vC, ↓vVar, ↓vTup, ↓vOf, ↓vBin, ↓vBinL, ↓vBinR, ↓vUn, ↓vCall, ↓vCallO, ↓vCallIO, ↓vCallSC, ↓vLookA, ↓vB, ↓vTru, ↓vTruO, ↓vAnd, ↓vOr, ↓vNot, ↓vAndV, ↓vOrV, ↓vNotV, ↓vIf, ↓vChain, ↓vNil, ↓vCons, ↓vSl, ↓vSlL, ↓vP0, ↓vP1, ↓vRevT, ↓vRevL, ↓vRevLL, ↓vBits, ↓vPop, ↓vLc, ↓vTurn, ↓vYes, ↓gN, ↓gT, ↓gsC, ↓gs0, ↓gSet, ↓wL, ↓wT, ↓wR1, ↓wR2, ↓d2, ↓d20, ↓dAdd, ↓dMul, ↓dEq, ↓dNe, ↓dIsN, ↓dNotN, ↓isN, ↓dNeg, ↓dIx, ↓dInI, ↓dSl, ↓truD, ↓cLen, ↓cAbs, ↓cMax2, ↓cMin2, ↓cInt, ↓cTup, ↓cLst, ↓sv, ↓List.getD_cons_zero, ↓List.getD_cons_succ, ↓List.set_cons_zero, ↓List.set_cons_succ, ↓vxSeq, ↓vxIf, ↓vxRaise, ↓vxRet, ↓vxAsg, ↓vxCall, ↓vReason, ↓vEqS, hb2]
      refine ⟨div_small hb (by omega), by rw [List.length_map, sizeLine_eq]; omega, mul_small (by omega), ?_⟩
      rw [fdiv_pos h1, map_snoc, sub_div_mul, ← hW]
      have hm := emod_lt' (a := a) (b := b) (by omega)
      refine ih _ _ _ _ hm.1 (by omega) (by omega) (by rw [List.length_append]; simp; omega) fun y z => ?_
      have := hD y z
      rw [cf_succ hb] at this
      rw [List.append_assoc]
      exact this
theorem hq_fraction_terms (ds : List D) (Q : D → Prop) (h : sp_fraction_terms ds Q) : rd_fraction_terms { nx := fun _ => Q .none, rt := fun d _ => Q d } (ev0 ["above", "below", "found", "whole"] ds) := by
  obtain ⟨a, b, rfl, h1, h2, h⟩ := h
  show rd_fraction_terms _ [.fr (.int a), .fr (.int b), .un, .un]
  have h3 : ¬ b < 1 := by omega
  simp only [↓rd_fraction_terms, ↓vSeq, ↓vPar, ↓vPar3, ↓vSet, ↓vSetO, ↓vAsg, ↓vAug, ↓vAppend, ↓vExt, ↓vUnp, ↓vFz, ↓vRet, ↓vRetN, ↓vDrop, ↓vIfS, ↓vNext, ↓vBrk, ↓vCnt, ↓vNever, ↓vForS, ↓vC, ↓vVar, ↓vTup, ↓vOf, ↓vBin, ↓vBinL, ↓vBinR, ↓vUn, ↓vCall, ↓vCallO, ↓vCallIO, ↓vCallSC, ↓vLookA, ↓vB, ↓vTru, ↓vTruO, ↓vAnd, ↓vOr, ↓vNot, ↓vAndV, ↓vOrV, ↓vNotV, ↓vIf, ↓vChain, ↓vNil, ↓vCons, ↓vSl, ↓vSlL, ↓vP0, ↓vP1, ↓vRevT, ↓vRevL, ↓vRevLL, ↓vBits, ↓vPop, ↓vLc, ↓vTurn, ↓vYes, ↓gN, ↓gT, ↓gsC, ↓gs0, ↓gSet, ↓wL, ↓wT, ↓wR1, ↓wR2, ↓d2, ↓d20, ↓dAdd, ↓dMul, ↓dEq, ↓dNe, ↓dIsN, ↓dNotN, ↓isN, ↓dNeg, ↓dIx, ↓dInI, ↓dSl, ↓truD, ↓cLen, ↓cAbs, ↓cMax2, ↓cMin2, ↓cInt, ↓cTup, ↓cLst, ↓sv, ↓List.getD_cons_zero, ↓List.getD_cons_succ, ↓List.set_cons_zero, ↓List.set_cons_succ, ↓vxSeq, ↓vxIf, ↓vxRaise, ↓vxRet, ↓vxAsg, ↓vxCall, ↓vReason, ↓vEqS, h3, decide_false, vWhile]
  exact ⟨_, wit_ft _ (b.toNat + 1) a b [] _ (by omega) (by omega) h2 (by simp; omega) fun y z => by simp only [↓vSeq, ↓vPar, ↓vPar3, ↓vSet, ↓vSetO, ↓vAsg, ↓vAug, ↓vAppend, ↓vExt, ↓vUnp, ↓vFz, ↓vRet, ↓vRetN, ↓vDrop, ↓vIfS, ↓vNext, ↓vBrk, ↓vCnt, ↓vNever, ↓vForS, ↓vC, ↓vVar, ↓vTup, ↓vOf, ↓vBin, ↓vBinL, ↓vBinR, ↓vUn, ↓vCall, ↓vCallO, ↓vCallIO, ↓vCallSC, ↓vLookA, ↓vB, ↓vTru, ↓vTruO, ↓vAnd, ↓vOr, ↓vNot, ↓vAndV, ↓vOrV, ↓vNotV, ↓vIf, ↓vChain, ↓vNil, ↓vCons, ↓vSl, ↓vSlL, ↓vP0, ↓vP1, ↓vRevT, ↓vRevL, ↓vRevLL, ↓vBits, ↓vPop, ↓vLc, ↓vTurn, ↓vYes, ↓gN, ↓gT, ↓gsC, ↓gs0, ↓gSet, ↓wL, ↓wT, ↓wR1, ↓wR2, ↓d2, ↓d20, ↓dAdd, ↓dMul, ↓dEq, ↓dNe, ↓dIsN, ↓dNotN, ↓isN, ↓dNeg, ↓dIx, ↓dInI, ↓dSl, ↓truD, ↓cLen, ↓cAbs, ↓cMax2, ↓cMin2, ↓cInt, ↓cTup, ↓cLst, ↓sv, ↓List.getD_cons_zero, ↓List.getD_cons_succ, ↓List.set_cons_zero, ↓List.set_cons_succ, ↓vxSeq, ↓vxIf, ↓vxRaise, ↓vxRet, ↓vxAsg, ↓vxCall, ↓vReason, ↓vEqS]; exact h⟩
/-! ### convergents -/
theorem loop_conv (Z : VEnds) (a0 : SV) : ∀ (ts : List Int) (fs : List (Int × Int)) (one other : Int × Int) (x : SV), (∀ t ∈ ts, small t) → fs.length + ts.length ≤ 200000 →
    (∀ a b c, Z.nx [a0, .ow ((fs ++ conv one other ts).map frD), a, b, c]) → vFor rd_convergents_f1g rd_convergents_f1b Z (ts.map .int) [a0, .ow (fs.map frD), .fr (frD one), .fr (frD other), x] := by
  intro ts
  induction ts with
  | nil => intro fs one other x hs hl hZ; rw [conv, List.append_nil] at hZ; exact hZ _ _ _
  | cons t ts ih =>
    intro fs one other x hs hl hZ
    have ht := hs t (List.mem_cons_self ..)
    rw [List.length_cons] at hl
    rw [List.map_cons, vFor_cons]
    generalize hW : vFor rd_convergents_f1g rd_convergents_f1b Z (ts.map .int) = W
    simp only [↓rd_convergents_f1g, ↓rd_convergents_f1b, ↓vSeq, ↓vPar, ↓vPar3, ↓vSet, ↓vSetO, ↓vAsg, ↓vAug, ↓vAppend, ↓vExt, ↓vUnp, ↓vFz, ↓vRet, ↓vRetN, ↓vDrop, ↓vIfS, ↓vNext, ↓vBrk, ↓vCnt, ↓vNever, ↓vForS, ↓vC, ↓vVar, ↓vTup, ↓vOf, ↓vBin, ↓vBinL, ↓vBinR, ↓vUn, ↓vCall, ↓vCallO, ↓vCallIO, ↓vCallSC, ↓vLookA, ↓vB, ↓vTru, ↓vTruO, ↓vAnd, ↓vOr, ↓vNot, ↓vAndV, ↓vOrV, ↓vNotV, ↓vIf, ↓vChain, ↓vNil, ↓vCons, ↓vSl, ↓vSlL, ↓vP0, ↓vP1, ↓vRevT, ↓vRevL, ↓vRevLL, ↓vBits, ↓vPop, ↓vLc, ↓vTurn, ↓vYes, ↓gN, ↓gT, ↓gsC, ↓gs0, ↓gSet, ↓wL, ↓wT, ↓wR1, ↓wR2, ↓d2, ↓d20, ↓dAdd, ↓dMul, ↓dEq, ↓dNe, ↓dIsN, ↓dNotN, ↓isN, ↓dNeg, ↓dIx, ↓dInI, ↓dSl, ↓truD, ↓cLen, ↓cAbs, ↓cMax2, ↓cMin2, ↓cInt, ↓cTup, ↓cLst, ↓sv, ↓List.getD_cons_zero, ↓List.getD_cons_succ, ↓List.set_cons_zero, ↓List.set_cons_succ, ↓vxSeq, ↓vxIf, ↓vxRaise, ↓vxRet, ↓vxAsg, ↓vxCall, ↓vReason, ↓vEqS, atI_0, atI_1]
    refine ⟨mul_smallL ht, mul_smallL ht, by rw [List.length_map, sizeLine_eq]; omega, ?_⟩
    have e : fs.map frD ++ [.tuple [.int (t * one.1 + other.1), .int (t * one.2 + other.2)]] = (fs ++ [stepF t one other]).map frD := by rw [List.map_append]; rfl
    rw [e, ← hW]
    refine ih (fs ++ [stepF t one other]) (stepF t one other) one _ (fun u hu => hs u (List.mem_cons_of_mem _ hu)) (by rw [List.length_append]; simp; omega) fun a b c => ?_
    have := hZ a b c
    rw [conv] at this
    rw [List.append_assoc]
    exact this
theorem hq_convergents (ds : List D) (Q : D → Prop) (h : sp_convergents ds Q) : rd_convergents { nx := fun _ => Q .none, rt := fun d _ => Q d } (ev0 ["terms", "found", "one", "other", "term"] ds) := by
  obtain ⟨ts, rfl, hs, hl, h⟩ := h
  show rd_convergents _ [.fr (tI ts), .un, .un, .un, .un]
  simp only [↓rd_convergents, ↓tI, ↓vSeq, ↓vPar, ↓vPar3, ↓vSet, ↓vSetO, ↓vAsg, ↓vAug, ↓vAppend, ↓vExt, ↓vUnp, ↓vFz, ↓vRet, ↓vRetN, ↓vDrop, ↓vIfS, ↓vNext, ↓vBrk, ↓vCnt, ↓vNever, ↓vForS, ↓vC, ↓vVar, ↓vTup, ↓vOf, ↓vBin, ↓vBinL, ↓vBinR, ↓vUn, ↓vCall, ↓vCallO, ↓vCallIO, ↓vCallSC, ↓vLookA, ↓vB, ↓vTru, ↓vTruO, ↓vAnd, ↓vOr, ↓vNot, ↓vAndV, ↓vOrV, ↓vNotV, ↓vIf, ↓vChain, ↓vNil, ↓vCons, ↓vSl, ↓vSlL, ↓vP0, ↓vP1, ↓vRevT, ↓vRevL, ↓vRevLL, ↓vBits, ↓vPop, ↓vLc, ↓vTurn, ↓vYes, ↓gN, ↓gT, ↓gsC, ↓gs0, ↓gSet, ↓wL, ↓wT, ↓wR1, ↓wR2, ↓d2, ↓d20, ↓dAdd, ↓dMul, ↓dEq, ↓dNe, ↓dIsN, ↓dNotN, ↓isN, ↓dNeg, ↓dIx, ↓dInI, ↓dSl, ↓truD, ↓cLen, ↓cAbs, ↓cMax2, ↓cMin2, ↓cInt, ↓cTup, ↓cLst, ↓sv, ↓List.getD_cons_zero, ↓List.getD_cons_succ, ↓List.set_cons_zero, ↓List.set_cons_succ, ↓vxSeq, ↓vxIf, ↓vxRaise, ↓vxRet, ↓vxAsg, ↓vxCall, ↓vReason, ↓vEqS]
  refine ⟨rfl, loop_conv _ _ ts [] (1, 0) (0, 1) _ hs (by simp; omega) fun a b c => ?_⟩
  simp only [↓vSeq, ↓vPar, ↓vPar3, ↓vSet, ↓vSetO, ↓vAsg, ↓vAug, ↓vAppend, ↓vExt, ↓vUnp, ↓vFz, ↓vRet, ↓vRetN, ↓vDrop, ↓vIfS, ↓vNext, ↓vBrk, ↓vCnt, ↓vNever, ↓vForS, ↓vC, ↓vVar, ↓vTup, ↓vOf, ↓vBin, ↓vBinL, ↓vBinR, ↓vUn, ↓vCall, ↓vCallO, ↓vCallIO, ↓vCallSC, ↓vLookA, ↓vB, ↓vTru, ↓vTruO, ↓vAnd, ↓vOr, ↓vNot, ↓vAndV, ↓vOrV, ↓vNotV, ↓vIf, ↓vChain, ↓vNil, ↓vCons, ↓vSl, ↓vSlL, ↓vP0, ↓vP1, ↓vRevT, ↓vRevL, ↓vRevLL, ↓vBits, ↓vPop, ↓vLc, ↓vTurn, ↓vYes, ↓gN, ↓gT, ↓gsC, ↓gs0, ↓gSet, ↓wL, ↓wT, ↓wR1, ↓wR2, ↓d2, ↓d20, ↓dAdd, ↓dMul, ↓dEq, ↓dNe, ↓dIsN, ↓dNotN, ↓isN, ↓dNeg, ↓dIx, ↓dInI, ↓dSl, ↓truD, ↓cLen, ↓cAbs, ↓cMax2, ↓cMin2, ↓cInt, ↓cTup, ↓cLst, ↓sv, ↓List.getD_cons_zero, ↓List.getD_cons_succ, ↓List.set_cons_zero, ↓List.set_cons_succ, ↓vxSeq, ↓vxIf, ↓vxRaise, ↓vxRet, ↓vxAsg, ↓vxCall, ↓vReason, ↓vEqS]
  exact h
/-! ### is_nearer, _law_less -/
theorem hq_is_nearer (ds : List D) (Q : D → Prop) (h : sp_is_nearer ds Q) : rd_is_nearer { nx := fun _ => Q .none, rt := fun d _ => Q d } (ev0 ["goal", "one", "other", "left", "right"] ds) := by
  obtain ⟨g, u, v, rfl, s1, s2, s3, s4, h⟩ := h
  show rd_is_nearer _ [.fr (frD g), .fr (frD u), .fr (frD v), .un, .un]
  simp only [↓rd_is_nearer, ↓vSeq, ↓vPar, ↓vPar3, ↓vSet, ↓vSetO, ↓vAsg, ↓vAug, ↓vAppend, ↓vExt, ↓vUnp, ↓vFz, ↓vRet, ↓vRetN, ↓vDrop, ↓vIfS, ↓vNext, ↓vBrk, ↓vCnt, ↓vNever, ↓vForS, ↓vC, ↓vVar, ↓vTup, ↓vOf, ↓vBin, ↓vBinL, ↓vBinR, ↓vUn, ↓vCall, ↓vCallO, ↓vCallIO, ↓vCallSC, ↓vLookA, ↓vB, ↓vTru, ↓vTruO, ↓vAnd, ↓vOr, ↓vNot, ↓vAndV, ↓vOrV, ↓vNotV, ↓vIf, ↓vChain, ↓vNil, ↓vCons, ↓vSl, ↓vSlL, ↓vP0, ↓vP1, ↓vRevT, ↓vRevL, ↓vRevLL, ↓vBits, ↓vPop, ↓vLc, ↓vTurn, ↓vYes, ↓gN, ↓gT, ↓gsC, ↓gs0, ↓gSet, ↓wL, ↓wT, ↓wR1, ↓wR2, ↓d2, ↓d20, ↓dAdd, ↓dMul, ↓dEq, ↓dNe, ↓dIsN, ↓dNotN, ↓isN, ↓dNeg, ↓dIx, ↓dInI, ↓dSl, ↓truD, ↓cLen, ↓cAbs, ↓cMax2, ↓cMin2, ↓cInt, ↓cTup, ↓cLst, ↓sv, ↓List.getD_cons_zero, ↓List.getD_cons_succ, ↓List.set_cons_zero, ↓List.set_cons_succ, ↓vxSeq, ↓vxIf, ↓vxRaise, ↓vxRet, ↓vxAsg, ↓vxCall, ↓vReason, ↓vEqS, atI_0, atI_1, abs_if]
  refine ⟨mul_small s2, mul_smallL s1, mul_small s4, mul_small s2, mul_smallL s1, mul_small s3, ?_⟩
  unfold nearB gapN at h
  generalize ((u.1 * g.2 - g.1 * u.2).natAbs : Int) * v.2 = L at h ⊢
  generalize ((v.1 * g.2 - g.1 * v.2).natAbs : Int) * u.2 = R at h ⊢
  by_cases h1 : L < R
  · simp only [h1, decide_true, Bool.true_or] at h ⊢
    exact h
  · simp only [h1, decide_false, Bool.false_or] at h ⊢
    by_cases h2 : L = R
    · simp only [h2, decide_true, Bool.true_and] at h ⊢
      exact ⟨mul_small s4, mul_small s3, h⟩
    · simp only [h2, decide_false, Bool.false_and] at h ⊢
      exact h
theorem hq__law_less (ds : List D) (Q : D → Prop) (h : sp__law_less ds Q) : rd__law_less { nx := fun _ => Q .none, rt := fun d _ => Q d } (ev0 ["one", "other"] ds) := by
  obtain ⟨u, v, rfl, s1, s2, h⟩ := h
  show rd__law_less _ [.fr (frD u), .fr (frD v)]
  simp only [↓rd__law_less, ↓vSeq, ↓vPar, ↓vPar3, ↓vSet, ↓vSetO, ↓vAsg, ↓vAug, ↓vAppend, ↓vExt, ↓vUnp, ↓vFz, ↓vRet, ↓vRetN, ↓vDrop, ↓vIfS, ↓vNext, ↓vBrk, ↓vCnt, ↓vNever, ↓vForS, ↓vC, ↓vVar, ↓vTup, ↓vOf, ↓vBin, ↓vBinL, ↓vBinR, ↓vUn, ↓vCall, ↓vCallO, ↓vCallIO, ↓vCallSC, ↓vLookA, ↓vB, ↓vTru, ↓vTruO, ↓vAnd, ↓vOr, ↓vNot, ↓vAndV, ↓vOrV, ↓vNotV, ↓vIf, ↓vChain, ↓vNil, ↓vCons, ↓vSl, ↓vSlL, ↓vP0, ↓vP1, ↓vRevT, ↓vRevL, ↓vRevLL, ↓vBits, ↓vPop, ↓vLc, ↓vTurn, ↓vYes, ↓gN, ↓gT, ↓gsC, ↓gs0, ↓gSet, ↓wL, ↓wT, ↓wR1, ↓wR2, ↓d2, ↓d20, ↓dAdd, ↓dMul, ↓dEq, ↓dNe, ↓dIsN, ↓dNotN, ↓isN, ↓dNeg, ↓dIx, ↓dInI, ↓dSl, ↓truD, ↓cLen, ↓cAbs, ↓cMax2, ↓cMin2, ↓cInt, ↓cTup, ↓cLst, ↓sv, ↓List.getD_cons_zero, ↓List.getD_cons_succ, ↓List.set_cons_zero, ↓List.set_cons_succ, ↓vxSeq, ↓vxIf, ↓vxRaise, ↓vxRet, ↓vxAsg, ↓vxCall, ↓vReason, ↓vEqS, atI_0, atI_1]
  exact ⟨mul_small s2, mul_small s1, h⟩
/-! ### _law_value -/
theorem val_cons {t : Int} {ts : List Int} (h : ts ≠ []) : val (t :: ts) = (t * (val ts).1 + (val ts).2, (val ts).1) := by
  cases ts with
  | nil => exact absurd rfl h
  | cons u us => rfl
theorem loop_val (Z : VEnds) (a0 : SV) : ∀ (xs ys : List Int) (x : SV), ys ≠ [] → (∀ t ∈ xs, small t) → (∀ z, Z.nx [a0, .fr (.int (val (xs.reverse ++ ys)).1), .fr (.int (val (xs.reverse ++ ys)).2), z]) →
    vFor rd__law_value_f1g rd__law_value_f1b Z (xs.map .int) [a0, .fr (.int (val ys).1), .fr (.int (val ys).2), x] := by
  intro xs
  induction xs with
  | nil => intro ys x hy hs hZ; exact hZ x
  | cons t xs ih =>
    intro ys x hy hs hZ
    rw [List.map_cons, vFor_cons]
    generalize hW : vFor rd__law_value_f1g rd__law_value_f1b Z (xs.map .int) = W
    simp only [↓rd__law_value_f1g, ↓rd__law_value_f1b, ↓vSeq, ↓vPar, ↓vPar3, ↓vSet, ↓vSetO, ↓vAsg, ↓vAug, ↓vAppend, ↓vExt, ↓vUnp, ↓vFz, ↓vRet, ↓vRetN, ↓vDrop, ↓vIfS, ↓vNext, ↓vBrk, ↓vCnt, ↓vNever, ↓vForS, ↓vC, ↓vVar, ↓vTup, ↓vOf, ↓vBin, ↓vBinL, ↓vBinR, ↓vUn, ↓vCall, ↓vCallO, ↓vCallIO, ↓vCallSC, ↓vLookA, ↓vB, ↓vTru, ↓vTruO, ↓vAnd, ↓vOr, ↓vNot, ↓vAndV, ↓vOrV, ↓vNotV, ↓vIf, ↓vChain, ↓vNil, ↓vCons, ↓vSl, ↓vSlL, ↓vP0, ↓vP1, ↓vRevT, ↓vRevL, ↓vRevLL, ↓vBits, ↓vPop, ↓vLc, ↓vTurn, ↓vYes, ↓gN, ↓gT, ↓gsC, ↓gs0, ↓gSet, ↓wL, ↓wT, ↓wR1, ↓wR2, ↓d2, ↓d20, ↓dAdd, ↓dMul, ↓dEq, ↓dNe, ↓dIsN, ↓dNotN, ↓isN, ↓dNeg, ↓dIx, ↓dInI, ↓dSl, ↓truD, ↓cLen, ↓cAbs, ↓cMax2, ↓cMin2, ↓cInt, ↓cTup, ↓cLst, ↓sv, ↓List.getD_cons_zero, ↓List.getD_cons_succ, ↓List.set_cons_zero, ↓List.set_cons_succ, ↓vxSeq, ↓vxIf, ↓vxRaise, ↓vxRet, ↓vxAsg, ↓vxCall, ↓vReason, ↓vEqS]
    refine ⟨mul_smallL (hs t (List.mem_cons_self ..)), ?_⟩
    rw [← hW]
    have e := val_cons (t := t) hy
    have := ih (t :: ys) (.fr (.int t)) (List.cons_ne_nil _ _) (fun u hu => hs u (List.mem_cons_of_mem _ hu)) (fun z => by
      have := hZ z
      rw [List.reverse_cons, List.append_assoc] at this
      exact this)
    rw [e] at this
    exact this
theorem hq__law_value (ds : List D) (Q : D → Prop) (h : sp__law_value ds Q) : rd__law_value { nx := fun _ => Q .none, rt := fun d _ => Q d } (ev0 ["terms", "above", "below", "term"] ds) := by
  obtain ⟨ts, rfl, hn, hs, h⟩ := h
  show rd__law_value _ [.fr (tI ts), .un, .un, .un]
  have hn2 : ts.map PyData.int ≠ [] := by simpa using hn
  have el : (ts.map PyData.int).getLast hn2 = .int (ts.getLast hn) := by rw [List.getLast_map]
  simp only [↓rd__law_value, ↓tI, ↓vSeq, ↓vPar, ↓vPar3, ↓vSet, ↓vSetO, ↓vAsg, ↓vAug, ↓vAppend, ↓vExt, ↓vUnp, ↓vFz, ↓vRet, ↓vRetN, ↓vDrop, ↓vIfS, ↓vNext, ↓vBrk, ↓vCnt, ↓vNever, ↓vForS, ↓vC, ↓vVar, ↓vTup, ↓vOf, ↓vBin, ↓vBinL, ↓vBinR, ↓vUn, ↓vCall, ↓vCallO, ↓vCallIO, ↓vCallSC, ↓vLookA, ↓vB, ↓vTru, ↓vTruO, ↓vAnd, ↓vOr, ↓vNot, ↓vAndV, ↓vOrV, ↓vNotV, ↓vIf, ↓vChain, ↓vNil, ↓vCons, ↓vSl, ↓vSlL, ↓vP0, ↓vP1, ↓vRevT, ↓vRevL, ↓vRevLL, ↓vBits, ↓vPop, ↓vLc, ↓vTurn, ↓vYes, ↓gN, ↓gT, ↓gsC, ↓gs0, ↓gSet, ↓wL, ↓wT, ↓wR1, ↓wR2, ↓d2, ↓d20, ↓dAdd, ↓dMul, ↓dEq, ↓dNe, ↓dIsN, ↓dNotN, ↓isN, ↓dNeg, ↓dIx, ↓dInI, ↓dSl, ↓truD, ↓cLen, ↓cAbs, ↓cMax2, ↓cMin2, ↓cInt, ↓cTup, ↓cLst, ↓sv, ↓List.getD_cons_zero, ↓List.getD_cons_succ, ↓List.set_cons_zero, ↓List.set_cons_succ, ↓vxSeq, ↓vxIf, ↓vxRaise, ↓vxRet, ↓vxAsg, ↓vxCall, ↓vReason, ↓vEqS]
  rw [show (-1 : Int) = -1 from rfl, atI_neg1 hn2, el]
  simp only [↓vSeq, ↓vPar, ↓vPar3, ↓vSet, ↓vSetO, ↓vAsg, ↓vAug, ↓vAppend, ↓vExt, ↓vUnp, ↓vFz, ↓vRet, ↓vRetN, ↓vDrop, ↓vIfS, ↓vNext, ↓vBrk, ↓vCnt, ↓vNever, ↓vForS, ↓vC, ↓vVar, ↓vTup, ↓vOf, ↓vBin, ↓vBinL, ↓vBinR, ↓vUn, ↓vCall, ↓vCallO, ↓vCallIO, ↓vCallSC, ↓vLookA, ↓vB, ↓vTru, ↓vTruO, ↓vAnd, ↓vOr, ↓vNot, ↓vAndV, ↓vOrV, ↓vNotV, ↓vIf, ↓vChain, ↓vNil, ↓vCons, ↓vSl, ↓vSlL, ↓vP0, ↓vP1, ↓vRevT, ↓vRevL, ↓vRevLL, ↓vBits, ↓vPop, ↓vLc, ↓vTurn, ↓vYes, ↓gN, ↓gT, ↓gsC, ↓gs0, ↓gSet, ↓wL, ↓wT, ↓wR1, ↓wR2, ↓d2, ↓d20, ↓dAdd, ↓dMul, ↓dEq, ↓dNe, ↓dIsN, ↓dNotN, ↓isN, ↓dNeg, ↓dIx, ↓dInI, ↓dSl, ↓truD, ↓cLen, ↓cAbs, ↓cMax2, ↓cMin2, ↓cInt, ↓cTup, ↓cLst, ↓sv, ↓List.getD_cons_zero, ↓List.getD_cons_succ, ↓List.set_cons_zero, ↓List.set_cons_succ, ↓vxSeq, ↓vxIf, ↓vxRaise, ↓vxRet, ↓vxAsg, ↓vxCall, ↓vReason, ↓vEqS]
  rw [cut_init, ← List.map_dropLast, ← List.map_reverse]
  have e : ts.dropLast ++ [ts.getLast hn] = ts := List.dropLast_concat_getLast hn
  refine loop_val _ _ ts.dropLast.reverse [ts.getLast hn] _ (List.cons_ne_nil _ _) (fun t ht => hs t (List.dropLast_subset _ (List.mem_reverse.mp ht))) fun z => ?_
  rw [List.reverse_reverse, e]
  simp only [↓vSeq, ↓vPar, ↓vPar3, ↓vSet, ↓vSetO, ↓vAsg, ↓vAug, ↓vAppend, ↓vExt, ↓vUnp, ↓vFz, ↓vRet, ↓vRetN, ↓vDrop, ↓vIfS, ↓vNext, ↓vBrk, ↓vCnt, ↓vNever, ↓vForS, ↓vC, ↓vVar, ↓vTup, ↓vOf, ↓vBin, ↓vBinL, ↓vBinR, ↓vUn, ↓vCall, ↓vCallO, ↓vCallIO, ↓vCallSC, ↓vLookA, ↓vB, ↓vTru, ↓vTruO, ↓vAnd, ↓vOr, ↓vNot, ↓vAndV, ↓vOrV, ↓vNotV, ↓vIf, ↓vChain, ↓vNil, ↓vCons, ↓vSl, ↓vSlL, ↓vP0, ↓vP1, ↓vRevT, ↓vRevL, ↓vRevLL, ↓vBits, ↓vPop, ↓vLc, ↓vTurn, ↓vYes, ↓gN, ↓gT, ↓gsC, ↓gs0, ↓gSet, ↓wL, ↓wT, ↓wR1, ↓wR2, ↓d2, ↓d20, ↓dAdd, ↓dMul, ↓dEq, ↓dNe, ↓dIsN, ↓dNotN, ↓isN, ↓dNeg, ↓dIx, ↓dInI, ↓dSl, ↓truD, ↓cLen, ↓cAbs, ↓cMax2, ↓cMin2, ↓cInt, ↓cTup, ↓cLst, ↓sv, ↓List.getD_cons_zero, ↓List.getD_cons_succ, ↓List.set_cons_zero, ↓List.set_cons_succ, ↓vxSeq, ↓vxIf, ↓vxRaise, ↓vxRet, ↓vxAsg, ↓vxCall, ↓vReason, ↓vEqS]
  exact h
/-! ### root_terms -/
theorem rtGo_zero {n w s b t : Int} : rtGo n w 0 s b t = none := rfl
theorem wit_rt (D : VEnds) (n w : Int) (hn : 0 ≤ n ∧ n < 1000) (hw : 0 ≤ w ∧ w < 1000) : ∀ (k : Nat) (s b t : Int) (fs l : List Int), -1000 < s ∧ s < 1000 → 0 < b ∧ b < 1000 → -1000000 < t ∧ t < 1000000 → fs.length + k ≤ 1000 → rtGo n w k s b t = some l → (∀ x y z, D.nx [.fr (.int n), .fr (.int w), .ow ((fs ++ l).map .int), x, y, z]) →
    wit rd_root_terms_w1c rd_root_terms_w1b D k [.fr (.int n), .fr (.int w), .ow (fs.map .int), .fr (.int s), .fr (.int b), .fr (.int t)] := by
  intro k
  induction k with
  | zero => intro s b t fs l _ _ _ _ h; rw [rtGo_zero] at h; cases h
  | succ k ih =>
    intro s b t fs l h1 h2 h3 hl h hD
    rw [wit_succ]
    generalize hW : wit rd_root_terms_w1c rd_root_terms_w1b D k = W
    unfold rtGo at h
    by_cases ht : t = 2 * w
    · rw [if_pos ht] at h
      cases h
      rw [List.append_nil] at hD
      simp only [↓rd_root_terms_w1c, ↓vSeq, ↓vPar, ↓vPar3, ↓vSet, ↓vSetO, ↓vAsg, ↓vAug, ↓vAppend, ↓vExt, ↓vUnp, ↓vFz, ↓vRet, ↓vRetN, ↓vDrop, ↓vIfS, ↓vNext, ↓vBrk, ↓vCnt, ↓vNever, ↓vForS, ↓vC, ↓vVar, ↓vTup, ↓vOf, ↓vBin, ↓vBinL, ↓vBinR, ↓vUn, ↓vCall, ↓vCallO, ↓vCallIO, ↓vCallSC, ↓vLookA, ↓vB, ↓vTru, ↓vTruO, ↓vAnd, ↓vOr, ↓vNot, ↓vAndV, ↓vOrV, ↓vNotV, ↓vIf, ↓vChain, ↓vNil, ↓vCons, ↓vSl, ↓vSlL, ↓vP0, ↓vP1, ↓vRevT, ↓vRevL, ↓vRevLL, ↓vBits, ↓vPop, ↓vLc, ↓vTurn, ↓vYes, ↓gN, ↓gT, ↓gsC, ↓gs0, ↓gSet, ↓wL, ↓wT, ↓wR1, ↓wR2, ↓d2, ↓d20, ↓dAdd, ↓dMul, ↓dEq, ↓dNe, ↓dIsN, ↓dNotN, ↓isN, ↓dNeg, ↓dIx, ↓dInI, ↓dSl, ↓truD, ↓cLen, ↓cAbs, ↓cMax2, ↓cMin2, ↓cInt, ↓cTup, ↓cLst, ↓sv, ↓List.getD_cons_zero, ↓List.getD_cons_succ, ↓List.set_cons_zero, ↓List.set_cons_succ, ↓vxSeq, ↓vxIf, ↓vxRaise, ↓vxRet, ↓vxAsg, ↓vxCall, ↓vReason, ↓vEqS, ht, decide_true, Bool.not_true]
      exact ⟨mul_smallL (by omega), hD _ _ _⟩
    · rw [if_neg ht] at h
      split at h
      · rename_i hg
        obtain ⟨_, _, g3, g4, g5, g6⟩ := hg
        obtain ⟨l', hl', rfl⟩ := Option.map_eq_some_iff.mp h
        simp only [↓rd_root_terms_w1c, ↓rd_root_terms_w1b, ↓vSeq, ↓vPar, ↓vPar3, ↓vSet, ↓vSetO, ↓vAsg, ↓vAug, ↓vAppend, ↓vExt, ↓vUnp, ↓vFz, ↓vRet, ↓vRetN, ↓vDrop, ↓vIfS, ↓vNext, ↓vBrk, ↓vCnt, ↓vNever, ↓vForS, ↓vC, ↓vVar, ↓vTup, ↓vOf, ↓vBin, ↓vBinL, ↓vBinR, ↓vUn, ↓vCall, ↓vCallO, ↓vCallIO, ↓vCallSC, ↓vLookA, ↓vB, ↓vTru, ↓vTruO, ↓vAnd, ↓vOr, ↓vNot, ↓vAndV, ↓vOrV, ↓vNotV, ↓vIf, ↓vChain, ↓vNil, ↓vCons, ↓vSl, ↓vSlL, ↓vP0, ↓vP1, ↓vRevT, ↓vRevL, ↓vRevLL, ↓vBits, ↓vPop, ↓vLc, ↓vTurn, ↓vYes, ↓gN, ↓gT, ↓gsC, ↓gs0, ↓gSet, ↓wL, ↓wT, ↓wR1, ↓wR2, ↓d2, ↓d20, ↓dAdd, ↓dMul, ↓dEq, ↓dNe, ↓dIsN, ↓dNotN, ↓isN, ↓dNeg, ↓dIx, ↓dInI, ↓dSl, ↓truD, ↓cLen, ↓cAbs, ↓cMax2, ↓cMin2, ↓cInt, ↓cTup, ↓cLst, ↓sv, ↓List.getD_cons_zero, ↓List.getD_cons_succ, ↓List.set_cons_zero, ↓List.set_cons_succ, ↓vxSeq, ↓vxIf, ↓vxRaise, ↓vxRet, ↓vxAsg, ↓vxCall, ↓vReason, ↓vEqS, ht, decide_false, Bool.not_false]
        rw [fdiv_pos (by omega)]
        generalize hs' : t * b - s = s' at *
        generalize hb' : (n - s' * s') / b = b' at *
        rw [fdiv_pos (by omega)]
        generalize ht' : (w + s') / b' = t' at *
        have ht2 : -1000000 < t' ∧ t' < 1000000 := by
          have q1 : t' ≤ 2000 := by
            rw [← ht']
            exact Int.ediv_le_of_le_mul g3 (by have : 2000 * 1 ≤ 2000 * b' := Int.mul_le_mul_of_nonneg_left (by omega) (by omega)
                                               omega)
          have q2 : -2000 ≤ t' := by
            rw [← ht', Int.le_ediv_iff_mul_le g3]
            have : 2000 * 1 ≤ 2000 * b' := Int.mul_le_mul_of_nonneg_left (by omega) (by omega)
            omega
          omega
        refine ⟨mul_smallL (by omega), mul_small (by omega), mul_small (by omega), div_small (by omega) (by omega), div_small (by omega) (by omega), by rw [List.length_map, sizeLine_eq]; omega, ?_⟩
        rw [map_snoc, ← hW]
        exact ih _ _ _ _ l' ⟨g5, g6⟩ ⟨g3, g4⟩ ht2 (by rw [List.length_append]; simp; omega) hl' fun x y z => by
          have := hD x y z
          rw [List.append_assoc]
          exact this
      · cases h
theorem root_small {n r : Int} (h : isRoot n r) (hn : n ≤ 301) : r < 18 := by
  obtain ⟨h0, h1, h2⟩ := h
  refine Int.not_le.mp fun z => ?_
  have := Int.mul_le_mul z z (by omega) h0
  omega
theorem hq_root_terms (ds : List D) (Q : D → Prop) (h : sp_root_terms ds Q) : rd_root_terms { nx := fun _ => Q .none, rt := fun d _ => Q d } (ev0 ["number", "whole", "found", "shift", "below", "term"] ds) := by
  obtain ⟨n, w, l, rfl, hk, h⟩ := h
  obtain ⟨h1, h2, hr, hne, hgo, hb, hl0, hl⟩ := hk
  show rd_root_terms _ [.fr (.int n), .un, .un, .un, .un, .un]
  have e1 : (0 : Int) < n := by omega
  have e2 : ¬ n < 2 := by omega
  have e3 := root_small hr h2
  simp only [↓rd_root_terms, ↓vSeq, ↓vPar, ↓vPar3, ↓vSet, ↓vSetO, ↓vAsg, ↓vAug, ↓vAppend, ↓vExt, ↓vUnp, ↓vFz, ↓vRet, ↓vRetN, ↓vDrop, ↓vIfS, ↓vNext, ↓vBrk, ↓vCnt, ↓vNever, ↓vForS, ↓vC, ↓vVar, ↓vTup, ↓vOf, ↓vBin, ↓vBinL, ↓vBinR, ↓vUn, ↓vCall, ↓vCallO, ↓vCallIO, ↓vCallSC, ↓vLookA, ↓vB, ↓vTru, ↓vTruO, ↓vAnd, ↓vOr, ↓vNot, ↓vAndV, ↓vOrV, ↓vNotV, ↓vIf, ↓vChain, ↓vNil, ↓vCons, ↓vSl, ↓vSlL, ↓vP0, ↓vP1, ↓vRevT, ↓vRevL, ↓vRevLL, ↓vBits, ↓vPop, ↓vLc, ↓vTurn, ↓vYes, ↓gN, ↓gT, ↓gsC, ↓gs0, ↓gSet, ↓wL, ↓wT, ↓wR1, ↓wR2, ↓d2, ↓d20, ↓dAdd, ↓dMul, ↓dEq, ↓dNe, ↓dIsN, ↓dNotN, ↓isN, ↓dNeg, ↓dIx, ↓dInI, ↓dSl, ↓truD, ↓cLen, ↓cAbs, ↓cMax2, ↓cMin2, ↓cInt, ↓cTup, ↓cLst, ↓sv, ↓List.getD_cons_zero, ↓List.getD_cons_succ, ↓List.set_cons_zero, ↓List.set_cons_succ, ↓vxSeq, ↓vxIf, ↓vxRaise, ↓vxRet, ↓vxAsg, ↓vxCall, ↓vReason, ↓vEqS, e1, decide_true]
  refine ⟨n, rfl, e1, by omega, fun r h' => ?_⟩
  have e4 := root_uniq h' hr
  subst e4
  have e5 := h'.1
  simp only [↓vSeq, ↓vPar, ↓vPar3, ↓vSet, ↓vSetO, ↓vAsg, ↓vAug, ↓vAppend, ↓vExt, ↓vUnp, ↓vFz, ↓vRet, ↓vRetN, ↓vDrop, ↓vIfS, ↓vNext, ↓vBrk, ↓vCnt, ↓vNever, ↓vForS, ↓vC, ↓vVar, ↓vTup, ↓vOf, ↓vBin, ↓vBinL, ↓vBinR, ↓vUn, ↓vCall, ↓vCallO, ↓vCallIO, ↓vCallSC, ↓vLookA, ↓vB, ↓vTru, ↓vTruO, ↓vAnd, ↓vOr, ↓vNot, ↓vAndV, ↓vOrV, ↓vNotV, ↓vIf, ↓vChain, ↓vNil, ↓vCons, ↓vSl, ↓vSlL, ↓vP0, ↓vP1, ↓vRevT, ↓vRevL, ↓vRevLL, ↓vBits, ↓vPop, ↓vLc, ↓vTurn, ↓vYes, ↓gN, ↓gT, ↓gsC, ↓gs0, ↓gSet, ↓wL, ↓wT, ↓wR1, ↓wR2, ↓d2, ↓d20, ↓dAdd, ↓dMul, ↓dEq, ↓dNe, ↓dIsN, ↓dNotN, ↓isN, ↓dNeg, ↓dIx, ↓dInI, ↓dSl, ↓truD, ↓cLen, ↓cAbs, ↓cMax2, ↓cMin2, ↓cInt, ↓cTup, ↓cLst, ↓sv, ↓List.getD_cons_zero, ↓List.getD_cons_succ, ↓List.set_cons_zero, ↓List.set_cons_succ, ↓vxSeq, ↓vxIf, ↓vxRaise, ↓vxRet, ↓vxAsg, ↓vxCall, ↓vReason, ↓vEqS, e2, decide_false, hne]
  refine ⟨mul_small (by omega), 100, wit_rt _ n r (by omega) (by omega) 100 0 1 r [] l (by omega) (by omega) (by omega) (by simp) hgo fun x y z => ?_⟩
  simp only [↓vSeq, ↓vPar, ↓vPar3, ↓vSet, ↓vSetO, ↓vAsg, ↓vAug, ↓vAppend, ↓vExt, ↓vUnp, ↓vFz, ↓vRet, ↓vRetN, ↓vDrop, ↓vIfS, ↓vNext, ↓vBrk, ↓vCnt, ↓vNever, ↓vForS, ↓vC, ↓vVar, ↓vTup, ↓vOf, ↓vBin, ↓vBinL, ↓vBinR, ↓vUn, ↓vCall, ↓vCallO, ↓vCallIO, ↓vCallSC, ↓vLookA, ↓vB, ↓vTru, ↓vTruO, ↓vAnd, ↓vOr, ↓vNot, ↓vAndV, ↓vOrV, ↓vNotV, ↓vIf, ↓vChain, ↓vNil, ↓vCons, ↓vSl, ↓vSlL, ↓vP0, ↓vP1, ↓vRevT, ↓vRevL, ↓vRevLL, ↓vBits, ↓vPop, ↓vLc, ↓vTurn, ↓vYes, ↓gN, ↓gT, ↓gsC, ↓gs0, ↓gSet, ↓wL, ↓wT, ↓wR1, ↓wR2, ↓d2, ↓d20, ↓dAdd, ↓dMul, ↓dEq, ↓dNe, ↓dIsN, ↓dNotN, ↓isN, ↓dNeg, ↓dIx, ↓dInI, ↓dSl, ↓truD, ↓cLen, ↓cAbs, ↓cMax2, ↓cMin2, ↓cInt, ↓cTup, ↓cLst, ↓sv, ↓List.getD_cons_zero, ↓List.getD_cons_succ, ↓List.set_cons_zero, ↓List.set_cons_succ, ↓vxSeq, ↓vxIf, ↓vxRaise, ↓vxRet, ↓vxAsg, ↓vxCall, ↓vReason, ↓vEqS]
  exact h
theorem hqx_root_terms (ds : List D) (Q : D → Prop) (Rv : Str → Prop) (h : spx_root_terms ds Q Rv) : rdx_root_terms Rv { nx := fun _ => Q .none, rt := fun d _ => Q d } (ev0 ["number", "whole", "found", "shift", "below", "term"] ds) := by
  obtain ⟨n, w, rfl, h1, h2, hr, hw, h⟩ := h
  show rdx_root_terms _ _ [.fr (.int n), .un, .un, .un, .un, .un]
  have e1 : (0 : Int) < n := by omega
  have e2 : ¬ n < 2 := by omega
  have e3 := root_small hr h2
  simp only [↓rdx_root_terms, ↓vSeq, ↓vPar, ↓vPar3, ↓vSet, ↓vSetO, ↓vAsg, ↓vAug, ↓vAppend, ↓vExt, ↓vUnp, ↓vFz, ↓vRet, ↓vRetN, ↓vDrop, ↓vIfS, ↓vNext, ↓vBrk, ↓vCnt, ↓vNever, ↓vForS, ↓vC, ↓vVar, ↓vTup, ↓vOf, ↓vBin, ↓vBinL, ↓vBinR, ↓vUn, ↓vCall, ↓vCallO, ↓vCallIO, ↓vCallSC, ↓vLookA, ↓vB, ↓vTru, ↓vTruO, ↓vAnd, ↓vOr, ↓vNot, ↓vAndV, ↓vOrV, ↓vNotV, ↓vIf, ↓vChain, ↓vNil, ↓vCons, ↓vSl, ↓vSlL, ↓vP0, ↓vP1, ↓vRevT, ↓vRevL, ↓vRevLL, ↓vBits, ↓vPop, ↓vLc, ↓vTurn, ↓vYes, ↓gN, ↓gT, ↓gsC, ↓gs0, ↓gSet, ↓wL, ↓wT, ↓wR1, ↓wR2, ↓d2, ↓d20, ↓dAdd, ↓dMul, ↓dEq, ↓dNe, ↓dIsN, ↓dNotN, ↓isN, ↓dNeg, ↓dIx, ↓dInI, ↓dSl, ↓truD, ↓cLen, ↓cAbs, ↓cMax2, ↓cMin2, ↓cInt, ↓cTup, ↓cLst, ↓sv, ↓List.getD_cons_zero, ↓List.getD_cons_succ, ↓List.set_cons_zero, ↓List.set_cons_succ, ↓vxSeq, ↓vxIf, ↓vxRaise, ↓vxRet, ↓vxAsg, ↓vxCall, ↓vReason, ↓vEqS, e1, decide_true]
  refine ⟨n, rfl, e1, by omega, fun r h' => ?_⟩
  have e4 := root_uniq h' hr
  subst e4
  have e5 := h'.1
  simp only [↓vSeq, ↓vPar, ↓vPar3, ↓vSet, ↓vSetO, ↓vAsg, ↓vAug, ↓vAppend, ↓vExt, ↓vUnp, ↓vFz, ↓vRet, ↓vRetN, ↓vDrop, ↓vIfS, ↓vNext, ↓vBrk, ↓vCnt, ↓vNever, ↓vForS, ↓vC, ↓vVar, ↓vTup, ↓vOf, ↓vBin, ↓vBinL, ↓vBinR, ↓vUn, ↓vCall, ↓vCallO, ↓vCallIO, ↓vCallSC, ↓vLookA, ↓vB, ↓vTru, ↓vTruO, ↓vAnd, ↓vOr, ↓vNot, ↓vAndV, ↓vOrV, ↓vNotV, ↓vIf, ↓vChain, ↓vNil, ↓vCons, ↓vSl, ↓vSlL, ↓vP0, ↓vP1, ↓vRevT, ↓vRevL, ↓vRevLL, ↓vBits, ↓vPop, ↓vLc, ↓vTurn, ↓vYes, ↓gN, ↓gT, ↓gsC, ↓gs0, ↓gSet, ↓wL, ↓wT, ↓wR1, ↓wR2, ↓d2, ↓d20, ↓dAdd, ↓dMul, ↓dEq, ↓dNe, ↓dIsN, ↓dNotN, ↓isN, ↓dNeg, ↓dIx, ↓dInI, ↓dSl, ↓truD, ↓cLen, ↓cAbs, ↓cMax2, ↓cMin2, ↓cInt, ↓cTup, ↓cLst, ↓sv, ↓List.getD_cons_zero, ↓List.getD_cons_succ, ↓List.set_cons_zero, ↓List.set_cons_succ, ↓vxSeq, ↓vxIf, ↓vxRaise, ↓vxRet, ↓vxAsg, ↓vxCall, ↓vReason, ↓vEqS, e2, decide_false, hw, decide_true]
  exact ⟨mul_small (by omega), h⟩
/-! ### root_convergents, least_unit -/
theorem cyc_succ {l : List Int} {k : Nat} : cyc l (k + 1) = cyc l k ++ [l.getD (k % l.length) 0] := by
  unfold cyc; rw [List.range_succ, List.map_append]; rfl
theorem cyc_len {l : List Int} {k : Nat} : (cyc l k).length = k := by unfold cyc; simp
theorem cyc_mem {l : List Int} {k : Nat} {t : Int} (hl : l ≠ []) (h : t ∈ cyc l k) : t ∈ l := by
  unfold cyc at h
  obtain ⟨i, _, rfl⟩ := List.mem_map.mp h
  have hp := List.length_pos_iff.mpr hl
  have hm := Nat.mod_lt i hp
  rw [List.getD_eq_getElem?_getD, List.getElem?_eq_getElem hm]
  exact List.getElem_mem _
theorem wit_rc (D : VEnds) (n many w : Int) (l : List Int) (hl : l ≠ []) (hl2 : l.length ≤ 100) (hm : many ≤ 1000) : ∀ (k j : Nat), many - (j + 1) ≤ k → (j + 1 : Int) ≤ many → D.nx [.fr (.int n), .fr (.int many), .fr (.int w), .fr (tI l), .ow ((w :: cyc l (many.toNat - 1)).map .int)] →
    wit rd_root_convergents_w1c rd_root_convergents_w1b D (k + 1) [.fr (.int n), .fr (.int many), .fr (.int w), .fr (tI l), .ow ((w :: cyc l j).map .int)] := by
  have hp := List.length_pos_iff.mpr hl
  intro k
  induction k with
  | zero =>
    intro j h1 h2 hD
    rw [wit_succ]
    have e : many.toNat - 1 = j := by omega
    rw [e] at hD
    have h3 : ¬ (((w :: cyc l j).map PyData.int).length : Int) < many := by rw [List.length_map, List.length_cons, cyc_len]; omega
    simp only [↓rd_root_convergents_w1c, ↓vSeq, ↓vPar, ↓vPar3, ↓vSet, ↓vSetO, ↓vAsg, ↓vAug, ↓vAppend, ↓vExt, ↓vUnp, ↓vFz, ↓vRet, ↓vRetN, ↓vDrop, ↓vIfS, ↓vNext, ↓vBrk, ↓vCnt, ↓vNever, ↓vForS, ↓vC, ↓vVar, ↓vTup, ↓vOf, ↓vBin, ↓vBinL, ↓vBinR, ↓vUn, ↓vCall, ↓vCallO, ↓vCallIO, ↓vCallSC, ↓vLookA, ↓vB, ↓vTru, ↓vTruO, ↓vAnd, ↓vOr, ↓vNot, ↓vAndV, ↓vOrV, ↓vNotV, ↓vIf, ↓vChain, ↓vNil, ↓vCons, ↓vSl, ↓vSlL, ↓vP0, ↓vP1, ↓vRevT, ↓vRevL, ↓vRevLL, ↓vBits, ↓vPop, ↓vLc, ↓vTurn, ↓vYes, ↓gN, ↓gT, ↓gsC, ↓gs0, ↓gSet, ↓wL, ↓wT, ↓wR1, ↓wR2, ↓d2, ↓d20, ↓dAdd, ↓dMul, ↓dEq, ↓dNe, ↓dIsN, ↓dNotN, ↓isN, ↓dNeg, ↓dIx, ↓dInI, ↓dSl, ↓truD, ↓cLen, ↓cAbs, ↓cMax2, ↓cMin2, ↓cInt, ↓cTup, ↓cLst, ↓sv, ↓List.getD_cons_zero, ↓List.getD_cons_succ, ↓List.set_cons_zero, ↓List.set_cons_succ, ↓vxSeq, ↓vxIf, ↓vxRaise, ↓vxRet, ↓vxAsg, ↓vxCall, ↓vReason, ↓vEqS, h3, decide_false]
    exact hD
  | succ k ih =>
    intro j h1 h2 hD
    rw [wit_succ]
    generalize hW : wit rd_root_convergents_w1c rd_root_convergents_w1b D (k + 1) = W
    by_cases hj : (((w :: cyc l j).map PyData.int).length : Int) < many
    · simp only [↓rd_root_convergents_w1c, ↓rd_root_convergents_w1b, ↓tI, ↓vSeq, ↓vPar, ↓vPar3, ↓vSet, ↓vSetO, ↓vAsg, ↓vAug, ↓vAppend, ↓vExt, ↓vUnp, ↓vFz, ↓vRet, ↓vRetN, ↓vDrop, ↓vIfS, ↓vNext, ↓vBrk, ↓vCnt, ↓vNever, ↓vForS, ↓vC, ↓vVar, ↓vTup, ↓vOf, ↓vBin, ↓vBinL, ↓vBinR, ↓vUn, ↓vCall, ↓vCallO, ↓vCallIO, ↓vCallSC, ↓vLookA, ↓vB, ↓vTru, ↓vTruO, ↓vAnd, ↓vOr, ↓vNot, ↓vAndV, ↓vOrV, ↓vNotV, ↓vIf, ↓vChain, ↓vNil, ↓vCons, ↓vSl, ↓vSlL, ↓vP0, ↓vP1, ↓vRevT, ↓vRevL, ↓vRevLL, ↓vBits, ↓vPop, ↓vLc, ↓vTurn, ↓vYes, ↓gN, ↓gT, ↓gsC, ↓gs0, ↓gSet, ↓wL, ↓wT, ↓wR1, ↓wR2, ↓d2, ↓d20, ↓dAdd, ↓dMul, ↓dEq, ↓dNe, ↓dIsN, ↓dNotN, ↓isN, ↓dNeg, ↓dIx, ↓dInI, ↓dSl, ↓truD, ↓cLen, ↓cAbs, ↓cMax2, ↓cMin2, ↓cInt, ↓cTup, ↓cLst, ↓sv, ↓List.getD_cons_zero, ↓List.getD_cons_succ, ↓List.set_cons_zero, ↓List.set_cons_succ, ↓vxSeq, ↓vxIf, ↓vxRaise, ↓vxRet, ↓vxAsg, ↓vxCall, ↓vReason, ↓vEqS, hj, decide_true]
      rw [List.length_map, List.length_cons, cyc_len] at hj
      have e1 : ((((w :: cyc l j).map PyData.int).length : Int) - 1).fmod ((l.map PyData.int).length : Int) = ((j % l.length : Nat) : Int) := by
        rw [List.length_map, List.length_map, List.length_cons, cyc_len, fmod_pos (by omega)]
        have e0 : ((j + 1 : Nat) : Int) - 1 = (j : Int) := by omega
        rw [e0]; omega
      have e2 : atI (l.map PyData.int) ((j % l.length : Nat) : Int) = some (.int (l.getD (j % l.length) 0)) := by
        rw [atI_nat (by omega), Int.toNat_natCast, List.getElem?_map, List.getD_eq_getElem?_getD, List.getElem?_eq_getElem (Nat.mod_lt j hp)]
        rfl
      rw [e1, e2]
      simp only [↓vSeq, ↓vPar, ↓vPar3, ↓vSet, ↓vSetO, ↓vAsg, ↓vAug, ↓vAppend, ↓vExt, ↓vUnp, ↓vFz, ↓vRet, ↓vRetN, ↓vDrop, ↓vIfS, ↓vNext, ↓vBrk, ↓vCnt, ↓vNever, ↓vForS, ↓vC, ↓vVar, ↓vTup, ↓vOf, ↓vBin, ↓vBinL, ↓vBinR, ↓vUn, ↓vCall, ↓vCallO, ↓vCallIO, ↓vCallSC, ↓vLookA, ↓vB, ↓vTru, ↓vTruO, ↓vAnd, ↓vOr, ↓vNot, ↓vAndV, ↓vOrV, ↓vNotV, ↓vIf, ↓vChain, ↓vNil, ↓vCons, ↓vSl, ↓vSlL, ↓vP0, ↓vP1, ↓vRevT, ↓vRevL, ↓vRevLL, ↓vBits, ↓vPop, ↓vLc, ↓vTurn, ↓vYes, ↓gN, ↓gT, ↓gsC, ↓gs0, ↓gSet, ↓wL, ↓wT, ↓wR1, ↓wR2, ↓d2, ↓d20, ↓dAdd, ↓dMul, ↓dEq, ↓dNe, ↓dIsN, ↓dNotN, ↓isN, ↓dNeg, ↓dIx, ↓dInI, ↓dSl, ↓truD, ↓cLen, ↓cAbs, ↓cMax2, ↓cMin2, ↓cInt, ↓cTup, ↓cLst, ↓sv, ↓List.getD_cons_zero, ↓List.getD_cons_succ, ↓List.set_cons_zero, ↓List.set_cons_succ, ↓vxSeq, ↓vxIf, ↓vxRaise, ↓vxRet, ↓vxAsg, ↓vxCall, ↓vReason, ↓vEqS]
      refine ⟨by rw [List.length_map]; omega, by rw [List.length_map, List.length_cons, cyc_len, sizeLine_eq]; omega, ?_⟩
      have e3 : (w :: cyc l j).map PyData.int ++ [.int (l.getD (j % l.length) 0)] = (w :: cyc l (j + 1)).map .int := by rw [cyc_succ, map_snoc]; rfl
      rw [e3, ← hW]
      exact ih (j + 1) (by omega) (by omega) hD
    · have hj2 := hj
      rw [List.length_map, List.length_cons, cyc_len] at hj2
      have e : many.toNat - 1 = j := by omega
      rw [e] at hD
      simp only [↓rd_root_convergents_w1c, ↓vSeq, ↓vPar, ↓vPar3, ↓vSet, ↓vSetO, ↓vAsg, ↓vAug, ↓vAppend, ↓vExt, ↓vUnp, ↓vFz, ↓vRet, ↓vRetN, ↓vDrop, ↓vIfS, ↓vNext, ↓vBrk, ↓vCnt, ↓vNever, ↓vForS, ↓vC, ↓vVar, ↓vTup, ↓vOf, ↓vBin, ↓vBinL, ↓vBinR, ↓vUn, ↓vCall, ↓vCallO, ↓vCallIO, ↓vCallSC, ↓vLookA, ↓vB, ↓vTru, ↓vTruO, ↓vAnd, ↓vOr, ↓vNot, ↓vAndV, ↓vOrV, ↓vNotV, ↓vIf, ↓vChain, ↓vNil, ↓vCons, ↓vSl, ↓vSlL, ↓vP0, ↓vP1, ↓vRevT, ↓vRevL, ↓vRevLL, ↓vBits, ↓vPop, ↓vLc, ↓vTurn, ↓vYes, ↓gN, ↓gT, ↓gsC, ↓gs0, ↓gSet, ↓wL, ↓wT, ↓wR1, ↓wR2, ↓d2, ↓d20, ↓dAdd, ↓dMul, ↓dEq, ↓dNe, ↓dIsN, ↓dNotN, ↓isN, ↓dNeg, ↓dIx, ↓dInI, ↓dSl, ↓truD, ↓cLen, ↓cAbs, ↓cMax2, ↓cMin2, ↓cInt, ↓cTup, ↓cLst, ↓sv, ↓List.getD_cons_zero, ↓List.getD_cons_succ, ↓List.set_cons_zero, ↓List.set_cons_succ, ↓vxSeq, ↓vxIf, ↓vxRaise, ↓vxRet, ↓vxAsg, ↓vxCall, ↓vReason, ↓vEqS, hj, decide_false]
      exact hD
theorem hq_root_convergents (ds : List D) (Q : D → Prop) (h : sp_root_convergents ds Q) : rd_root_convergents { nx := fun _ => Q .none, rt := fun d _ => Q d } (ev0 ["number", "many", "first", "period", "terms"] ds) := by
  obtain ⟨n, many, w, l, rfl, hk, h1, h2, h⟩ := h
  have hk' := hk
  obtain ⟨k1, k2, hr, hne, hgo, hb, hl0, hl⟩ := hk'
  have e3 := root_small hr k2
  have e5 := hr.1
  show rd_root_convergents _ [.fr (.int n), .fr (.int many), .un, .un, .un]
  simp only [↓rd_root_convergents, ↓vSeq, ↓vPar, ↓vPar3, ↓vSet, ↓vSetO, ↓vAsg, ↓vAug, ↓vAppend, ↓vExt, ↓vUnp, ↓vFz, ↓vRet, ↓vRetN, ↓vDrop, ↓vIfS, ↓vNext, ↓vBrk, ↓vCnt, ↓vNever, ↓vForS, ↓vC, ↓vVar, ↓vTup, ↓vOf, ↓vBin, ↓vBinL, ↓vBinR, ↓vUn, ↓vCall, ↓vCallO, ↓vCallIO, ↓vCallSC, ↓vLookA, ↓vB, ↓vTru, ↓vTruO, ↓vAnd, ↓vOr, ↓vNot, ↓vAndV, ↓vOrV, ↓vNotV, ↓vIf, ↓vChain, ↓vNil, ↓vCons, ↓vSl, ↓vSlL, ↓vP0, ↓vP1, ↓vRevT, ↓vRevL, ↓vRevLL, ↓vBits, ↓vPop, ↓vLc, ↓vTurn, ↓vYes, ↓gN, ↓gT, ↓gsC, ↓gs0, ↓gSet, ↓wL, ↓wT, ↓wR1, ↓wR2, ↓d2, ↓d20, ↓dAdd, ↓dMul, ↓dEq, ↓dNe, ↓dIsN, ↓dNotN, ↓isN, ↓dNeg, ↓dIx, ↓dInI, ↓dSl, ↓truD, ↓cLen, ↓cAbs, ↓cMax2, ↓cMin2, ↓cInt, ↓cTup, ↓cLst, ↓sv, ↓List.getD_cons_zero, ↓List.getD_cons_succ, ↓List.set_cons_zero, ↓List.set_cons_succ, ↓vxSeq, ↓vxIf, ↓vxRaise, ↓vxRet, ↓vxAsg, ↓vxCall, ↓vReason, ↓vEqS]
  refine ⟨n, w, l, rfl, hk, ?_⟩
  simp only [↓vSeq, ↓vPar, ↓vPar3, ↓vSet, ↓vSetO, ↓vAsg, ↓vAug, ↓vAppend, ↓vExt, ↓vUnp, ↓vFz, ↓vRet, ↓vRetN, ↓vDrop, ↓vIfS, ↓vNext, ↓vBrk, ↓vCnt, ↓vNever, ↓vForS, ↓vC, ↓vVar, ↓vTup, ↓vOf, ↓vBin, ↓vBinL, ↓vBinR, ↓vUn, ↓vCall, ↓vCallO, ↓vCallIO, ↓vCallSC, ↓vLookA, ↓vB, ↓vTru, ↓vTruO, ↓vAnd, ↓vOr, ↓vNot, ↓vAndV, ↓vOrV, ↓vNotV, ↓vIf, ↓vChain, ↓vNil, ↓vCons, ↓vSl, ↓vSlL, ↓vP0, ↓vP1, ↓vRevT, ↓vRevL, ↓vRevLL, ↓vBits, ↓vPop, ↓vLc, ↓vTurn, ↓vYes, ↓gN, ↓gT, ↓gsC, ↓gs0, ↓gSet, ↓wL, ↓wT, ↓wR1, ↓wR2, ↓d2, ↓d20, ↓dAdd, ↓dMul, ↓dEq, ↓dNe, ↓dIsN, ↓dNotN, ↓isN, ↓dNeg, ↓dIx, ↓dInI, ↓dSl, ↓truD, ↓cLen, ↓cAbs, ↓cMax2, ↓cMin2, ↓cInt, ↓cTup, ↓cLst, ↓sv, ↓List.getD_cons_zero, ↓List.getD_cons_succ, ↓List.set_cons_zero, ↓List.set_cons_succ, ↓vxSeq, ↓vxIf, ↓vxRaise, ↓vxRet, ↓vxAsg, ↓vxCall, ↓vReason, ↓vEqS]
  refine ⟨rfl, many.toNat + 1, wit_rc _ n many w l hl0 hl h2 many.toNat 0 (by omega) (by omega) ?_⟩
  simp only [↓vSeq, ↓vPar, ↓vPar3, ↓vSet, ↓vSetO, ↓vAsg, ↓vAug, ↓vAppend, ↓vExt, ↓vUnp, ↓vFz, ↓vRet, ↓vRetN, ↓vDrop, ↓vIfS, ↓vNext, ↓vBrk, ↓vCnt, ↓vNever, ↓vForS, ↓vC, ↓vVar, ↓vTup, ↓vOf, ↓vBin, ↓vBinL, ↓vBinR, ↓vUn, ↓vCall, ↓vCallO, ↓vCallIO, ↓vCallSC, ↓vLookA, ↓vB, ↓vTru, ↓vTruO, ↓vAnd, ↓vOr, ↓vNot, ↓vAndV, ↓vOrV, ↓vNotV, ↓vIf, ↓vChain, ↓vNil, ↓vCons, ↓vSl, ↓vSlL, ↓vP0, ↓vP1, ↓vRevT, ↓vRevL, ↓vRevLL, ↓vBits, ↓vPop, ↓vLc, ↓vTurn, ↓vYes, ↓gN, ↓gT, ↓gsC, ↓gs0, ↓gSet, ↓wL, ↓wT, ↓wR1, ↓wR2, ↓d2, ↓d20, ↓dAdd, ↓dMul, ↓dEq, ↓dNe, ↓dIsN, ↓dNotN, ↓isN, ↓dNeg, ↓dIx, ↓dInI, ↓dSl, ↓truD, ↓cLen, ↓cAbs, ↓cMax2, ↓cMin2, ↓cInt, ↓cTup, ↓cLst, ↓sv, ↓List.getD_cons_zero, ↓List.getD_cons_succ, ↓List.set_cons_zero, ↓List.set_cons_succ, ↓vxSeq, ↓vxIf, ↓vxRaise, ↓vxRet, ↓vxAsg, ↓vxCall, ↓vReason, ↓vEqS]
  rw [cut_take (by omega)]
  have e : ((w :: cyc l (many.toNat - 1)).map PyData.int).take many.toNat = (w :: cyc l (many.toNat - 1)).map .int := List.take_of_length_le (by rw [List.length_map, List.length_cons, cyc_len]; omega)
  rw [e]
  refine ⟨_, rfl, fun t ht => ?_, by rw [List.length_cons, cyc_len]; omega, h⟩
  rcases List.mem_cons.mp ht with z | z
  · rw [z]; exact ⟨by omega, by omega⟩
  · have := hb t (cyc_mem hl0 z)
    exact ⟨by omega, by omega⟩
theorem hq_least_unit (ds : List D) (Q : D → Prop) (h : sp_least_unit ds Q) : rd_least_unit { nx := fun _ => Q .none, rt := fun d _ => Q d } (ev0 ["number", "first", "period", "x", "y"] ds) := by
  obtain ⟨n, w, l, p, rfl, hk, hp, h⟩ := h
  have hk' := hk
  obtain ⟨k1, k2, hr, hne, hgo, hb, hl0, hl⟩ := hk'
  have hlp := List.length_pos_iff.mpr hl0
  show rd_least_unit _ [.fr (.int n), .un, .un, .un, .un]
  simp only [↓rd_least_unit, ↓vSeq, ↓vPar, ↓vPar3, ↓vSet, ↓vSetO, ↓vAsg, ↓vAug, ↓vAppend, ↓vExt, ↓vUnp, ↓vFz, ↓vRet, ↓vRetN, ↓vDrop, ↓vIfS, ↓vNext, ↓vBrk, ↓vCnt, ↓vNever, ↓vForS, ↓vC, ↓vVar, ↓vTup, ↓vOf, ↓vBin, ↓vBinL, ↓vBinR, ↓vUn, ↓vCall, ↓vCallO, ↓vCallIO, ↓vCallSC, ↓vLookA, ↓vB, ↓vTru, ↓vTruO, ↓vAnd, ↓vOr, ↓vNot, ↓vAndV, ↓vOrV, ↓vNotV, ↓vIf, ↓vChain, ↓vNil, ↓vCons, ↓vSl, ↓vSlL, ↓vP0, ↓vP1, ↓vRevT, ↓vRevL, ↓vRevLL, ↓vBits, ↓vPop, ↓vLc, ↓vTurn, ↓vYes, ↓gN, ↓gT, ↓gsC, ↓gs0, ↓gSet, ↓wL, ↓wT, ↓wR1, ↓wR2, ↓d2, ↓d20, ↓dAdd, ↓dMul, ↓dEq, ↓dNe, ↓dIsN, ↓dNotN, ↓isN, ↓dNeg, ↓dIx, ↓dInI, ↓dSl, ↓truD, ↓cLen, ↓cAbs, ↓cMax2, ↓cMin2, ↓cInt, ↓cTup, ↓cLst, ↓sv, ↓List.getD_cons_zero, ↓List.getD_cons_succ, ↓List.set_cons_zero, ↓List.set_cons_succ, ↓vxSeq, ↓vxIf, ↓vxRaise, ↓vxRet, ↓vxAsg, ↓vxCall, ↓vReason, ↓vEqS]
  refine ⟨n, w, l, rfl, hk, ?_⟩
  simp only [↓tI, ↓vSeq, ↓vPar, ↓vPar3, ↓vSet, ↓vSetO, ↓vAsg, ↓vAug, ↓vAppend, ↓vExt, ↓vUnp, ↓vFz, ↓vRet, ↓vRetN, ↓vDrop, ↓vIfS, ↓vNext, ↓vBrk, ↓vCnt, ↓vNever, ↓vForS, ↓vC, ↓vVar, ↓vTup, ↓vOf, ↓vBin, ↓vBinL, ↓vBinR, ↓vUn, ↓vCall, ↓vCallO, ↓vCallIO, ↓vCallSC, ↓vLookA, ↓vB, ↓vTru, ↓vTruO, ↓vAnd, ↓vOr, ↓vNot, ↓vAndV, ↓vOrV, ↓vNotV, ↓vIf, ↓vChain, ↓vNil, ↓vCons, ↓vSl, ↓vSlL, ↓vP0, ↓vP1, ↓vRevT, ↓vRevL, ↓vRevLL, ↓vBits, ↓vPop, ↓vLc, ↓vTurn, ↓vYes, ↓gN, ↓gT, ↓gsC, ↓gs0, ↓gSet, ↓wL, ↓wT, ↓wR1, ↓wR2, ↓d2, ↓d20, ↓dAdd, ↓dMul, ↓dEq, ↓dNe, ↓dIsN, ↓dNotN, ↓isN, ↓dNeg, ↓dIx, ↓dInI, ↓dSl, ↓truD, ↓cLen, ↓cAbs, ↓cMax2, ↓cMin2, ↓cInt, ↓cTup, ↓cLst, ↓sv, ↓List.getD_cons_zero, ↓List.getD_cons_succ, ↓List.set_cons_zero, ↓List.set_cons_succ, ↓vxSeq, ↓vxIf, ↓vxRaise, ↓vxRet, ↓vxAsg, ↓vxCall, ↓vReason, ↓vEqS]
  refine ⟨rfl, n, ((l.map PyData.int).length : Int), w, l, rfl, hk, by rw [List.length_map]; omega, by rw [List.length_map]; omega, ?_⟩
  have e1 : ((l.map PyData.int).length : Int).toNat - 1 = l.length - 1 := by rw [List.length_map]; omega
  rw [e1]
  generalize hcv : conv (1, 0) (0, 1) (w :: cyc l (l.length - 1)) = rows at *
  have hrow : rows ≠ [] := by intro z; rw [z] at hp; cases hp
  have hrow2 : rows.map frD ≠ [] := by simpa using hrow
  have e2 : (rows.map frD).getLast hrow2 = frD p := by
    rw [List.getLast_map]
    rw [List.getLast?_eq_some_getLast hrow] at hp
    rw [Option.some.inj hp]
  simp only [↓vSeq, ↓vPar, ↓vPar3, ↓vSet, ↓vSetO, ↓vAsg, ↓vAug, ↓vAppend, ↓vExt, ↓vUnp, ↓vFz, ↓vRet, ↓vRetN, ↓vDrop, ↓vIfS, ↓vNext, ↓vBrk, ↓vCnt, ↓vNever, ↓vForS, ↓vC, ↓vVar, ↓vTup, ↓vOf, ↓vBin, ↓vBinL, ↓vBinR, ↓vUn, ↓vCall, ↓vCallO, ↓vCallIO, ↓vCallSC, ↓vLookA, ↓vB, ↓vTru, ↓vTruO, ↓vAnd, ↓vOr, ↓vNot, ↓vAndV, ↓vOrV, ↓vNotV, ↓vIf, ↓vChain, ↓vNil, ↓vCons, ↓vSl, ↓vSlL, ↓vP0, ↓vP1, ↓vRevT, ↓vRevL, ↓vRevLL, ↓vBits, ↓vPop, ↓vLc, ↓vTurn, ↓vYes, ↓gN, ↓gT, ↓gsC, ↓gs0, ↓gSet, ↓wL, ↓wT, ↓wR1, ↓wR2, ↓d2, ↓d20, ↓dAdd, ↓dMul, ↓dEq, ↓dNe, ↓dIsN, ↓dNotN, ↓isN, ↓dNeg, ↓dIx, ↓dInI, ↓dSl, ↓truD, ↓cLen, ↓cAbs, ↓cMax2, ↓cMin2, ↓cInt, ↓cTup, ↓cLst, ↓sv, ↓List.getD_cons_zero, ↓List.getD_cons_succ, ↓List.set_cons_zero, ↓List.set_cons_succ, ↓vxSeq, ↓vxIf, ↓vxRaise, ↓vxRet, ↓vxAsg, ↓vxCall, ↓vReason, ↓vEqS]
  rw [atI_neg1 hrow2, e2]
  simp only [↓vSeq, ↓vPar, ↓vPar3, ↓vSet, ↓vSetO, ↓vAsg, ↓vAug, ↓vAppend, ↓vExt, ↓vUnp, ↓vFz, ↓vRet, ↓vRetN, ↓vDrop, ↓vIfS, ↓vNext, ↓vBrk, ↓vCnt, ↓vNever, ↓vForS, ↓vC, ↓vVar, ↓vTup, ↓vOf, ↓vBin, ↓vBinL, ↓vBinR, ↓vUn, ↓vCall, ↓vCallO, ↓vCallIO, ↓vCallSC, ↓vLookA, ↓vB, ↓vTru, ↓vTruO, ↓vAnd, ↓vOr, ↓vNot, ↓vAndV, ↓vOrV, ↓vNotV, ↓vIf, ↓vChain, ↓vNil, ↓vCons, ↓vSl, ↓vSlL, ↓vP0, ↓vP1, ↓vRevT, ↓vRevL, ↓vRevLL, ↓vBits, ↓vPop, ↓vLc, ↓vTurn, ↓vYes, ↓gN, ↓gT, ↓gsC, ↓gs0, ↓gSet, ↓wL, ↓wT, ↓wR1, ↓wR2, ↓d2, ↓d20, ↓dAdd, ↓dMul, ↓dEq, ↓dNe, ↓dIsN, ↓dNotN, ↓isN, ↓dNeg, ↓dIx, ↓dInI, ↓dSl, ↓truD, ↓cLen, ↓cAbs, ↓cMax2, ↓cMin2, ↓cInt, ↓cTup, ↓cLst, ↓sv, ↓List.getD_cons_zero, ↓List.getD_cons_succ, ↓List.set_cons_zero, ↓List.set_cons_succ, ↓vxSeq, ↓vxIf, ↓vxRaise, ↓vxRet, ↓vxAsg, ↓vxCall, ↓vReason, ↓vEqS, List.length_map]
  refine ⟨rfl, by omega, ?_⟩
  have e3 : ((l.length : Int)).fmod 2 = ((l.length % 2 : Nat) : Int) := by rw [fmod_pos (by omega)]; omega
  rw [e3]
  by_cases h2 : l.length % 2 = 0
  · rw [if_pos h2] at h
    simp only [h2, decide_true, Int.natCast_zero, ↓vSeq, ↓vPar, ↓vPar3, ↓vSet, ↓vSetO, ↓vAsg, ↓vAug, ↓vAppend, ↓vExt, ↓vUnp, ↓vFz, ↓vRet, ↓vRetN, ↓vDrop, ↓vIfS, ↓vNext, ↓vBrk, ↓vCnt, ↓vNever, ↓vForS, ↓vC, ↓vVar, ↓vTup, ↓vOf, ↓vBin, ↓vBinL, ↓vBinR, ↓vUn, ↓vCall, ↓vCallO, ↓vCallIO, ↓vCallSC, ↓vLookA, ↓vB, ↓vTru, ↓vTruO, ↓vAnd, ↓vOr, ↓vNot, ↓vAndV, ↓vOrV, ↓vNotV, ↓vIf, ↓vChain, ↓vNil, ↓vCons, ↓vSl, ↓vSlL, ↓vP0, ↓vP1, ↓vRevT, ↓vRevL, ↓vRevLL, ↓vBits, ↓vPop, ↓vLc, ↓vTurn, ↓vYes, ↓gN, ↓gT, ↓gsC, ↓gs0, ↓gSet, ↓wL, ↓wT, ↓wR1, ↓wR2, ↓d2, ↓d20, ↓dAdd, ↓dMul, ↓dEq, ↓dNe, ↓dIsN, ↓dNotN, ↓isN, ↓dNeg, ↓dIx, ↓dInI, ↓dSl, ↓truD, ↓cLen, ↓cAbs, ↓cMax2, ↓cMin2, ↓cInt, ↓cTup, ↓cLst, ↓sv, ↓List.getD_cons_zero, ↓List.getD_cons_succ, ↓List.set_cons_zero, ↓List.set_cons_succ, ↓vxSeq, ↓vxIf, ↓vxRaise, ↓vxRet, ↓vxAsg, ↓vxCall, ↓vReason, ↓vEqS]
    simpa using h
  · rw [if_neg h2] at h
    have h3 : ¬ ((l.length % 2 : Nat) : Int) = 0 := by omega
    simp only [h3, decide_false, ↓vSeq, ↓vPar, ↓vPar3, ↓vSet, ↓vSetO, ↓vAsg, ↓vAug, ↓vAppend, ↓vExt, ↓vUnp, ↓vFz, ↓vRet, ↓vRetN, ↓vDrop, ↓vIfS, ↓vNext, ↓vBrk, ↓vCnt, ↓vNever, ↓vForS, ↓vC, ↓vVar, ↓vTup, ↓vOf, ↓vBin, ↓vBinL, ↓vBinR, ↓vUn, ↓vCall, ↓vCallO, ↓vCallIO, ↓vCallSC, ↓vLookA, ↓vB, ↓vTru, ↓vTruO, ↓vAnd, ↓vOr, ↓vNot, ↓vAndV, ↓vOrV, ↓vNotV, ↓vIf, ↓vChain, ↓vNil, ↓vCons, ↓vSl, ↓vSlL, ↓vP0, ↓vP1, ↓vRevT, ↓vRevL, ↓vRevLL, ↓vBits, ↓vPop, ↓vLc, ↓vTurn, ↓vYes, ↓gN, ↓gT, ↓gsC, ↓gs0, ↓gSet, ↓wL, ↓wT, ↓wR1, ↓wR2, ↓d2, ↓d20, ↓dAdd, ↓dMul, ↓dEq, ↓dNe, ↓dIsN, ↓dNotN, ↓isN, ↓dNeg, ↓dIx, ↓dInI, ↓dSl, ↓truD, ↓cLen, ↓cAbs, ↓cMax2, ↓cMin2, ↓cInt, ↓cTup, ↓cLst, ↓sv, ↓List.getD_cons_zero, ↓List.getD_cons_succ, ↓List.set_cons_zero, ↓List.set_cons_succ, ↓vxSeq, ↓vxIf, ↓vxRaise, ↓vxRet, ↓vxAsg, ↓vxCall, ↓vReason, ↓vEqS]
    exact h
end VL

set_option Elab.async false
set_option linter.all false
set_option maxRecDepth 100000
set_option maxHeartbeats 4000000
namespace VL
open PySem PySem.Spec PyProof.Rows L2 HD
/-! ### cross products -/
theorem le_of_mul_pos {a b c : Int} (hc : 0 < c) (h : a * c ≤ b * c) : a ≤ b := Int.le_of_mul_le_mul_right h hc
theorem lt_of_mul_pos {a b c : Int} (hc : 0 < c) (h : a * c < b * c) : a < b := Int.lt_of_mul_lt_mul_right h (Int.le_of_lt hc)
theorem cr_ll {a b c d e f : Int} (hb : 0 < b) (hd : 0 < d) (hf : 0 < f) (h : a * d ≤ c * b) (k : c * f ≤ e * d) : a * f ≤ e * b := by
  refine le_of_mul_pos hd ?_
  have h1 : a * d * f ≤ c * b * f := Int.mul_le_mul_of_nonneg_right h (by omega)
  have h2 : c * f * b ≤ e * d * b := Int.mul_le_mul_of_nonneg_right k (by omega)
  have e1 : a * f * d = a * d * f := by grind
  have e2 : e * b * d = e * d * b := by grind
  have e3 : c * b * f = c * f * b := by grind
  omega
theorem cr_tl {a b c d e f : Int} (hb : 0 < b) (hd : 0 < d) (hf : 0 < f) (h : a * d < c * b) (k : c * f ≤ e * d) : a * f < e * b := by
  refine lt_of_mul_pos hd ?_
  have h1 : a * d * f < c * b * f := Int.mul_lt_mul_of_pos_right h hf
  have h2 : c * f * b ≤ e * d * b := Int.mul_le_mul_of_nonneg_right k (by omega)
  have e1 : a * f * d = a * d * f := by grind
  have e2 : e * b * d = e * d * b := by grind
  have e3 : c * b * f = c * f * b := by grind
  omega
theorem cr_lt {a b c d e f : Int} (hb : 0 < b) (hd : 0 < d) (hf : 0 < f) (h : a * d ≤ c * b) (k : c * f < e * d) : a * f < e * b := by
  refine lt_of_mul_pos hd ?_
  have h1 : a * d * f ≤ c * b * f := Int.mul_le_mul_of_nonneg_right h (by omega)
  have h2 : c * f * b < e * d * b := Int.mul_lt_mul_of_pos_right k hb
  have e1 : a * f * d = a * d * f := by grind
  have e2 : e * b * d = e * d * b := by grind
  have e3 : c * b * f = c * f * b := by grind
  omega
theorem cr_eq {a b c d e f : Int} (hb : 0 < b) (hd : 0 < d) (hf : 0 < f) (h : a * d = c * b) (k : c * f = e * d) : a * f = e * b :=
  Int.le_antisymm (cr_ll hb hd hf (Int.le_of_eq h) (Int.le_of_eq k)) (cr_ll hf hd hb (Int.le_of_eq k.symm) (Int.le_of_eq h.symm))
theorem nle_trans {a b : Int} {u v w : Int × Int} (hu : 0 < u.2) (hv : 0 < v.2) (hw : 0 < w.2) (h : NLe a b u v) (k : NLe a b v w) : NLe a b u w := by
  rcases h with h | ⟨h, h'⟩
  · rcases k with k | ⟨k, k'⟩
    · exact .inl (cr_tl hu hv hw h (Int.le_of_lt k))
    · exact .inl (cr_tl hu hv hw h (Int.le_of_eq k))
  · rcases k with k | ⟨k, k'⟩
    · exact .inl (cr_lt hu hv hw (Int.le_of_eq h) k)
    · exact .inr ⟨cr_eq hu hv hw h k, cr_ll hu hv hw h' k'⟩
theorem nle_refl {a b : Int} {u : Int × Int} : NLe a b u u := .inr ⟨rfl, Int.le_refl _⟩
theorem nle_total {a b : Int} {u v : Int × Int} (h : ¬ NLe a b u v) : NLe a b v u := by
  unfold NLe at h ⊢
  rcases Int.lt_trichotomy (gapN a b u * v.2) (gapN a b v * u.2) with z | z | z
  · exact absurd (.inl z) h
  · refine .inr ⟨z.symm, ?_⟩
    refine Int.not_lt.mp fun y => h (.inr ⟨z, Int.le_of_lt y⟩)
  · exact .inl z
theorem near_iff {g u v : Int × Int} : nearB g u v = true ↔ ¬ NLe g.1 g.2 v u := by
  unfold nearB NLe
  simp only [Bool.or_eq_true, Bool.and_eq_true, decide_eq_true_eq]
  omega
theorem near_false {g u v : Int × Int} : nearB g u v = false ↔ NLe g.1 g.2 v u := by
  cases h : nearB g u v with
  | true => simp only [Bool.true_eq_false, false_iff]; exact near_iff.mp h
  | false =>
    simp only [true_iff]
    by_cases z : NLe g.1 g.2 v u
    · exact z
    · rw [near_iff.mpr z] at h; cases h
theorem cop_dvd {k m n : Int} (h : Int.gcd m k = 1) (d : k ∣ m * n) : k ∣ n := by
  have h1 : Nat.Coprime k.natAbs m.natAbs := by
    show Nat.gcd k.natAbs m.natAbs = 1
    rw [Nat.gcd_comm]; exact h
  have h2 : k.natAbs ∣ m.natAbs * n.natAbs := by
    rw [← Int.natAbs_mul]; exact Int.natAbs_dvd_natAbs.mpr d
  exact Int.natAbs_dvd_natAbs.mp (h1.dvd_of_dvd_mul_left h2)
theorem coprime_uniq {u v : Int × Int} (hu : 0 < u.2) (hv : 0 < v.2) (gu : Int.gcd u.1 u.2 = 1) (gv : Int.gcd v.1 v.2 = 1) (h : u.1 * v.2 = v.1 * u.2) : u = v := by
  have d1 : u.2 ∣ v.2 := by
    have : u.2 ∣ u.1 * v.2 := ⟨v.1, by rw [h]; exact Int.mul_comm _ _⟩
    exact cop_dvd gu this
  have d2 : v.2 ∣ u.2 := by
    have : v.2 ∣ v.1 * u.2 := ⟨u.1, by rw [← h]; exact Int.mul_comm _ _⟩
    exact cop_dvd gv this
  have e2 : u.2 = v.2 := Int.le_antisymm (Int.le_of_dvd hv d1) (Int.le_of_dvd hu d2)
  have e1 : u.1 = v.1 := by
    rw [← e2] at h
    exact Int.eq_of_mul_eq_mul_right (by omega) h
  exact Prod.ext e1 e2
theorem best_uniq {a b m : Int} {u v : Int × Int} (hu : Best a b m u) (hv : Best a b m v) : u = v := by
  obtain ⟨u1, u2, u3, u4⟩ := hu
  obtain ⟨v1, v2, v3, v4⟩ := hv
  have h1 := u4 v v1 v2
  have h2 := v4 u u1 u2
  refine coprime_uniq u1 v1 u3 v3 ?_
  unfold NLe at h1 h2
  omega
/-! ### in lowest terms -/
theorem red_spec {a b : Int} (hb : 0 < b) : ∃ d : Int, 0 < d ∧ a = d * (red a b).1 ∧ b = d * (red a b).2 ∧ 0 < (red a b).2 ∧ Int.gcd (red a b).1 (red a b).2 = 1 := by
  obtain ⟨g1, g2⟩ := gcd_pos (a := a) hb
  have h1 : (Int.gcd a b : Int) ∣ a := Int.gcd_dvd_left a b
  have h2 : (Int.gcd a b : Int) ∣ b := Int.gcd_dvd_right a b
  refine ⟨Int.gcd a b, by omega, (Int.mul_ediv_cancel' h1).symm, (Int.mul_ediv_cancel' h2).symm, Int.ediv_pos_of_pos_of_dvd hb (by omega) h2, ?_⟩
  exact Int.gcd_ediv_gcd_ediv_gcd (Nat.pos_of_ne_zero (by omega))
theorem red_uniq {a b d : Int} {u : Int × Int} (hd : 0 < d) (hu : 0 < u.2) (g : Int.gcd u.1 u.2 = 1) (ha : a = d * u.1) (hb : b = d * u.2) : red a b = u := by
  have hb0 : 0 < b := by rw [hb]; exact Int.mul_pos hd hu
  obtain ⟨e, e1, e2, e3, e4, e5⟩ := red_spec (a := a) hb0
  refine coprime_uniq e4 hu e5 g ?_
  have h1 : d * u.1 = e * (red a b).1 := by omega
  have h2 : d * u.2 = e * (red a b).2 := by omega
  refine Int.eq_of_mul_eq_mul_left (a := d * e) (Int.ne_of_gt (Int.mul_pos hd e1)) ?_
  have : d * e * ((red a b).1 * u.2) = (d * u.2) * (e * (red a b).1) := by grind
  have k : d * e * (u.1 * (red a b).2) = (d * u.1) * (e * (red a b).2) := by grind
  rw [this, k, ← h1, ← h2]
  exact Int.mul_comm _ _
theorem red_self {u : Int × Int} (hu : 0 < u.2) (g : Int.gcd u.1 u.2 = 1) : red u.1 u.2 = u := red_uniq (d := 1) (by omega) hu g (by omega) (by omega)
theorem red_scale {a b d : Int} (hd : 0 < d) (hb : 0 < b) : red (d * a) (d * b) = red a b := by
  obtain ⟨e, e1, e2, e3, e4, e5⟩ := red_spec (a := a) hb
  refine red_uniq (d := d * e) (Int.mul_pos hd e1) e4 e5 ?_ ?_
  · conv => lhs; rw [e2]
    grind
  · conv => lhs; rw [e3]
    grind
/-- fractions in lowest terms are compared as they were -/
theorem red_lt {a b c d : Int} (hb : 0 < b) (hd : 0 < d) : (red a b).1 * (red c d).2 < (red c d).1 * (red a b).2 ↔ a * d < c * b := by
  obtain ⟨e, e1, e2, e3, e4, e5⟩ := red_spec (a := a) hb
  obtain ⟨f, f1, f2, f3, f4, f5⟩ := red_spec (a := c) hd
  have k1 : a * d = ((red a b).1 * (red c d).2) * (e * f) := by
    conv => lhs; rw [e2, f3]
    grind
  have k2 : c * b = ((red c d).1 * (red a b).2) * (e * f) := by
    conv => lhs; rw [f2, e3]
    grind
  rw [k1, k2]
  have hp := Int.mul_pos e1 f1
  exact ⟨fun h => Int.mul_lt_mul_of_pos_right h hp, fun h => lt_of_mul_pos hp h⟩
theorem red_eq {a b c d : Int} (hb : 0 < b) (hd : 0 < d) : red a b = red c d ↔ a * d = c * b := by
  obtain ⟨e, e1, e2, e3, e4, e5⟩ := red_spec (a := a) hb
  obtain ⟨f, f1, f2, f3, f4, f5⟩ := red_spec (a := c) hd
  have k1 : a * d = ((red a b).1 * (red c d).2) * (e * f) := by
    conv => lhs; rw [e2, f3]
    grind
  have k2 : c * b = ((red c d).1 * (red a b).2) * (e * f) := by
    conv => lhs; rw [f2, e3]
    grind
  have hp := Int.mul_pos e1 f1
  rw [k1, k2]
  constructor
  · intro h; rw [h]
  · intro h
    exact coprime_uniq e4 f4 e5 f5 (Int.eq_of_mul_eq_mul_right (by omega) h)
theorem gap_scale {a b d : Int} {u : Int × Int} (hd : 0 < d) : gapN a b (d * u.1, d * u.2) = d * gapN a b u := by
  unfold gapN
  have e : d * u.1 * b - a * (d * u.2) = d * (u.1 * b - a * u.2) := by grind
  show ((d * u.1 * b - a * (d * u.2)).natAbs : Int) = _
  rw [e, Int.natAbs_mul]
  have : (d.natAbs : Int) = d := by omega
  push_cast
  rw [this]
theorem gap_scaleG {a b d : Int} {u : Int × Int} (hd : 0 < d) : gapN (d * a) (d * b) u = d * gapN a b u := by
  unfold gapN
  have e : u.1 * (d * b) - d * a * u.2 = d * (u.1 * b - a * u.2) := by grind
  rw [e, Int.natAbs_mul]
  have : (d.natAbs : Int) = d := by omega
  push_cast
  rw [this]
theorem nle_scaleG {a b d : Int} {u v : Int × Int} (hd : 0 < d) : NLe (d * a) (d * b) u v ↔ NLe a b u v := by
  unfold NLe
  rw [gap_scaleG hd, gap_scaleG hd, Int.mul_assoc, Int.mul_assoc]
  constructor
  · rintro (h | ⟨h, k⟩)
    · exact .inl (Int.lt_of_mul_lt_mul_left h (by omega))
    · exact .inr ⟨Int.eq_of_mul_eq_mul_left (by omega) h, k⟩
  · rintro (h | ⟨h, k⟩)
    · exact .inl (Int.mul_lt_mul_of_pos_left h hd)
    · exact .inr ⟨by rw [h], k⟩
/-- a fraction and its lowest terms are as near -/
theorem nle_red {a b : Int} {u : Int × Int} (hu : 0 < u.2) : NLe a b (red u.1 u.2) u ∧ NLe a b u (red u.1 u.2) := by
  obtain ⟨e, e1, e2, e3, e4, e5⟩ := red_spec (a := u.1) hu
  have g : gapN a b u = e * gapN a b (red u.1 u.2) := by
    have := gap_scale (a := a) (b := b) (u := red u.1 u.2) e1
    rw [← e2, ← e3] at this
    exact this
  have k1 : gapN a b (red u.1 u.2) * u.2 = gapN a b u * (red u.1 u.2).2 := by
    rw [g]
    conv => lhs; rw [e3]
    grind
  have k2 : (red u.1 u.2).1 * u.2 = u.1 * (red u.1 u.2).2 := by
    conv => lhs; rw [e3]
    conv => rhs; rw [e2]
    grind
  exact ⟨.inr ⟨k1, Int.le_of_eq k2⟩, .inr ⟨k1.symm, Int.le_of_eq k2.symm⟩⟩
theorem best_red {a b m : Int} {u : Int × Int} (h1 : 0 < u.2) (h2 : u.2 ≤ m) (h : ∀ v : Int × Int, 0 < v.2 → v.2 ≤ m → NLe a b u v) : Best a b m (red u.1 u.2) := by
  obtain ⟨e, e1, e2, e3, e4, e5⟩ := red_spec (a := u.1) h1
  have k : (red u.1 u.2).2 ≤ u.2 := by
    have : 1 * (red u.1 u.2).2 ≤ e * (red u.1 u.2).2 := Int.mul_le_mul_of_nonneg_right (by omega) (by omega)
    omega
  exact ⟨e4, by omega, e5, fun v v1 v2 => nle_trans e4 h1 v1 (nle_red h1).1 (h v v1 v2)⟩
/-! ### between two neighbours -/
theorem nat_abs_eq {x y : Int} (hy : 0 ≤ y) (h : x = y ∨ x = -y) : (x.natAbs : Int) = y := by omega
theorem farey {a b m X y s : Int} {one fr v : Int × Int} (h1 : 0 < one.2) (hf : 0 < fr.2) (hX : 0 < X) (hy : 0 < y) (ha : a = one.1 * X + fr.1 * y) (hb : b = one.2 * X + fr.2 * y)
    (hs : s = 1 ∨ s = -1) (hd : one.1 * fr.2 - fr.1 * one.2 = s) (hm : m < one.2 + fr.2) (hv : 0 < v.2) (hvm : v.2 ≤ m) : NLe a b one v ∨ NLe a b fr v := by
  obtain ⟨p, q⟩ := one
  obtain ⟨pf, qf⟩ := fr
  obtain ⟨p', q'⟩ := v
  dsimp only at *
  have ss : s * s = 1 := by rcases hs with z | z <;> rw [z] <;> rfl
  -- v in the basis of the two
  generalize hα : s * (p' * qf - pf * q') = α
  generalize hβ : s * (p * q' - p' * q) = β
  have eq' : q' = α * q + β * qf := by
    have : α * q + β * qf = s * q' * (p * qf - pf * q) := by rw [← hα, ← hβ]; grind
    rw [this, hd]
    have : s * q' * s = s * s * q' := by grind
    rw [this, ss]; omega
  have ep' : p' = α * p + β * pf := by
    have : α * p + β * pf = s * p' * (p * qf - pf * q) := by rw [← hα, ← hβ]; grind
    rw [this, hd]
    have : s * p' * s = s * s * p' := by grind
    rw [this, ss]; omega
  have g1 : gapN a b (p, q) = y := by
    refine nat_abs_eq (by omega) ?_
    have : p * b - a * q = y * (p * qf - pf * q) := by rw [ha, hb]; grind
    show p * b - a * q = y ∨ _
    rw [this, hd]
    rcases hs with z | z <;> rw [z] <;> omega
  have g2 : gapN a b (pf, qf) = X := by
    refine nat_abs_eq (by omega) ?_
    have : pf * b - a * qf = -(X * (p * qf - pf * q)) := by rw [ha, hb]; grind
    show pf * b - a * qf = X ∨ _
    rw [this, hd]
    rcases hs with z | z <;> rw [z] <;> omega
  have ev : p' * b - a * q' = s * (α * y - β * X) := by
    have : p' * b - a * q' = (p * qf - pf * q) * (α * y - β * X) := by rw [ep', eq', ha, hb]; grind
    rw [this, hd]
  have key : α ≤ 0 ∨ β ≤ 0 := by
    by_cases z : 0 < α ∧ 0 < β
    · have k1 : 1 * q ≤ α * q := Int.mul_le_mul_of_nonneg_right (by omega) (by omega)
      have k2 : 1 * qf ≤ β * qf := Int.mul_le_mul_of_nonneg_right (by omega) (by omega)
      omega
    · omega
  rcases key with hz | hz
  · -- beyond fr
    refine .inr ?_
    have hb0 : 0 < β := by
      refine Int.not_le.mp fun y0 => ?_
      have k1 : α * q ≤ 0 := Int.mul_nonpos_of_nonpos_of_nonneg hz (by omega)
      have k2 : β * qf ≤ 0 := Int.mul_nonpos_of_nonpos_of_nonneg y0 (by omega)
      omega
    have k1 : α * y ≤ 0 := Int.mul_nonpos_of_nonpos_of_nonneg hz (by omega)
    have k2 : 0 < β * X := Int.mul_pos hb0 hX
    have gv : gapN a b (p', q') = β * X - α * y := by
      refine nat_abs_eq (by omega) ?_
      show p' * b - a * q' = _ ∨ _
      rw [ev]
      rcases hs with z | z <;> rw [z] <;> omega
    unfold NLe
    rw [g2, gv]
    show X * q' < (β * X - α * y) * qf ∨ (X * q' = (β * X - α * y) * qf ∧ pf * q' ≤ p' * qf)
    have e1 : X * q' = X * (α * q) + X * β * qf := by rw [eq']; grind
    have e2 : (β * X - α * y) * qf = X * β * qf - α * y * qf := by grind
    rcases Int.lt_or_eq_of_le hz with z | z
    · left
      have k3 : X * (α * q) < 0 := by
        have : α * q < 0 := Int.mul_neg_of_neg_of_pos z h1
        exact Int.mul_neg_of_pos_of_neg hX this
      have k4 : α * y * qf ≤ 0 := Int.mul_nonpos_of_nonpos_of_nonneg k1 (by omega)
      omega
    · right
      subst z
      refine ⟨by rw [e1, e2]; grind, ?_⟩
      rw [ep', eq']
      refine Int.le_of_eq ?_
      grind
  · refine .inl ?_
    have ha0 : 0 < α := by
      refine Int.not_le.mp fun y0 => ?_
      have k1 : α * q ≤ 0 := Int.mul_nonpos_of_nonpos_of_nonneg y0 (by omega)
      have k2 : β * qf ≤ 0 := Int.mul_nonpos_of_nonpos_of_nonneg hz (by omega)
      omega
    have k1 : β * X ≤ 0 := Int.mul_nonpos_of_nonpos_of_nonneg hz (by omega)
    have k2 : 0 < α * y := Int.mul_pos ha0 hy
    have gv : gapN a b (p', q') = α * y - β * X := by
      refine nat_abs_eq (by omega) ?_
      show p' * b - a * q' = _ ∨ _
      rw [ev]
      rcases hs with z | z <;> rw [z] <;> omega
    unfold NLe
    rw [g1, gv]
    show y * q' < (α * y - β * X) * q ∨ (y * q' = (α * y - β * X) * q ∧ p * q' ≤ p' * q)
    have e1 : y * q' = y * (β * qf) + y * α * q := by rw [eq']; grind
    have e2 : (α * y - β * X) * q = y * α * q - β * X * q := by grind
    rcases Int.lt_or_eq_of_le hz with z | z
    · left
      have k3 : y * (β * qf) < 0 := by
        have : β * qf < 0 := Int.mul_neg_of_neg_of_pos z hf
        exact Int.mul_neg_of_pos_of_neg hy this
      have k4 : β * X * q ≤ 0 := Int.mul_nonpos_of_nonpos_of_nonneg k1 (by omega)
      omega
    · right
      subst z
      refine ⟨by rw [e1, e2]; grind, ?_⟩
      rw [ep', eq']
      refine Int.le_of_eq ?_
      grind
/-- what is met is nearest -/
theorem nle_zero {a b : Int} {u v : Int × Int} (hu : 0 < u.2) (hv : 0 < v.2) (hb : 0 < b) (h : u.1 * b = a * u.2) : NLe a b u v := by
  have g : gapN a b u = 0 := by unfold gapN; omega
  unfold NLe
  rw [g, Int.zero_mul]
  have g0 : 0 ≤ gapN a b v := by unfold gapN; omega
  rcases Int.lt_or_eq_of_le g0 with z | z
  · exact .inl (Int.mul_pos z hu)
  · refine .inr ⟨by rw [← z, Int.zero_mul], ?_⟩
    have h2 : v.1 * b = a * v.2 := by unfold gapN at z; omega
    refine Int.le_of_eq (Int.eq_of_mul_eq_mul_right (a := b) (by omega) ?_)
    have k1 : u.1 * v.2 * b = u.1 * b * v.2 := by grind
    have k2 : v.1 * u.2 * b = v.1 * b * u.2 := by grind
    rw [k1, k2, h, h2]
    grind
end VL

set_option Elab.async false
set_option linter.all false
set_option maxRecDepth 100000
set_option maxHeartbeats 4000000
namespace VL
open PySem PySem.Spec PyProof.Rows L2 HD
/-! ### terms -/
theorem div_mod {a b : Int} : a = a / b * b + a % b := by
  have := Int.mul_ediv_add_emod a b
  have h2 : b * (a / b) = a / b * b := Int.mul_comm _ _
  omega
theorem cf_ne {k : Nat} {a b : Int} (h : 0 < b) : cf (k + 1) a b ≠ [] := by rw [cf_succ (by omega)]; exact List.cons_ne_nil _ _
theorem div_ge1 {a b : Int} (hb : 0 < b) (h : b ≤ a) : 1 ≤ a / b := by rw [Int.le_ediv_iff_mul_le hb]; omega
theorem cf_pos : ∀ (k : Nat) (a b : Int), 0 ≤ b → b ≤ a → a < 100000 → ∀ t ∈ cf k a b, 1 ≤ t ∧ t < 100000 := by
  intro k
  induction k with
  | zero => intro a b h1 h2 h3 t ht; cases ht
  | succ k ih =>
    intro a b h1 h2 h3 t ht
    by_cases hb : b = 0
    · subst hb; rw [cf_zero] at ht; cases ht
    · rw [cf_succ hb] at ht
      have hm := emod_lt' (a := a) (b := b) (by omega)
      rcases List.mem_cons.mp ht with z | z
      · rw [z]
        refine ⟨div_ge1 (by omega) h2, ?_⟩
        have : a / b ≤ a := Int.ediv_le_self b (by omega)
        omega
      · exact ih b (a % b) hm.1 (by omega) (by omega) t z
theorem cf_last : ∀ (k : Nat) (a b : Int), 0 < b → b < a → b < k → ∀ h : cf k a b ≠ [], 2 ≤ (cf k a b).getLast h := by
  intro k
  induction k with
  | zero => intro a b h1 h2 h3; omega
  | succ k ih =>
    intro a b h1 h2 h3 h
    have hm := emod_lt' (a := a) (b := b) h1
    by_cases hr : a % b = 0
    · have e : cf (k + 1) a b = [a / b] := by
        rw [cf_succ (by omega), hr]
        cases k with
        | zero => rfl
        | succ k => rw [cf_zero]
      simp only [e, List.getLast_singleton]
      have := div_mod (a := a) (b := b)
      rw [hr] at this
      refine Int.not_lt.mp fun z => ?_
      have : a / b * b ≤ 1 * b := Int.mul_le_mul_of_nonneg_right (by omega) (by omega)
      omega
    · have hk : 0 < k := by omega
      obtain ⟨k', rfl⟩ : ∃ k', k = k' + 1 := ⟨k - 1, by omega⟩
      have hne := cf_ne (k := k') (a := b) (b := a % b) (by omega)
      have e : cf (k' + 1 + 1) a b = (a / b) :: cf (k' + 1) b (a % b) := cf_succ (by omega)
      simp only [e]
      rw [List.getLast_cons hne]
      exact ih b (a % b) (by omega) (by omega) (by omega) hne
/-- the value of the terms -/
theorem val_cf : ∀ (k : Nat) (a b : Int), 0 < b → b < k → val (cf k a b) = red a b := by
  intro k
  induction k with
  | zero => intro a b h1 h2; omega
  | succ k ih =>
    intro a b h1 h2
    have hm := emod_lt' (a := a) (b := b) h1
    have hd := div_mod (a := a) (b := b)
    by_cases hr : a % b = 0
    · have e : cf (k + 1) a b = [a / b] := by
        rw [cf_succ (by omega), hr]
        cases k with
        | zero => rfl
        | succ k => rw [cf_zero]
      rw [e]
      refine (red_uniq (u := (a / b, 1)) h1 (by show (0 : Int) < 1; omega) (by show Int.gcd (a / b) 1 = 1; exact Int.gcd_one_right _) ?_ ?_).symm
      · show a = b * (a / b)
        rw [Int.mul_comm]; omega
      · show b = b * 1
        omega
    · obtain ⟨k', rfl⟩ : ∃ k', k = k' + 1 := ⟨k - 1, by omega⟩
      rw [cf_succ (by omega), val_cons (cf_ne (by omega)), ih b (a % b) (by omega) (by omega)]
      obtain ⟨e, e1, e2, e3, e4, e5⟩ := red_spec (a := b) (b := a % b) (by omega)
      generalize red b (a % b) = u at *
      have hu1 : 0 < u.1 := by
        refine Int.not_le.mp fun z => ?_
        have : e * u.1 ≤ 0 := Int.mul_nonpos_of_nonneg_of_nonpos (by omega) z
        omega
      refine (red_uniq (u := (a / b * u.1 + u.2, u.1)) e1 hu1 ?_ ?_ ?_).symm
      · show Int.gcd (a / b * u.1 + u.2) u.1 = 1
        rw [Int.add_comm, Int.gcd_add_mul_right_left, Int.gcd_comm]
        exact e5
      · show a = e * (a / b * u.1 + u.2)
        have k1 : e * (a / b * u.1 + u.2) = a / b * (e * u.1) + e * u.2 := by grind
        rw [k1, ← e2, ← e3]
        exact hd
      · show b = e * u.1
        exact e2
/-! ### convergents -/
theorem cop_of_det {p q r s : Int} (h : p * s - r * q = 1 ∨ p * s - r * q = -1) : Int.gcd p q = 1 := by
  have d1 : (Int.gcd p q : Int) ∣ p := Int.gcd_dvd_left p q
  have d2 : (Int.gcd p q : Int) ∣ q := Int.gcd_dvd_right p q
  have d3 : (Int.gcd p q : Int) ∣ p * s - r * q := Int.dvd_sub (Int.dvd_mul_of_dvd_left d1) (Int.dvd_mul_of_dvd_right d2)
  have d4 : (Int.gcd p q : Int) ∣ 1 := by
    rcases h with z | z
    · rw [z] at d3; exact d3
    · rw [z] at d3; exact (Int.dvd_neg).mp d3
  have := Int.le_of_dvd (by omega) d4
  have h0 : Int.gcd p q ≠ 0 := by
    intro z
    rw [z] at d4
    have := Int.zero_dvd.mp d4
    omega
  omega
theorem conv_cf (a b : Int) : ∀ (k : Nat) (x y : Int) (one other : Int × Int), 0 < y → y < k → a = one.1 * x + other.1 * y → b = one.2 * x + other.2 * y → (one.1 * other.2 - other.1 * one.2 = 1 ∨ one.1 * other.2 - other.1 * one.2 = -1) →
    0 ≤ one.2 → 0 ≤ other.2 → 0 < x / y * one.2 + other.2 → (conv one other (cf k x y)).getLast? = some (red a b) ∧ ∀ p ∈ conv one other (cf k x y), 0 < p.2 ∧ p.2 ≤ b := by
  intro k
  induction k with
  | zero => intro x y one other h1 h2; omega
  | succ k ih =>
    intro x y one other h1 h2 ha hb hdet h3 h4 h5
    have hm := emod_lt' (a := x) (b := y) h1
    have hd := div_mod (a := x) (b := y)
    rw [cf_succ (by omega), conv]
    generalize hn : stepF (x / y) one other = nw
    have hn1 : nw.1 = x / y * one.1 + other.1 := by rw [← hn]; rfl
    have hn2 : nw.2 = x / y * one.2 + other.2 := by rw [← hn]; rfl
    have ea : a = nw.1 * y + one.1 * (x % y) := by
      rw [hn1, ha]
      conv => lhs; rw [hd]
      grind
    have eb : b = nw.2 * y + one.2 * (x % y) := by
      rw [hn2, hb]
      conv => lhs; rw [hd]
      grind
    have ed : nw.1 * one.2 - one.1 * nw.2 = -(one.1 * other.2 - other.1 * one.2) := by rw [hn1, hn2]; grind
    have hnb : nw.2 ≤ b := by
      have k1 : nw.2 * 1 ≤ nw.2 * y := Int.mul_le_mul_of_nonneg_left (by omega) (by omega)
      have k2 : 0 ≤ one.2 * (x % y) := Int.mul_nonneg h3 hm.1
      omega
    by_cases hr : x % y = 0
    · have e : cf k y (x % y) = [] := by
        rw [hr]
        cases k with
        | zero => rfl
        | succ k => exact cf_zero
      rw [e, conv]
      refine ⟨?_, fun p hp => ?_⟩
      · rw [List.getLast?_singleton]
        rw [hr] at ea eb
        refine congrArg some (red_uniq h1 (by omega) (cop_of_det (r := one.1) (s := one.2) (by omega)) ?_ ?_).symm
        · rw [Int.mul_comm]; omega
        · rw [Int.mul_comm]; omega
      · rw [List.mem_singleton.mp hp]
        exact ⟨by omega, hnb⟩
    · have hq : 1 ≤ y / (x % y) := div_ge1 (by omega) (by omega)
      have h6 : 0 < y / (x % y) * nw.2 + one.2 := by
        have : 1 * nw.2 ≤ y / (x % y) * nw.2 := Int.mul_le_mul_of_nonneg_right hq (by omega)
        omega
      obtain ⟨i1, i2⟩ := ih y (x % y) nw one (by omega) (by omega) ea eb (by omega) (by omega) h3 h6
      refine ⟨?_, fun p hp => ?_⟩
      · have hne : conv nw one (cf k y (x % y)) ≠ [] := by
          intro z
          rw [z] at i1
          cases i1
        rw [List.getLast?_cons_of_ne_nil hne]
        exact i1
      · rcases List.mem_cons.mp hp with z | z
        · rw [z]; exact ⟨by omega, hnb⟩
        · exact i2 p z
theorem conv_len : ∀ (ts : List Int) (one other : Int × Int), (conv one other ts).length = ts.length := by
  intro ts
  induction ts with
  | nil => intro _ _; rfl
  | cons t ts ih => intro one other; rw [conv, List.length_cons, List.length_cons, ih]
theorem conv_det : ∀ (ts : List Int) (one other : Int × Int) (i : Nat) (p q : Int × Int), (conv one other ts)[i]? = some p → (conv one other ts)[i + 1]? = some q →
    q.1 * p.2 - p.1 * q.2 = (one.1 * other.2 - other.1 * one.2) * (if i % 2 = 0 then 1 else -1) := by
  intro ts
  induction ts with
  | nil => intro one other i p q h; cases h
  | cons t ts ih =>
    intro one other i p q h k
    rw [conv] at h k
    have e : (stepF t one other).1 * one.2 - one.1 * (stepF t one other).2 = -(one.1 * other.2 - other.1 * one.2) := by
      show (t * one.1 + other.1) * one.2 - one.1 * (t * one.2 + other.2) = _
      grind
    cases i with
    | zero =>
      rw [List.getElem?_cons_zero] at h
      rw [List.getElem?_cons_succ] at k
      cases h
      cases ts with
      | nil => cases k
      | cons u us =>
        rw [conv, List.getElem?_cons_zero] at k
        cases k
        generalize stepF t one other = nw at *
        show (u * nw.1 + one.1) * nw.2 - nw.1 * (u * nw.2 + one.2) = _
        simp only [Nat.zero_mod, if_true]
        have : (u * nw.1 + one.1) * nw.2 - nw.1 * (u * nw.2 + one.2) = -(nw.1 * one.2 - one.1 * nw.2) := by grind
        rw [this, e]
        omega
    | succ i =>
      rw [List.getElem?_cons_succ] at h k
      rw [ih _ _ i p q h k, e]
      by_cases z : i % 2 = 0
      · rw [if_pos z, if_neg (by omega)]; omega
      · rw [if_neg z, if_pos (by omega)]; omega
end VL

set_option Elab.async false
set_option linter.all false
set_option maxRecDepth 100000
set_option maxHeartbeats 4000000
namespace VL
open PySem PySem.Spec PyProof.Rows L2 HD
/-! ### nearest_below -/
theorem nle_g {a b : Int} (hb : 0 < b) {u v : Int × Int} : NLe (red a b).1 (red a b).2 u v ↔ NLe a b u v := by
  obtain ⟨e, e1, e2, e3, e4, e5⟩ := red_spec (a := a) hb
  have := nle_scaleG (a := (red a b).1) (b := (red a b).2) (u := u) (v := v) e1
  rw [← e2, ← e3] at this
  exact this.symm
theorem red_small {a b : Int} (hb : 0 < b) (h1 : b ≤ 1000) (h2 : -2000 ≤ a) (h3 : a ≤ 2000) : small (red a b).1 ∧ small (red a b).2 := by
  obtain ⟨e, e1, e2, e3, e4, e5⟩ := red_spec (a := a) hb
  have k1 : 1 * (red a b).2 ≤ e * (red a b).2 := Int.mul_le_mul_of_nonneg_right (by omega) (by omega)
  refine ⟨?_, by unfold small; omega⟩
  generalize (red a b).1 = u at *
  unfold small
  have k2 : -2000 ≤ u := by
    refine Int.not_lt.mp fun z => ?_
    have : e * u ≤ e * (-2001) := Int.mul_le_mul_of_nonneg_left (by omega) (by omega)
    omega
  have k3 : u ≤ 2000 := by
    refine Int.not_lt.mp fun z => ?_
    have : e * 2001 ≤ e * u := Int.mul_le_mul_of_nonneg_left (by omega) (by omega)
    omega
  omega
/-- a candidate is met -/
theorem met {a b : Int} {best fr : Int × Int} (hb : 0 < b) (h1 : 0 < best.2) (h2 : 0 < fr.2) :
    ∃ nb : Int × Int, (nb = best ∨ nb = fr) ∧ NLe a b nb best ∧ NLe a b nb fr ∧ (nearB (red a b) fr best = true → nb = fr) ∧ (nearB (red a b) fr best = false → nb = best) := by
  cases h : nearB (red a b) fr best with
  | true =>
    have k := near_iff.mp h
    rw [nle_g hb] at k
    exact ⟨fr, .inr rfl, nle_total k, nle_refl, fun _ => rfl, (fun z => nomatch z)⟩
  | false =>
    have k := near_false.mp h
    rw [nle_g hb] at k
    exact ⟨best, .inl rfl, nle_refl, k, (fun z => nomatch z), fun _ => rfl⟩
theorem loop_nb (Z : VEnds) (a b m : Int) (t3 : SV) (hb0 : 0 < b) (hb1 : b ≤ 1000) (ha1 : -2000 ≤ a) (ha2 : a ≤ 2000) (hm0 : 1 ≤ m) (hm1 : m ≤ 1000)
    (hZ : ∀ (best' : Int × Int) (x6 x7 x8 x9 x10 : SV), 0 < best'.2 → best'.2 ≤ m → (∀ v : Int × Int, 0 < v.2 → v.2 ≤ m → NLe a b best' v) → Z.nx [.fr (.int a), .fr (.int b), .fr (.int m), t3, .fr (frD (red a b)), .fr (frD best'), x6, x7, x8, x9, x10]) :
    ∀ (k : Nat) (x y : Int) (one other best : Int × Int) (x8 x9 x10 : SV), 0 < y → y ≤ x → y < k → a = one.1 * x + other.1 * y → b = one.2 * x + other.2 * y → (one.1 * other.2 - other.1 * one.2 = 1 ∨ one.1 * other.2 - other.1 * one.2 = -1) →
      0 < one.2 → one.2 ≤ m → 0 ≤ other.2 → other.2 ≤ one.2 → 0 < best.2 → best.2 ≤ m → NLe a b best one →
      vFor rd_nearest_below_f1g rd_nearest_below_f1b Z ((cf k x y).map .int) [.fr (.int a), .fr (.int b), .fr (.int m), t3, .fr (frD (red a b)), .fr (frD best), .fr (frD one), .fr (frD other), x8, x9, x10] := by
  obtain ⟨sg1, sg2⟩ := red_small hb0 hb1 ha1 ha2
  intro k
  induction k with
  | zero => intro x y one other best x8 x9 x10 h1 h2 h3; omega
  | succ k ih =>
    intro x y one other best x8 x9 x10 h1 h2 h3 ea eb hdet o1 o2 o3 o4 b1 b2 hbo
    have hm := emod_lt' (a := x) (b := y) h1
    have hd := div_mod (a := x) (b := y)
    rw [cf_succ (by omega), List.map_cons, vFor_cons]
    generalize hW : vFor rd_nearest_below_f1g rd_nearest_below_f1b Z ((cf k y (x % y)).map .int) = W
    have ht : 1 ≤ x / y := div_ge1 h1 h2
    have hne : (one.2 != 0) = true := by simp; omega
    simp only [↓rd_nearest_below_f1g, ↓rd_nearest_below_f1b, ↓vSeq, ↓vPar, ↓vPar3, ↓vSet, ↓vSetO, ↓vAsg, ↓vAug, ↓vAppend, ↓vExt, ↓vUnp, ↓vFz, ↓vRet, ↓vRetN, ↓vDrop, ↓vIfS, ↓vNext, ↓vBrk, ↓vCnt, ↓vNever, ↓vForS, ↓vC, ↓vVar, ↓vTup, ↓vOf, ↓vBin, ↓vBinL, ↓vBinR, ↓vUn, ↓vCall, ↓vCallO, ↓vCallIO, ↓vCallSC, ↓vLookA, ↓vB, ↓vTru, ↓vTruO, ↓vAnd, ↓vOr, ↓vNot, ↓vAndV, ↓vOrV, ↓vNotV, ↓vIf, ↓vChain, ↓vNil, ↓vCons, ↓vSl, ↓vSlL, ↓vP0, ↓vP1, ↓vRevT, ↓vRevL, ↓vRevLL, ↓vBits, ↓vPop, ↓vLc, ↓vTurn, ↓vYes, ↓gN, ↓gT, ↓gsC, ↓gs0, ↓gSet, ↓wL, ↓wT, ↓wR1, ↓wR2, ↓d2, ↓d20, ↓dAdd, ↓dMul, ↓dEq, ↓dNe, ↓dIsN, ↓dNotN, ↓isN, ↓dNeg, ↓dIx, ↓dInI, ↓dSl, ↓truD, ↓cLen, ↓cAbs, ↓cMax2, ↓cMin2, ↓cInt, ↓cTup, ↓cLst, ↓sv, ↓List.getD_cons_zero, ↓List.getD_cons_succ, ↓List.set_cons_zero, ↓List.set_cons_succ, ↓vxSeq, ↓vxIf, ↓vxRaise, ↓vxRet, ↓vxAsg, ↓vxCall, ↓vReason, ↓vEqS, atI_0, atI_1, hne, Bool.not_true]
    refine ⟨div_small (by omega) (by omega), ?_⟩
    rw [fdiv_pos (by omega)]
    -- the steps
    have q1 : (m - other.2) / one.2 * one.2 ≤ m - other.2 := Int.ediv_mul_le _ (by omega)
    have q2 : m - other.2 < ((m - other.2) / one.2 + 1) * one.2 := Int.lt_ediv_add_one_mul_self _ o1
    have q3 : 0 ≤ (m - other.2) / one.2 := Int.ediv_nonneg (by omega) (by omega)
    have q4 : (m - other.2) / one.2 ≤ m := by
      have : (m - other.2) / one.2 ≤ m - other.2 := Int.ediv_le_self _ (by omega)
      omega
    generalize (m - other.2) / one.2 = e at q1 q2 q3 q4 ⊢
    have s1 : 0 ≤ (if e < x / y then e else x / y) ∧ (if e < x / y then e else x / y) ≤ e ∧ (if e < x / y then e else x / y) ≤ x / y ∧ ((if e < x / y then e else x / y) < x / y → (if e < x / y then e else x / y) = e) := by split <;> omega
    generalize (if e < x / y then e else x / y) = st at s1 ⊢
    obtain ⟨s1, s2, s3, s4⟩ := s1
    refine ⟨mul_smallL (by omega), mul_smallL (by omega), ?_⟩
    have r1 : st * one.2 ≤ e * one.2 := Int.mul_le_mul_of_nonneg_right s2 (by omega)
    have r0 : 0 ≤ st * one.2 := Int.mul_nonneg s1 (by omega)
    have f1 : 0 < st * one.2 + other.2 := by
      by_cases z : st = 0
      · have z2 := s4 (by omega)
        rw [← z2, z] at q2
        omega
      · have : 1 * one.2 ≤ st * one.2 := Int.mul_le_mul_of_nonneg_right (by omega) (by omega)
        omega
    have hf : (st * one.2 + other.2 != 0) = true := by simp; omega
    simp only [hf]
    generalize hfr : ((st * one.1 + other.1, st * one.2 + other.2) : Int × Int) = fr
    have hfr1 : st * one.1 + other.1 = fr.1 := by rw [← hfr]
    have hfr2 : st * one.2 + other.2 = fr.2 := by rw [← hfr]
    rw [hfr1, hfr2]
    have f2 : fr.2 ≤ m := by rw [← hfr2]; omega
    have f1 : 0 < fr.2 := by rw [← hfr2]; exact f1
    refine ⟨red a b, fr, best, rfl, sg1, sg2, ⟨by omega, by omega⟩, ⟨by omega, by omega⟩, ?_⟩
    obtain ⟨nb, n0, n1, n2, n3, n4⟩ := met (a := a) (best := best) (fr := fr) hb0 b1 f1
    have nb1 : 0 < nb.2 := by rcases n0 with z | z <;> rw [z] <;> omega
    have nb2 : nb.2 ≤ m := by rcases n0 with z | z <;> rw [z] <;> omega
    have nb3 : NLe a b nb one := nle_trans nb1 b1 o1 n1 hbo
    have edet : one.1 * fr.2 - fr.1 * one.2 = one.1 * other.2 - other.1 * one.2 := by rw [← hfr1, ← hfr2]; grind
    have fin : (match decide (st < x / y) with
        | true => Z.nx [.fr (.int a), .fr (.int b), .fr (.int m), t3, .fr (frD (red a b)), .fr (frD nb), .fr (frD one), .fr (frD other), .fr (.int (x / y)), .fr (.int st), .fr (frD fr)]
        | false => W [.fr (.int a), .fr (.int b), .fr (.int m), t3, .fr (frD (red a b)), .fr (frD nb), .fr (frD fr), .fr (frD one), .fr (.int (x / y)), .fr (.int st), .fr (frD fr)]) := by
      by_cases hlt : st < x / y
      · simp only [hlt, decide_true]
        refine hZ nb _ _ _ _ _ nb1 nb2 fun v v1 v2 => ?_
        have e1 := s4 hlt
        have hX : 0 < x - st * y := by
          have : (st + 1) * y ≤ x / y * y := Int.mul_le_mul_of_nonneg_right (by omega) (by omega)
          have k : (st + 1) * y = st * y + y := by grind
          omega
        have ka : a = one.1 * (x - st * y) + fr.1 * y := by rw [← hfr1, ea]; grind
        have kb : b = one.2 * (x - st * y) + fr.2 * y := by rw [← hfr2, eb]; grind
        have km : m < one.2 + fr.2 := by
          rw [← e1] at q2
          have k : (st + 1) * one.2 = st * one.2 + one.2 := by grind
          omega
        rcases farey (s := one.1 * other.2 - other.1 * one.2) o1 f1 hX h1 ka kb hdet edet km v1 v2 with z | z
        · exact nle_trans nb1 o1 v1 nb3 z
        · exact nle_trans nb1 f1 v1 n2 z
      · simp only [hlt, decide_false]
        have e1 : st = x / y := by omega
        have ka : a = fr.1 * y + one.1 * (x % y) := by
          rw [← hfr1, ea, e1]
          conv => lhs; rw [hd]
          grind
        have kb : b = fr.2 * y + one.2 * (x % y) := by
          rw [← hfr2, eb, e1]
          conv => lhs; rw [hd]
          grind
        rw [← hW]
        by_cases hr : x % y = 0
        · have e2 : cf k y (x % y) = [] := by
            rw [hr]
            cases k with
            | zero => rfl
            | succ k => exact cf_zero
          rw [e2, List.map_nil, vFor_nil]
          refine hZ nb _ _ _ _ _ nb1 nb2 fun v v1 v2 => nle_trans nb1 f1 v1 n2 (nle_zero f1 v1 hb0 ?_)
          rw [hr] at ka kb
          rw [ka, kb]
          grind
        · have hle : one.2 ≤ fr.2 := by
            rw [← hfr2, e1]
            have : 1 * one.2 ≤ x / y * one.2 := Int.mul_le_mul_of_nonneg_right ht (by omega)
            omega
          exact ih y (x % y) fr one nb _ _ _ (by omega) (by omega) (by omega) ka kb (by
            have : fr.1 * one.2 - one.1 * fr.2 = -(one.1 * fr.2 - fr.1 * one.2) := by grind
            rw [this, edet]
            omega) f1 f2 (by omega) hle nb1 nb2 n2
    cases hnear : nearB (red a b) fr best with
    | true =>
      rw [n3 hnear] at fin
      exact fin
    | false =>
      rw [n4 hnear] at fin
      exact fin
theorem hq_nearest_below (ds : List D) (Q : D → Prop) (h : sp_nearest_below ds Q) : rd_nearest_below { nx := fun _ => Q .none, rt := fun d _ => Q d } (ev0 ["above", "below", "most", "terms", "goal", "best", "one", "other", "term", "steps", "fresh"] ds) := by
  obtain ⟨a, b, m, rfl, a1, a2, b1, b2, m1, m2, h⟩ := h
  show rd_nearest_below _ [.fr (.int a), .fr (.int b), .fr (.int m), .un, .un, .un, .un, .un, .un, .un, .un]
  have h1 : ¬ m < 1 := by omega
  have hm := emod_lt' (a := a) (b := b) b1
  have hd := div_mod (a := a) (b := b)
  obtain ⟨sg1, sg2⟩ := red_small b1 b2 a1 a2
  simp only [↓rd_nearest_below, ↓vSeq, ↓vPar, ↓vPar3, ↓vSet, ↓vSetO, ↓vAsg, ↓vAug, ↓vAppend, ↓vExt, ↓vUnp, ↓vFz, ↓vRet, ↓vRetN, ↓vDrop, ↓vIfS, ↓vNext, ↓vBrk, ↓vCnt, ↓vNever, ↓vForS, ↓vC, ↓vVar, ↓vTup, ↓vOf, ↓vBin, ↓vBinL, ↓vBinR, ↓vUn, ↓vCall, ↓vCallO, ↓vCallIO, ↓vCallSC, ↓vLookA, ↓vB, ↓vTru, ↓vTruO, ↓vAnd, ↓vOr, ↓vNot, ↓vAndV, ↓vOrV, ↓vNotV, ↓vIf, ↓vChain, ↓vNil, ↓vCons, ↓vSl, ↓vSlL, ↓vP0, ↓vP1, ↓vRevT, ↓vRevL, ↓vRevLL, ↓vBits, ↓vPop, ↓vLc, ↓vTurn, ↓vYes, ↓gN, ↓gT, ↓gsC, ↓gs0, ↓gSet, ↓wL, ↓wT, ↓wR1, ↓wR2, ↓d2, ↓d20, ↓dAdd, ↓dMul, ↓dEq, ↓dNe, ↓dIsN, ↓dNotN, ↓isN, ↓dNeg, ↓dIx, ↓dInI, ↓dSl, ↓truD, ↓cLen, ↓cAbs, ↓cMax2, ↓cMin2, ↓cInt, ↓cTup, ↓cLst, ↓sv, ↓List.getD_cons_zero, ↓List.getD_cons_succ, ↓List.set_cons_zero, ↓List.set_cons_succ, ↓vxSeq, ↓vxIf, ↓vxRaise, ↓vxRet, ↓vxAsg, ↓vxCall, ↓vReason, ↓vEqS]
  refine ⟨a, b, rfl, b1, by omega, ?_⟩
  simp only [↓vSeq, ↓vPar, ↓vPar3, ↓vSet, ↓vSetO, ↓vAsg, ↓vAug, ↓vAppend, ↓vExt, ↓vUnp, ↓vFz, ↓vRet, ↓vRetN, ↓vDrop, ↓vIfS, ↓vNext, ↓vBrk, ↓vCnt, ↓vNever, ↓vForS, ↓vC, ↓vVar, ↓vTup, ↓vOf, ↓vBin, ↓vBinL, ↓vBinR, ↓vUn, ↓vCall, ↓vCallO, ↓vCallIO, ↓vCallSC, ↓vLookA, ↓vB, ↓vTru, ↓vTruO, ↓vAnd, ↓vOr, ↓vNot, ↓vAndV, ↓vOrV, ↓vNotV, ↓vIf, ↓vChain, ↓vNil, ↓vCons, ↓vSl, ↓vSlL, ↓vP0, ↓vP1, ↓vRevT, ↓vRevL, ↓vRevLL, ↓vBits, ↓vPop, ↓vLc, ↓vTurn, ↓vYes, ↓gN, ↓gT, ↓gsC, ↓gs0, ↓gSet, ↓wL, ↓wT, ↓wR1, ↓wR2, ↓d2, ↓d20, ↓dAdd, ↓dMul, ↓dEq, ↓dNe, ↓dIsN, ↓dNotN, ↓isN, ↓dNeg, ↓dIx, ↓dInI, ↓dSl, ↓truD, ↓cLen, ↓cAbs, ↓cMax2, ↓cMin2, ↓cInt, ↓cTup, ↓cLst, ↓sv, ↓List.getD_cons_zero, ↓List.getD_cons_succ, ↓List.set_cons_zero, ↓List.set_cons_succ, ↓vxSeq, ↓vxIf, ↓vxRaise, ↓vxRet, ↓vxAsg, ↓vxCall, ↓vReason, ↓vEqS, h1, decide_false]
  refine ⟨a, b, rfl, b1, by omega, ?_⟩
  rw [cf_succ (by omega)]
  simp only [↓tI, List.map_cons, ↓vSeq, ↓vPar, ↓vPar3, ↓vSet, ↓vSetO, ↓vAsg, ↓vAug, ↓vAppend, ↓vExt, ↓vUnp, ↓vFz, ↓vRet, ↓vRetN, ↓vDrop, ↓vIfS, ↓vNext, ↓vBrk, ↓vCnt, ↓vNever, ↓vForS, ↓vC, ↓vVar, ↓vTup, ↓vOf, ↓vBin, ↓vBinL, ↓vBinR, ↓vUn, ↓vCall, ↓vCallO, ↓vCallIO, ↓vCallSC, ↓vLookA, ↓vB, ↓vTru, ↓vTruO, ↓vAnd, ↓vOr, ↓vNot, ↓vAndV, ↓vOrV, ↓vNotV, ↓vIf, ↓vChain, ↓vNil, ↓vCons, ↓vSl, ↓vSlL, ↓vP0, ↓vP1, ↓vRevT, ↓vRevL, ↓vRevLL, ↓vBits, ↓vPop, ↓vLc, ↓vTurn, ↓vYes, ↓gN, ↓gT, ↓gsC, ↓gs0, ↓gSet, ↓wL, ↓wT, ↓wR1, ↓wR2, ↓d2, ↓d20, ↓dAdd, ↓dMul, ↓dEq, ↓dNe, ↓dIsN, ↓dNotN, ↓isN, ↓dNeg, ↓dIx, ↓dInI, ↓dSl, ↓truD, ↓cLen, ↓cAbs, ↓cMax2, ↓cMin2, ↓cInt, ↓cTup, ↓cLst, ↓sv, ↓List.getD_cons_zero, ↓List.getD_cons_succ, ↓List.set_cons_zero, ↓List.set_cons_succ, ↓vxSeq, ↓vxIf, ↓vxRaise, ↓vxRet, ↓vxAsg, ↓vxCall, ↓vReason, ↓vEqS, atI_0]
  refine ⟨rfl, ?_⟩
  rw [vFor_cons]
  generalize hW : vFor rd_nearest_below_f1g rd_nearest_below_f1b _ ((cf b.toNat b (a % b)).map .int) = W
  have q0 : -2000 ≤ a / b ∧ a / b ≤ 2000 := by
    constructor
    · rw [Int.le_ediv_iff_mul_le b1]
      have : 2000 * 1 ≤ 2000 * b := Int.mul_le_mul_of_nonneg_left (by omega) (by omega)
      omega
    · refine Int.ediv_le_of_le_mul b1 ?_
      have : 2000 * 1 ≤ 2000 * b := Int.mul_le_mul_of_nonneg_left (by omega) (by omega)
      omega
  have hz : ((0 : Int) != 0) = false := rfl
  simp only [↓rd_nearest_below_f1g, ↓rd_nearest_below_f1b, ↓vSeq, ↓vPar, ↓vPar3, ↓vSet, ↓vSetO, ↓vAsg, ↓vAug, ↓vAppend, ↓vExt, ↓vUnp, ↓vFz, ↓vRet, ↓vRetN, ↓vDrop, ↓vIfS, ↓vNext, ↓vBrk, ↓vCnt, ↓vNever, ↓vForS, ↓vC, ↓vVar, ↓vTup, ↓vOf, ↓vBin, ↓vBinL, ↓vBinR, ↓vUn, ↓vCall, ↓vCallO, ↓vCallIO, ↓vCallSC, ↓vLookA, ↓vB, ↓vTru, ↓vTruO, ↓vAnd, ↓vOr, ↓vNot, ↓vAndV, ↓vOrV, ↓vNotV, ↓vIf, ↓vChain, ↓vNil, ↓vCons, ↓vSl, ↓vSlL, ↓vP0, ↓vP1, ↓vRevT, ↓vRevL, ↓vRevLL, ↓vBits, ↓vPop, ↓vLc, ↓vTurn, ↓vYes, ↓gN, ↓gT, ↓gsC, ↓gs0, ↓gSet, ↓wL, ↓wT, ↓wR1, ↓wR2, ↓d2, ↓d20, ↓dAdd, ↓dMul, ↓dEq, ↓dNe, ↓dIsN, ↓dNotN, ↓isN, ↓dNeg, ↓dIx, ↓dInI, ↓dSl, ↓truD, ↓cLen, ↓cAbs, ↓cMax2, ↓cMin2, ↓cInt, ↓cTup, ↓cLst, ↓sv, ↓List.getD_cons_zero, ↓List.getD_cons_succ, ↓List.set_cons_zero, ↓List.set_cons_succ, ↓vxSeq, ↓vxIf, ↓vxRaise, ↓vxRet, ↓vxAsg, ↓vxCall, ↓vReason, ↓vEqS, atI_0, atI_1, hz, Bool.not_false]
  have e1 : a / b * 1 + 0 = a / b := by omega
  have e2 : a / b * 0 + 1 = 1 := by omega
  have hz1 : ((1 : Int) != 0) = true := rfl
  rw [e1, e2]
  simp only [hz1]
  refine ⟨mul_smallL (by omega), mul_smallL (by omega), red a b, (a / b, 1), (a / b, 1), rfl, sg1, sg2, ⟨by show _ < (1 : Int); omega, by show (1 : Int) < _; omega⟩, ⟨by show _ < (1 : Int); omega, by show (1 : Int) < _; omega⟩, ?_⟩
  rw [near_false.mpr nle_refl]
  have hlt : ¬ a / b < a / b := by omega
  simp only [hlt, decide_false, ↓vSeq, ↓vPar, ↓vPar3, ↓vSet, ↓vSetO, ↓vAsg, ↓vAug, ↓vAppend, ↓vExt, ↓vUnp, ↓vFz, ↓vRet, ↓vRetN, ↓vDrop, ↓vIfS, ↓vNext, ↓vBrk, ↓vCnt, ↓vNever, ↓vForS, ↓vC, ↓vVar, ↓vTup, ↓vOf, ↓vBin, ↓vBinL, ↓vBinR, ↓vUn, ↓vCall, ↓vCallO, ↓vCallIO, ↓vCallSC, ↓vLookA, ↓vB, ↓vTru, ↓vTruO, ↓vAnd, ↓vOr, ↓vNot, ↓vAndV, ↓vOrV, ↓vNotV, ↓vIf, ↓vChain, ↓vNil, ↓vCons, ↓vSl, ↓vSlL, ↓vP0, ↓vP1, ↓vRevT, ↓vRevL, ↓vRevLL, ↓vBits, ↓vPop, ↓vLc, ↓vTurn, ↓vYes, ↓gN, ↓gT, ↓gsC, ↓gs0, ↓gSet, ↓wL, ↓wT, ↓wR1, ↓wR2, ↓d2, ↓d20, ↓dAdd, ↓dMul, ↓dEq, ↓dNe, ↓dIsN, ↓dNotN, ↓isN, ↓dNeg, ↓dIx, ↓dInI, ↓dSl, ↓truD, ↓cLen, ↓cAbs, ↓cMax2, ↓cMin2, ↓cInt, ↓cTup, ↓cLst, ↓sv, ↓List.getD_cons_zero, ↓List.getD_cons_succ, ↓List.set_cons_zero, ↓List.set_cons_succ, ↓vxSeq, ↓vxIf, ↓vxRaise, ↓vxRet, ↓vxAsg, ↓vxCall, ↓vReason, ↓vEqS]
  rw [← hW]
  have hfin : ∀ (best' : Int × Int) (x6 x7 x8 x9 x10 : SV), 0 < best'.2 → best'.2 ≤ m → (∀ v : Int × Int, 0 < v.2 → v.2 ≤ m → NLe a b best' v) → sp_fraction [.int best'.1, .int best'.2] Q := fun best' x6 x7 x8 x9 x10 g1 g2 g3 => ⟨best'.1, best'.2, rfl, g1, by omega, h _ (best_red g1 g2 g3)⟩
  by_cases hr : a % b = 0
  · have e3 : cf b.toNat b (a % b) = [] := by
      rw [hr]
      obtain ⟨k', hk'⟩ : ∃ k', b.toNat = k' + 1 := ⟨b.toNat - 1, by omega⟩
      rw [hk']; exact cf_zero
    rw [e3, List.map_nil, vFor_nil]
    simp only [↓vSeq, ↓vPar, ↓vPar3, ↓vSet, ↓vSetO, ↓vAsg, ↓vAug, ↓vAppend, ↓vExt, ↓vUnp, ↓vFz, ↓vRet, ↓vRetN, ↓vDrop, ↓vIfS, ↓vNext, ↓vBrk, ↓vCnt, ↓vNever, ↓vForS, ↓vC, ↓vVar, ↓vTup, ↓vOf, ↓vBin, ↓vBinL, ↓vBinR, ↓vUn, ↓vCall, ↓vCallO, ↓vCallIO, ↓vCallSC, ↓vLookA, ↓vB, ↓vTru, ↓vTruO, ↓vAnd, ↓vOr, ↓vNot, ↓vAndV, ↓vOrV, ↓vNotV, ↓vIf, ↓vChain, ↓vNil, ↓vCons, ↓vSl, ↓vSlL, ↓vP0, ↓vP1, ↓vRevT, ↓vRevL, ↓vRevLL, ↓vBits, ↓vPop, ↓vLc, ↓vTurn, ↓vYes, ↓gN, ↓gT, ↓gsC, ↓gs0, ↓gSet, ↓wL, ↓wT, ↓wR1, ↓wR2, ↓d2, ↓d20, ↓dAdd, ↓dMul, ↓dEq, ↓dNe, ↓dIsN, ↓dNotN, ↓isN, ↓dNeg, ↓dIx, ↓dInI, ↓dSl, ↓truD, ↓cLen, ↓cAbs, ↓cMax2, ↓cMin2, ↓cInt, ↓cTup, ↓cLst, ↓sv, ↓List.getD_cons_zero, ↓List.getD_cons_succ, ↓List.set_cons_zero, ↓List.set_cons_succ, ↓vxSeq, ↓vxIf, ↓vxRaise, ↓vxRet, ↓vxAsg, ↓vxCall, ↓vReason, ↓vEqS, atI_0, atI_1]
    refine hfin (a / b, 1) .un .un .un .un .un (by show (0 : Int) < 1; omega) (by show (1 : Int) ≤ m; omega) fun v v1 v2 => nle_zero (by show (0 : Int) < 1; omega) v1 b1 ?_
    show a / b * b = a * 1
    omega
  · refine loop_nb _ a b m _ b1 b2 a1 a2 m1 m2 (fun best' x6 x7 x8 x9 x10 g1 g2 g3 => ?_) b.toNat b (a % b) (a / b, 1) (1, 0) (a / b, 1) _ _ _ (by omega) (by omega) (by omega) ?_ ?_ ?_ (by show (0 : Int) < 1; omega) (by show (1 : Int) ≤ m; omega) (by show (0 : Int) ≤ 0; omega) (by show (0 : Int) ≤ 1; omega) (by show (0 : Int) < 1; omega) (by show (1 : Int) ≤ m; omega) nle_refl
    · simp only [↓vSeq, ↓vPar, ↓vPar3, ↓vSet, ↓vSetO, ↓vAsg, ↓vAug, ↓vAppend, ↓vExt, ↓vUnp, ↓vFz, ↓vRet, ↓vRetN, ↓vDrop, ↓vIfS, ↓vNext, ↓vBrk, ↓vCnt, ↓vNever, ↓vForS, ↓vC, ↓vVar, ↓vTup, ↓vOf, ↓vBin, ↓vBinL, ↓vBinR, ↓vUn, ↓vCall, ↓vCallO, ↓vCallIO, ↓vCallSC, ↓vLookA, ↓vB, ↓vTru, ↓vTruO, ↓vAnd, ↓vOr, ↓vNot, ↓vAndV, ↓vOrV, ↓vNotV, ↓vIf, ↓vChain, ↓vNil, ↓vCons, ↓vSl, ↓vSlL, ↓vP0, ↓vP1, ↓vRevT, ↓vRevL, ↓vRevLL, ↓vBits, ↓vPop, ↓vLc, ↓vTurn, ↓vYes, ↓gN, ↓gT, ↓gsC, ↓gs0, ↓gSet, ↓wL, ↓wT, ↓wR1, ↓wR2, ↓d2, ↓d20, ↓dAdd, ↓dMul, ↓dEq, ↓dNe, ↓dIsN, ↓dNotN, ↓isN, ↓dNeg, ↓dIx, ↓dInI, ↓dSl, ↓truD, ↓cLen, ↓cAbs, ↓cMax2, ↓cMin2, ↓cInt, ↓cTup, ↓cLst, ↓sv, ↓List.getD_cons_zero, ↓List.getD_cons_succ, ↓List.set_cons_zero, ↓List.set_cons_succ, ↓vxSeq, ↓vxIf, ↓vxRaise, ↓vxRet, ↓vxAsg, ↓vxCall, ↓vReason, ↓vEqS, atI_0, atI_1]
      exact hfin best' x6 x7 x8 x9 x10 g1 g2 g3
    · show a = a / b * b + 1 * (a % b)
      omega
    · show b = 1 * b + 0 * (a % b)
      omega
    · right
      show a / b * 0 - 1 * 1 = -1
      omega
end VL

set_option Elab.async false
set_option linter.all false
set_option maxRecDepth 1000000
set_option maxHeartbeats 4000000
namespace VL
open PySem PySem.Spec PyProof.Rows L2 HD
/-! ### the law's own search -/
def keyF (a b : Int) (u : Int × Int) : Int × Int := red (gapN a b u) (u.2 * b)
def bestS (a b : Int) : Option (Int × Int) → D
  | none => .none
  | some u => .tuple [frD (keyF a b u), frD u]
theorem key_red {a b : Int} {u : Int × Int} (hu : 0 < u.2) (hb : 0 < b) : keyF a b (red u.1 u.2) = keyF a b u := by
  obtain ⟨e, e1, e2, e3, e4, e5⟩ := red_spec (a := u.1) hu
  have g : gapN a b u = e * gapN a b (red u.1 u.2) := by
    have := gap_scale (a := a) (b := b) (u := red u.1 u.2) e1
    rw [← e2, ← e3] at this
    exact this
  unfold keyF
  have k : u.2 * b = e * ((red u.1 u.2).2 * b) := by
    conv => lhs; rw [e3]
    exact Int.mul_assoc _ _ _
  rw [g, k, red_scale e1 (Int.mul_pos e4 hb)]
theorem nle_iff {a b : Int} (hb : 0 < b) {u v : Int × Int} (hu : 0 < u.2) (hv : 0 < v.2) :
    ((keyF a b v).1 * (keyF a b u).2 < (keyF a b u).1 * (keyF a b v).2 ↔ gapN a b v * u.2 < gapN a b u * v.2) ∧ (keyF a b v = keyF a b u ↔ gapN a b v * u.2 = gapN a b u * v.2) := by
  have h1 := Int.mul_pos hu hb
  have h2 := Int.mul_pos hv hb
  unfold keyF
  rw [red_lt h2 h1, red_eq h2 h1]
  have k1 : gapN a b v * (u.2 * b) = gapN a b v * u.2 * b := (Int.mul_assoc _ _ _).symm
  have k2 : gapN a b u * (v.2 * b) = gapN a b u * v.2 * b := (Int.mul_assoc _ _ _).symm
  rw [k1, k2]
  exact ⟨⟨fun h => lt_of_mul_pos hb h, fun h => Int.mul_lt_mul_of_pos_right h hb⟩, ⟨fun h => Int.eq_of_mul_eq_mul_right (by omega) h, fun h => by rw [h]⟩⟩
def okB (m : Int) (o : Option (Int × Int)) : Prop := ∀ u, o = some u → 0 < u.2 ∧ u.2 ≤ m ∧ Int.gcd u.1 u.2 = 1
def beats (a b : Int) (o : Option (Int × Int)) (v : Int × Int) : Prop := ∃ u, o = some u ∧ NLe a b u v
theorem red_le {p q : Int} (hq : 0 < q) : (red p q).2 ≤ q ∧ 0 < (red p q).2 := by
  obtain ⟨e, e1, e2, e3, e4, e5⟩ := red_spec (a := p) hq
  have : 1 * (red p q).2 ≤ e * (red p q).2 := Int.mul_le_mul_of_nonneg_right (by omega) (by omega)
  omega
theorem shaped_fr {u : Int × Int} : SeqAt.shaped (frD u) = true := rfl
theorem eqv_fr {u v : Int × Int} : PyData.eqv (frD u) (frD v) = decide (u = v) := by
  by_cases h : u = v
  · rw [decide_eq_true h]; exact eqv_same rfl rfl (by rw [h])
  · rw [decide_eq_false h]
    refine eqv_other rfl rfl fun z => h ?_
    have h1 := PyData.tuple.inj z
    simp only [List.cons.injEq, PyData.int.injEq, and_true] at h1
    exact Prod.ext h1.1 h1.2
theorem loop_f5 (Z : VEnds) (a b m q : Int) (x0 x1 x2 x5 x6 x7 x8 : SV) (x14 x15 x16 x17 x18 x19 x20 x21 x22 x23 : SV) (hb : 0 < b) (hb1 : b ≤ 1000) (ha : -2000 ≤ a ∧ a ≤ 2000) (hq : 0 < q) (hqm : q ≤ m) (hm : m ≤ 1000) :
    ∀ (xs : List Int) (o : Option (Int × Int)) (x11 x12 x13 : SV), okB m o →
    (∀ o' y11 y12 y13, okB m o' → (∀ v, 0 < v.2 → beats a b o v → beats a b o' v) → (∀ p ∈ xs, beats a b o' (p, q)) → Z.nx [x0, x1, x2, .fr (.int a), .fr (.int b), x5, x6, x7, x8, .fr (bestS a b o'), .fr (.int q), y11, y12, y13, x14, x15, x16, x17, x18, x19, x20, x21, x22, x23]) →
    vFor rd_law_f5g rd_law_f5b Z (xs.map .int) [x0, x1, x2, .fr (.int a), .fr (.int b), x5, x6, x7, x8, .fr (bestS a b o), .fr (.int q), x11, x12, x13, x14, x15, x16, x17, x18, x19, x20, x21, x22, x23] := by
  have hqb : 0 < q * b := Int.mul_pos hq hb
  have hqb2 : q * b ≤ 1000000 := by
    have k1 : q * b ≤ 1000 * b := Int.mul_le_mul_of_nonneg_right (by omega) (by omega)
    omega
  intro xs
  induction xs with
  | nil => intro o x11 x12 x13 ho hZ; exact hZ o _ _ _ ho (fun v _ h => h) (fun p hp => by cases hp)
  | cons p xs ih =>
    intro o x11 x12 x13 ho hZ
    rw [List.map_cons, vFor_cons]
    generalize hW : vFor rd_law_f5g rd_law_f5b Z (xs.map .int) = W
    have r1 := red_le (p := p) hq
    obtain ⟨d, dd1, dd2, dd3, dd4, dd5⟩ := red_spec (a := p) hq
    -- the pair is taken, or is left
    have take : (∀ v, 0 < v.2 → beats a b o v → NLe a b (p, q) v) → W [x0, x1, x2, .fr (.int a), .fr (.int b), x5, x6, x7, x8, .fr (bestS a b (some (red p q))), .fr (.int q), .fr (.int p), .fr (frD (keyF a b (p, q))), .fr (frD (red p q)), x14, x15, x16, x17, x18, x19, x20, x21, x22, x23] := fun hk => by
      rw [← hW]
      have e1 : ∀ v : Int × Int, 0 < v.2 → NLe a b (p, q) v → NLe a b (red p q) v := fun v hv h => nle_trans dd4 hq hv (nle_red (u := (p, q)) hq).1 h
      refine ih (some (red p q)) _ _ _ (fun u hu => by cases hu; exact ⟨dd4, by omega, dd5⟩) fun o' y11 y12 y13 g1 g2 g3 => hZ o' y11 y12 y13 g1 (fun v hv h => g2 v hv ⟨_, rfl, e1 v hv (hk v hv h)⟩) fun p' hp => ?_
      rcases List.mem_cons.mp hp with z | z
      · rw [z]; exact g2 _ hq ⟨_, rfl, e1 _ hq nle_refl⟩
      · exact g3 p' z
    have leave : beats a b o (p, q) → W [x0, x1, x2, .fr (.int a), .fr (.int b), x5, x6, x7, x8, .fr (bestS a b o), .fr (.int q), .fr (.int p), .fr (frD (keyF a b (p, q))), .fr (frD (red p q)), x14, x15, x16, x17, x18, x19, x20, x21, x22, x23] := fun hk => by
      rw [← hW]
      refine ih o _ _ _ ho fun o' y11 y12 y13 g1 g2 g3 => hZ o' y11 y12 y13 g1 g2 fun p' hp => ?_
      rcases List.mem_cons.mp hp with z | z
      · rw [z]; exact g2 _ hq hk
      · exact g3 p' z
    simp only [↓rd_law_f5g, ↓rd_law_f5b, ↓vSeq, ↓vPar, ↓vPar3, ↓vSet, ↓vSetO, ↓vAsg, ↓vAug, ↓vAppend, ↓vExt, ↓vUnp, ↓vFz, ↓vRet, ↓vRetN, ↓vDrop, ↓vIfS, ↓vNext, ↓vBrk, ↓vCnt, ↓vNever, ↓vForS, ↓vC, ↓vVar, ↓vTup, ↓vOf, ↓vBin, ↓vBinL, ↓vBinR, ↓vUn, ↓vCall, ↓vCallO, ↓vCallIO, ↓vCallSC, ↓vLookA, ↓vB, ↓vTru, ↓vTruO, ↓vAnd, ↓vOr, ↓vNot, ↓vAndV, ↓vOrV, ↓vNotV, ↓vIf, ↓vChain, ↓vNil, ↓vCons, ↓vSl, ↓vSlL, ↓vP0, ↓vP1, ↓vRevT, ↓vRevL, ↓vRevLL, ↓vBits, ↓vPop, ↓vLc, ↓vTurn, ↓vYes, ↓gN, ↓gT, ↓gsC, ↓gs0, ↓gSet, ↓wL, ↓wT, ↓wR1, ↓wR2, ↓d2, ↓d20, ↓dAdd, ↓dMul, ↓dEq, ↓dNe, ↓dIsN, ↓dNotN, ↓isN, ↓dNeg, ↓dIx, ↓dInI, ↓dSl, ↓truD, ↓cLen, ↓cAbs, ↓cMax2, ↓cMin2, ↓cInt, ↓cTup, ↓cLst, ↓sv, ↓List.getD_cons_zero, ↓List.getD_cons_succ, ↓List.set_cons_zero, ↓List.set_cons_succ, ↓vxSeq, ↓vxIf, ↓vxRaise, ↓vxRet, ↓vxAsg, ↓vxCall, ↓vReason, ↓vEqS, abs_if]
    refine ⟨mul_small (by omega), mul_smallL (by omega), mul_small (by omega), gapN a b (p, q), q * b, rfl, hqb, by omega, ?_⟩
    simp only [↓rd_law_k1_1, ↓vSeq, ↓vPar, ↓vPar3, ↓vSet, ↓vSetO, ↓vAsg, ↓vAug, ↓vAppend, ↓vExt, ↓vUnp, ↓vFz, ↓vRet, ↓vRetN, ↓vDrop, ↓vIfS, ↓vNext, ↓vBrk, ↓vCnt, ↓vNever, ↓vForS, ↓vC, ↓vVar, ↓vTup, ↓vOf, ↓vBin, ↓vBinL, ↓vBinR, ↓vUn, ↓vCall, ↓vCallO, ↓vCallIO, ↓vCallSC, ↓vLookA, ↓vB, ↓vTru, ↓vTruO, ↓vAnd, ↓vOr, ↓vNot, ↓vAndV, ↓vOrV, ↓vNotV, ↓vIf, ↓vChain, ↓vNil, ↓vCons, ↓vSl, ↓vSlL, ↓vP0, ↓vP1, ↓vRevT, ↓vRevL, ↓vRevLL, ↓vBits, ↓vPop, ↓vLc, ↓vTurn, ↓vYes, ↓gN, ↓gT, ↓gsC, ↓gs0, ↓gSet, ↓wL, ↓wT, ↓wR1, ↓wR2, ↓d2, ↓d20, ↓dAdd, ↓dMul, ↓dEq, ↓dNe, ↓dIsN, ↓dNotN, ↓isN, ↓dNeg, ↓dIx, ↓dInI, ↓dSl, ↓truD, ↓cLen, ↓cAbs, ↓cMax2, ↓cMin2, ↓cInt, ↓cTup, ↓cLst, ↓sv, ↓List.getD_cons_zero, ↓List.getD_cons_succ, ↓List.set_cons_zero, ↓List.set_cons_succ, ↓vxSeq, ↓vxIf, ↓vxRaise, ↓vxRet, ↓vxAsg, ↓vxCall, ↓vReason, ↓vEqS]
    refine ⟨p, q, rfl, hq, by omega, ?_⟩
    simp only [↓rd_law_k1_2, ↓vSeq, ↓vPar, ↓vPar3, ↓vSet, ↓vSetO, ↓vAsg, ↓vAug, ↓vAppend, ↓vExt, ↓vUnp, ↓vFz, ↓vRet, ↓vRetN, ↓vDrop, ↓vIfS, ↓vNext, ↓vBrk, ↓vCnt, ↓vNever, ↓vForS, ↓vC, ↓vVar, ↓vTup, ↓vOf, ↓vBin, ↓vBinL, ↓vBinR, ↓vUn, ↓vCall, ↓vCallO, ↓vCallIO, ↓vCallSC, ↓vLookA, ↓vB, ↓vTru, ↓vTruO, ↓vAnd, ↓vOr, ↓vNot, ↓vAndV, ↓vOrV, ↓vNotV, ↓vIf, ↓vChain, ↓vNil, ↓vCons, ↓vSl, ↓vSlL, ↓vP0, ↓vP1, ↓vRevT, ↓vRevL, ↓vRevLL, ↓vBits, ↓vPop, ↓vLc, ↓vTurn, ↓vYes, ↓gN, ↓gT, ↓gsC, ↓gs0, ↓gSet, ↓wL, ↓wT, ↓wR1, ↓wR2, ↓d2, ↓d20, ↓dAdd, ↓dMul, ↓dEq, ↓dNe, ↓dIsN, ↓dNotN, ↓isN, ↓dNeg, ↓dIx, ↓dInI, ↓dSl, ↓truD, ↓cLen, ↓cAbs, ↓cMax2, ↓cMin2, ↓cInt, ↓cTup, ↓cLst, ↓sv, ↓List.getD_cons_zero, ↓List.getD_cons_succ, ↓List.set_cons_zero, ↓List.set_cons_succ, ↓vxSeq, ↓vxIf, ↓vxRaise, ↓vxRet, ↓vxAsg, ↓vxCall, ↓vReason, ↓vEqS]
    cases o with
    | none =>
      simp only [↓bestS, ↓vSeq, ↓vPar, ↓vPar3, ↓vSet, ↓vSetO, ↓vAsg, ↓vAug, ↓vAppend, ↓vExt, ↓vUnp, ↓vFz, ↓vRet, ↓vRetN, ↓vDrop, ↓vIfS, ↓vNext, ↓vBrk, ↓vCnt, ↓vNever, ↓vForS, ↓vC, ↓vVar, ↓vTup, ↓vOf, ↓vBin, ↓vBinL, ↓vBinR, ↓vUn, ↓vCall, ↓vCallO, ↓vCallIO, ↓vCallSC, ↓vLookA, ↓vB, ↓vTru, ↓vTruO, ↓vAnd, ↓vOr, ↓vNot, ↓vAndV, ↓vOrV, ↓vNotV, ↓vIf, ↓vChain, ↓vNil, ↓vCons, ↓vSl, ↓vSlL, ↓vP0, ↓vP1, ↓vRevT, ↓vRevL, ↓vRevLL, ↓vBits, ↓vPop, ↓vLc, ↓vTurn, ↓vYes, ↓gN, ↓gT, ↓gsC, ↓gs0, ↓gSet, ↓wL, ↓wT, ↓wR1, ↓wR2, ↓d2, ↓d20, ↓dAdd, ↓dMul, ↓dEq, ↓dNe, ↓dIsN, ↓dNotN, ↓isN, ↓dNeg, ↓dIx, ↓dInI, ↓dSl, ↓truD, ↓cLen, ↓cAbs, ↓cMax2, ↓cMin2, ↓cInt, ↓cTup, ↓cLst, ↓sv, ↓List.getD_cons_zero, ↓List.getD_cons_succ, ↓List.set_cons_zero, ↓List.set_cons_succ, ↓vxSeq, ↓vxIf, ↓vxRaise, ↓vxRet, ↓vxAsg, ↓vxCall, ↓vReason, ↓vEqS] at take ⊢
      have := take fun v _ ⟨u, hu, _⟩ => by cases hu
      rw [key_red (u := (p, q)) hq hb] at this
      exact this
    | some u =>
      obtain ⟨u1, u2, u3⟩ := ho u rfl
      obtain ⟨i1, i2⟩ := nle_iff (a := a) hb (u := u) (v := (p, q)) u1 hq
      have ks : ∀ w : Int × Int, 0 < w.2 → w.2 ≤ 1000 → small (keyF a b w).2 := fun w w1 w2 => by
        have h1 : 0 < w.2 * b := Int.mul_pos w1 hb
        have h2 : w.2 * b ≤ 1000 * b := Int.mul_le_mul_of_nonneg_right (by omega) (by omega)
        have := red_le (p := gapN a b w) h1
        unfold keyF small
        omega
      simp only [↓bestS, ↓vSeq, ↓vPar, ↓vPar3, ↓vSet, ↓vSetO, ↓vAsg, ↓vAug, ↓vAppend, ↓vExt, ↓vUnp, ↓vFz, ↓vRet, ↓vRetN, ↓vDrop, ↓vIfS, ↓vNext, ↓vBrk, ↓vCnt, ↓vNever, ↓vForS, ↓vC, ↓vVar, ↓vTup, ↓vOf, ↓vBin, ↓vBinL, ↓vBinR, ↓vUn, ↓vCall, ↓vCallO, ↓vCallIO, ↓vCallSC, ↓vLookA, ↓vB, ↓vTru, ↓vTruO, ↓vAnd, ↓vOr, ↓vNot, ↓vAndV, ↓vOrV, ↓vNotV, ↓vIf, ↓vChain, ↓vNil, ↓vCons, ↓vSl, ↓vSlL, ↓vP0, ↓vP1, ↓vRevT, ↓vRevL, ↓vRevLL, ↓vBits, ↓vPop, ↓vLc, ↓vTurn, ↓vYes, ↓gN, ↓gT, ↓gsC, ↓gs0, ↓gSet, ↓wL, ↓wT, ↓wR1, ↓wR2, ↓d2, ↓d20, ↓dAdd, ↓dMul, ↓dEq, ↓dNe, ↓dIsN, ↓dNotN, ↓isN, ↓dNeg, ↓dIx, ↓dInI, ↓dSl, ↓truD, ↓cLen, ↓cAbs, ↓cMax2, ↓cMin2, ↓cInt, ↓cTup, ↓cLst, ↓sv, ↓List.getD_cons_zero, ↓List.getD_cons_succ, ↓List.set_cons_zero, ↓List.set_cons_succ, ↓vxSeq, ↓vxIf, ↓vxRaise, ↓vxRet, ↓vxAsg, ↓vxCall, ↓vReason, ↓vEqS, atI_0, atI_1]
      refine ⟨keyF a b (p, q), keyF a b u, rfl, ks _ hq (by show q ≤ 1000; omega), ks _ u1 (by omega), ?_⟩
      have take' := take
      rw [show bestS a b (some (red p q)) = .tuple [frD (keyF a b (red (p, q).1 (p, q).2)), frD (red p q)] from rfl, key_red (u := (p, q)) hq hb] at take'
      by_cases c1 : (keyF a b (p, q)).1 * (keyF a b u).2 < (keyF a b u).1 * (keyF a b (p, q)).2
      · simp only [c1, decide_true]
        refine take' fun v hv ⟨w, hw, hwv⟩ => ?_
        cases hw
        exact nle_trans hq u1 hv (.inl (i1.mp c1)) hwv
      · simp only [c1, decide_false]
        refine ⟨⟨shaped_fr, shaped_fr⟩, ?_⟩
        rw [eqv_fr]
        have c1' := fun z => c1 (i1.mpr z)
        by_cases c2 : keyF a b (p, q) = keyF a b u
        · rw [decide_eq_true (show red (gapN a b (p, q)) (q * b) = keyF a b u from c2)]
          refine ⟨red p q, u, rfl, ⟨by omega, by omega⟩, ⟨by omega, by omega⟩, ?_⟩
          have c3' := i2.mp c2
          by_cases c3 : (red p q).1 * u.2 < u.1 * (red p q).2
          · simp only [c3, decide_true]
            refine take' fun v hv ⟨w, hw, hwv⟩ => ?_
            cases hw
            refine nle_trans hq u1 hv (.inr ⟨c3', ?_⟩) hwv
            have k1 : p * u.2 = d * ((red p q).1 * u.2) := by
              conv => lhs; rw [dd2]
              exact Int.mul_assoc _ _ _
            have k2 : u.1 * q = d * (u.1 * (red p q).2) := by
              conv => lhs; rw [dd3]
              grind
            show p * u.2 ≤ u.1 * q
            rw [k1, k2]
            exact Int.mul_le_mul_of_nonneg_left (by omega) (by omega)
          · simp only [c3, decide_false]
            have := leave ⟨u, rfl, .inr ⟨c3'.symm, by
              have k1 : p * u.2 = d * ((red p q).1 * u.2) := by
                conv => lhs; rw [dd2]
                exact Int.mul_assoc _ _ _
              have k2 : u.1 * q = d * (u.1 * (red p q).2) := by
                conv => lhs; rw [dd3]
                grind
              show u.1 * q ≤ p * u.2
              rw [k1, k2]
              exact Int.mul_le_mul_of_nonneg_left (by omega) (by omega)⟩⟩
            exact this
        · rw [decide_eq_false (show ¬ red (gapN a b (p, q)) (q * b) = keyF a b u from c2)]
          have c2' := fun z => c2 (i2.mpr z)
          exact leave ⟨u, rfl, .inl (by
            show gapN a b u * q < gapN a b (p, q) * u.2
            have : gapN a b (p, q) * u.2 ≠ gapN a b u * q := c2'
            have : ¬ gapN a b (p, q) * u.2 < gapN a b u * q := c1'
            omega)⟩
end VL

set_option Elab.async false
set_option linter.all false
set_option maxRecDepth 1000000
set_option maxHeartbeats 4000000
namespace VL
open PySem PySem.Spec PyProof.Rows L2 HD
theorem beats_mono {a b : Int} {o : Option (Int × Int)} {v w : Int × Int} {m : Int} (ho : okB m o) (hv : 0 < v.2) (hw : 0 < w.2) (h : beats a b o v) (k : NLe a b v w) : beats a b o w := by
  obtain ⟨u, hu, h⟩ := h
  exact ⟨u, hu, nle_trans (ho u hu).1 hv hw h k⟩
theorem loop_f4 (Z : VEnds) (a b m : Int) (x0 x1 x2 x5 x6 x7 x8 : SV) (x14 x15 x16 x17 x18 x19 x20 x21 x22 x23 : SV) (hb : 0 < b) (hb1 : b ≤ 1000) (ha : -2000 ≤ a ∧ a ≤ 2000) (hm : m ≤ 1000) :
    ∀ (xs : List Int) (o : Option (Int × Int)) (x10 x11 x12 x13 : SV), okB m o → (∀ q ∈ xs, 0 < q ∧ q ≤ m) →
    (∀ o' y10 y11 y12 y13, okB m o' → (∀ v, 0 < v.2 → beats a b o v → beats a b o' v) → (∀ q ∈ xs, beats a b o' (a * q / b, q) ∧ beats a b o' (a * q / b + 1, q)) → Z.nx [x0, x1, x2, .fr (.int a), .fr (.int b), x5, x6, x7, x8, .fr (bestS a b o'), y10, y11, y12, y13, x14, x15, x16, x17, x18, x19, x20, x21, x22, x23]) →
    vFor rd_law_f4g rd_law_f4b Z (xs.map .int) [x0, x1, x2, .fr (.int a), .fr (.int b), x5, x6, x7, x8, .fr (bestS a b o), x10, x11, x12, x13, x14, x15, x16, x17, x18, x19, x20, x21, x22, x23] := by
  intro xs
  induction xs with
  | nil => intro o x10 x11 x12 x13 ho hq hZ; exact hZ o _ _ _ _ ho (fun v _ h => h) (fun p hp => by cases hp)
  | cons q xs ih =>
    intro o x10 x11 x12 x13 ho hq hZ
    obtain ⟨q1, q2⟩ := hq q (List.mem_cons_self ..)
    rw [List.map_cons, vFor_cons]
    generalize hW : vFor rd_law_f4g rd_law_f4b Z (xs.map .int) = W
    simp only [↓rd_law_f4g, ↓rd_law_f4b, ↓vSeq, ↓vPar, ↓vPar3, ↓vSet, ↓vSetO, ↓vAsg, ↓vAug, ↓vAppend, ↓vExt, ↓vUnp, ↓vFz, ↓vRet, ↓vRetN, ↓vDrop, ↓vIfS, ↓vNext, ↓vBrk, ↓vCnt, ↓vNever, ↓vForS, ↓vC, ↓vVar, ↓vTup, ↓vOf, ↓vBin, ↓vBinL, ↓vBinR, ↓vUn, ↓vCall, ↓vCallO, ↓vCallIO, ↓vCallSC, ↓vLookA, ↓vB, ↓vTru, ↓vTruO, ↓vAnd, ↓vOr, ↓vNot, ↓vAndV, ↓vOrV, ↓vNotV, ↓vIf, ↓vChain, ↓vNil, ↓vCons, ↓vSl, ↓vSlL, ↓vP0, ↓vP1, ↓vRevT, ↓vRevL, ↓vRevLL, ↓vBits, ↓vPop, ↓vLc, ↓vTurn, ↓vYes, ↓gN, ↓gT, ↓gsC, ↓gs0, ↓gSet, ↓wL, ↓wT, ↓wR1, ↓wR2, ↓d2, ↓d20, ↓dAdd, ↓dMul, ↓dEq, ↓dNe, ↓dIsN, ↓dNotN, ↓isN, ↓dNeg, ↓dIx, ↓dInI, ↓dSl, ↓truD, ↓cLen, ↓cAbs, ↓cMax2, ↓cMin2, ↓cInt, ↓cTup, ↓cLst, ↓sv, ↓List.getD_cons_zero, ↓List.getD_cons_succ, ↓List.set_cons_zero, ↓List.set_cons_succ, ↓vxSeq, ↓vxIf, ↓vxRaise, ↓vxRet, ↓vxAsg, ↓vxCall, ↓vReason, ↓vEqS]
    refine ⟨mul_small (by omega), div_small (by omega) (by omega), mul_small (by omega), div_small (by omega) (by omega), ?_⟩
    rw [fdiv_pos (by omega)]
    refine loop_f5 _ a b m q x0 x1 x2 x5 x6 x7 x8 x14 x15 x16 x17 x18 x19 x20 x21 x22 x23 hb hb1 ha q1 q2 hm [a * q / b, a * q / b + 1] o _ _ _ ho fun o' y11 y12 y13 g1 g2 g3 => ?_
    rw [← hW]
    refine ih o' _ _ _ _ g1 (fun q' hq' => hq q' (List.mem_cons_of_mem _ hq')) fun o'' z10 z11 z12 z13 k1 k2 k3 => hZ o'' _ _ _ _ k1 (fun v hv h => k2 v hv (g2 v hv h)) fun q' hq' => ?_
    rcases List.mem_cons.mp hq' with z | z
    · rw [z]
      exact ⟨k2 _ q1 (g3 _ (List.mem_cons_self ..)), k2 _ q1 (g3 _ (List.mem_cons_of_mem _ (List.mem_cons_self ..)))⟩
    · exact k3 q' z
/-- the two about a q / b stand for all of their denominator -/
theorem best_of {a b m : Int} {o : Option (Int × Int)} (hb : 0 < b) (hm : 1 ≤ m) (ho : okB m o) (h : ∀ q, 0 < q → q ≤ m → beats a b o (a * q / b, q) ∧ beats a b o (a * q / b + 1, q)) : ∃ u, o = some u ∧ Best a b m u := by
  obtain ⟨⟨u, hu, _⟩, _⟩ := h 1 (by omega) hm
  obtain ⟨u1, u2, u3⟩ := ho u hu
  refine ⟨u, hu, u1, u2, u3, fun v v1 v2 => ?_⟩
  obtain ⟨h1, h2⟩ := h v.2 v1 v2
  have q1 : a * v.2 / b * b ≤ a * v.2 := Int.ediv_mul_le _ (by omega)
  have q2 : a * v.2 < (a * v.2 / b + 1) * b := Int.lt_ediv_add_one_mul_self _ hb
  generalize a * v.2 / b = f at h1 h2 q1 q2
  have fin : ∀ w : Int × Int, 0 < w.2 → beats a b o w → NLe a b w v → NLe a b u v := fun w hw hbw hk => by
    obtain ⟨u', hu', k⟩ := beats_mono ho hw v1 hbw hk
    rw [hu] at hu'
    cases hu'
    exact k
  by_cases z : v.1 ≤ f
  · refine fin (f, v.2) v1 h1 ?_
    have k1 : v.1 * b ≤ f * b := Int.mul_le_mul_of_nonneg_right z (by omega)
    rcases Int.lt_or_eq_of_le z with z | z
    · have k2 : v.1 * b < f * b := Int.mul_lt_mul_of_pos_right z hb
      refine .inl (Int.mul_lt_mul_of_pos_right ?_ v1)
      show ((f * b - a * v.2).natAbs : Int) < ((v.1 * b - a * v.2).natAbs : Int)
      omega
    · rw [← z]
      exact .inr ⟨rfl, Int.le_refl _⟩
  · refine fin (f + 1, v.2) v1 h2 ?_
    have k1 : (f + 1) * b ≤ v.1 * b := Int.mul_le_mul_of_nonneg_right (by omega) (by omega)
    rcases Int.lt_or_eq_of_le (show f + 1 ≤ v.1 by omega) with z | z
    · have k2 : (f + 1) * b < v.1 * b := Int.mul_lt_mul_of_pos_right z hb
      refine .inl (Int.mul_lt_mul_of_pos_right ?_ v1)
      show (((f + 1) * b - a * v.2).natAbs : Int) < ((v.1 * b - a * v.2).natAbs : Int)
      omega
    · have : v = (f + 1, v.2) := Prod.ext z.symm rfl
      rw [this]
      exact nle_refl
/-! ### the rows' determinants -/
theorem loop_dets (Z : VEnds) (rows : List (Int × Int)) (x0 x1 x2 x3 x4 x5 : SV) (x8 x9 x10 x11 x12 x13 x14 x15 x16 x17 x18 x19 x20 x21 x22 x23 : SV) (hs : ∀ p ∈ rows, small p.2)
    (hd : ∀ (i : Nat) (p q : Int × Int), rows[i]? = some p → rows[i + 1]? = some q → q.1 * p.2 - p.1 * q.2 = if i % 2 = 0 then 1 else -1) :
    ∀ (xs : List Int) (x7 : SV), (∀ k ∈ xs, 1 ≤ k ∧ k < rows.length) → (∀ y, Z.nx [x0, x1, x2, x3, x4, x5, .fr (.tuple (rows.map frD)), y, x8, x9, x10, x11, x12, x13, x14, x15, x16, x17, x18, x19, x20, x21, x22, x23]) →
    vFor rd_law_f3g rd_law_f3b Z (xs.map .int) [x0, x1, x2, x3, x4, x5, .fr (.tuple (rows.map frD)), x7, x8, x9, x10, x11, x12, x13, x14, x15, x16, x17, x18, x19, x20, x21, x22, x23] := by
  intro xs
  induction xs with
  | nil => intro x7 hk hZ; exact hZ x7
  | cons k xs ih =>
    intro x7 hk hZ
    obtain ⟨k1, k2⟩ := hk k (List.mem_cons_self ..)
    rw [List.map_cons, vFor_cons]
    generalize hW : vFor rd_law_f3g rd_law_f3b Z (xs.map .int) = W
    obtain ⟨i, rfl⟩ : ∃ i : Nat, k = (i : Int) + 1 := ⟨(k - 1).toNat, by omega⟩
    have hi : i + 1 < rows.length := by omega
    have e1 : rows[i]? = some rows[i] := List.getElem?_eq_getElem (by omega)
    have e2 : rows[i + 1]? = some rows[i + 1] := List.getElem?_eq_getElem hi
    have hdd := hd i _ _ e1 e2
    have s1 := hs _ (List.getElem_mem (show i < rows.length by omega))
    have s2 := hs _ (List.getElem_mem hi)
    generalize rows[i] = p at *
    generalize rows[i + 1] = q at *
    have a1 : atI (rows.map frD) ((i : Int) + 1) = some (frD q) := by
      rw [atI_nat (by omega), show ((i : Int) + 1).toNat = i + 1 by omega, List.getElem?_map, e2]; rfl
    have a2 : atI (rows.map frD) ((i : Int) + 1 - 1) = some (frD p) := by
      rw [atI_nat (by omega), show ((i : Int) + 1 - 1).toNat = i by omega, List.getElem?_map, e1]; rfl
    simp only [↓rd_law_f3g, ↓rd_law_f3b, ↓vSeq, ↓vPar, ↓vPar3, ↓vSet, ↓vSetO, ↓vAsg, ↓vAug, ↓vAppend, ↓vExt, ↓vUnp, ↓vFz, ↓vRet, ↓vRetN, ↓vDrop, ↓vIfS, ↓vNext, ↓vBrk, ↓vCnt, ↓vNever, ↓vForS, ↓vC, ↓vVar, ↓vTup, ↓vOf, ↓vBin, ↓vBinL, ↓vBinR, ↓vUn, ↓vCall, ↓vCallO, ↓vCallIO, ↓vCallSC, ↓vLookA, ↓vB, ↓vTru, ↓vTruO, ↓vAnd, ↓vOr, ↓vNot, ↓vAndV, ↓vOrV, ↓vNotV, ↓vIf, ↓vChain, ↓vNil, ↓vCons, ↓vSl, ↓vSlL, ↓vP0, ↓vP1, ↓vRevT, ↓vRevL, ↓vRevLL, ↓vBits, ↓vPop, ↓vLc, ↓vTurn, ↓vYes, ↓gN, ↓gT, ↓gsC, ↓gs0, ↓gSet, ↓wL, ↓wT, ↓wR1, ↓wR2, ↓d2, ↓d20, ↓dAdd, ↓dMul, ↓dEq, ↓dNe, ↓dIsN, ↓dNotN, ↓isN, ↓dNeg, ↓dIx, ↓dInI, ↓dSl, ↓truD, ↓cLen, ↓cAbs, ↓cMax2, ↓cMin2, ↓cInt, ↓cTup, ↓cLst, ↓sv, ↓List.getD_cons_zero, ↓List.getD_cons_succ, ↓List.set_cons_zero, ↓List.set_cons_succ, ↓vxSeq, ↓vxIf, ↓vxRaise, ↓vxRet, ↓vxAsg, ↓vxCall, ↓vReason, ↓vEqS, a1, a2, atI_0, atI_1]
    refine ⟨mul_small s1, mul_small s2, by omega, ?_⟩
    rw [fmod_pos (by omega), hdd]
    have go : W [x0, x1, x2, x3, x4, x5, .fr (.tuple (rows.map frD)), .fr (.int ((i : Int) + 1)), x8, x9, x10, x11, x12, x13, x14, x15, x16, x17, x18, x19, x20, x21, x22, x23] := by
      rw [← hW]
      exact ih _ (fun k' hk' => hk k' (List.mem_cons_of_mem _ hk')) hZ
    by_cases z : i % 2 = 0
    · have z2 : ((i : Int) + 1) % 2 = 1 := by omega
      simp only [z, z2, decide_true, if_true, Bool.not_true]
      exact go
    · have z2 : ¬ ((i : Int) + 1) % 2 = 1 := by omega
      simp only [z, z2, decide_false, if_false, ↓vSeq, ↓vPar, ↓vPar3, ↓vSet, ↓vSetO, ↓vAsg, ↓vAug, ↓vAppend, ↓vExt, ↓vUnp, ↓vFz, ↓vRet, ↓vRetN, ↓vDrop, ↓vIfS, ↓vNext, ↓vBrk, ↓vCnt, ↓vNever, ↓vForS, ↓vC, ↓vVar, ↓vTup, ↓vOf, ↓vBin, ↓vBinL, ↓vBinR, ↓vUn, ↓vCall, ↓vCallO, ↓vCallIO, ↓vCallSC, ↓vLookA, ↓vB, ↓vTru, ↓vTruO, ↓vAnd, ↓vOr, ↓vNot, ↓vAndV, ↓vOrV, ↓vNotV, ↓vIf, ↓vChain, ↓vNil, ↓vCons, ↓vSl, ↓vSlL, ↓vP0, ↓vP1, ↓vRevT, ↓vRevL, ↓vRevLL, ↓vBits, ↓vPop, ↓vLc, ↓vTurn, ↓vYes, ↓gN, ↓gT, ↓gsC, ↓gs0, ↓gSet, ↓wL, ↓wT, ↓wR1, ↓wR2, ↓d2, ↓d20, ↓dAdd, ↓dMul, ↓dEq, ↓dNe, ↓dIsN, ↓dNotN, ↓isN, ↓dNeg, ↓dIx, ↓dInI, ↓dSl, ↓truD, ↓cLen, ↓cAbs, ↓cMax2, ↓cMin2, ↓cInt, ↓cTup, ↓cLst, ↓sv, ↓List.getD_cons_zero, ↓List.getD_cons_succ, ↓List.set_cons_zero, ↓List.set_cons_succ, ↓vxSeq, ↓vxIf, ↓vxRaise, ↓vxRet, ↓vxAsg, ↓vxCall, ↓vReason, ↓vEqS, decide_true, Bool.not_true]
      exact go
/-! ### a turn -/
theorem comp_none (Q : List D → Ev → Prop) (x0 x1 x2 x3 x4 x5 x6 x7 x8 x9 x10 x11 x12 x13 x14 x15 x16 x17 x18 x19 x20 x21 x22 : SV) : ∀ (xs : List Int), (∀ t ∈ xs, 1 ≤ t) →
    Q [] [x0, x1, x2, x3, x4, x5, x6, x7, x8, x9, x10, x11, x12, x13, x14, x15, x16, x17, x18, x19, x20, x21, x22, .un] →
    vComp rd_law_c2_g rd_law_c2_t rd_law_c2_e [23] Q (xs.map .int) [x0, x1, x2, x3, x4, x5, x6, x7, x8, x9, x10, x11, x12, x13, x14, x15, x16, x17, x18, x19, x20, x21, x22, .un] [] := by
  intro xs
  induction xs with
  | nil => intro _ h; exact h
  | cons t xs ih =>
    intro ht h
    have h1 : ¬ t < 1 := by have := ht t (List.mem_cons_self ..); omega
    rw [List.map_cons]
    show vTurn _ _ _ _ _ _ _ _
    simp only [↓vTurn, ↓rd_law_c2_g, ↓rd_law_c2_t, ↓wipeE, ↓vSeq, ↓vPar, ↓vPar3, ↓vSet, ↓vSetO, ↓vAsg, ↓vAug, ↓vAppend, ↓vExt, ↓vUnp, ↓vFz, ↓vRet, ↓vRetN, ↓vDrop, ↓vIfS, ↓vNext, ↓vBrk, ↓vCnt, ↓vNever, ↓vForS, ↓vC, ↓vVar, ↓vTup, ↓vOf, ↓vBin, ↓vBinL, ↓vBinR, ↓vUn, ↓vCall, ↓vCallO, ↓vCallIO, ↓vCallSC, ↓vLookA, ↓vB, ↓vTru, ↓vTruO, ↓vAnd, ↓vOr, ↓vNot, ↓vAndV, ↓vOrV, ↓vNotV, ↓vIf, ↓vChain, ↓vNil, ↓vCons, ↓vSl, ↓vSlL, ↓vP0, ↓vP1, ↓vRevT, ↓vRevL, ↓vRevLL, ↓vBits, ↓vPop, ↓vLc, ↓vTurn, ↓vYes, ↓gN, ↓gT, ↓gsC, ↓gs0, ↓gSet, ↓wL, ↓wT, ↓wR1, ↓wR2, ↓d2, ↓d20, ↓dAdd, ↓dMul, ↓dEq, ↓dNe, ↓dIsN, ↓dNotN, ↓isN, ↓dNeg, ↓dIx, ↓dInI, ↓dSl, ↓truD, ↓cLen, ↓cAbs, ↓cMax2, ↓cMin2, ↓cInt, ↓cTup, ↓cLst, ↓sv, ↓List.getD_cons_zero, ↓List.getD_cons_succ, ↓List.set_cons_zero, ↓List.set_cons_succ, ↓vxSeq, ↓vxIf, ↓vxRaise, ↓vxRet, ↓vxAsg, ↓vxCall, ↓vReason, ↓vEqS, h1, decide_false, back]
    exact ih (fun u hu => ht u (List.mem_cons_of_mem _ hu)) h
theorem get_dig {gs : List Int} {n : Int} (h : digsOk gs) (h0 : 0 ≤ n) (h1 : n < gs.length) : ∃ g, gs[n.toNat]? = some g ∧ 0 ≤ g ∧ g < 1009 := by
  have e : gs[n.toNat]? = some gs[n.toNat] := List.getElem?_eq_getElem (by omega)
  have := h _ (List.getElem_mem (show n.toNat < gs.length by omega))
  exact ⟨_, e, this.1, this.2⟩
theorem plD_fr {u : Int × Int} : plD (frD u) = true := rfl
theorem cf_all {a b : Int} (hb : 0 < b) (hb2 : b ≤ 1000) (ha : -2000 ≤ a ∧ a ≤ 2000) : ∃ ts, cf (b.toNat + 1) a b = (a / b) :: ts ∧ (∀ t ∈ ts, 1 ≤ t ∧ t < 100000) ∧ -2000 ≤ a / b ∧ a / b ≤ 2000 ∧ (∀ h : ts ≠ [], 2 ≤ ts.getLast h) ∧ ts.length ≤ 1001 := by
  have hm := emod_lt' (a := a) (b := b) hb
  have len : ∀ (k : Nat) (x y : Int), (cf k x y).length ≤ k := by
    intro k
    induction k with
    | zero => intro x y; exact Nat.le_refl _
    | succ k ih =>
      intro x y
      by_cases hy : y = 0
      · subst hy; rw [cf_zero]; exact Nat.zero_le _
      · rw [cf_succ hy, List.length_cons]; have := ih y (x % y); omega
  refine ⟨_, cf_succ (by omega), cf_pos _ _ _ hm.1 (by omega) (by omega), ?_, ?_, fun h => ?_, by have := len b.toNat b (a % b); omega⟩
  · rw [Int.le_ediv_iff_mul_le hb]
    have : 2000 * 1 ≤ 2000 * b := Int.mul_le_mul_of_nonneg_left (by omega) (by omega)
    omega
  · refine Int.ediv_le_of_le_mul hb ?_
    have : 2000 * 1 ≤ 2000 * b := Int.mul_le_mul_of_nonneg_left (by omega) (by omega)
    omega
  · refine cf_last _ _ _ ?_ hm.2 (by omega) h
    refine Int.not_le.mp fun z => h ?_
    have : a % b = 0 := by omega
    rw [this]
    obtain ⟨k, hk⟩ : ∃ k, b.toNat = k + 1 := ⟨b.toNat - 1, by omega⟩
    rw [hk]; exact cf_zero
theorem loop_turn (Z : VEnds) (ns gs : List Int) (hg : digsOk gs) (x14 x15 x16 x17 x18 x19 x20 x21 x22 : SV) : ∀ (xs : List Int) (n : Int) (x2 x3 x4 x5 x6 x7 x8 x9 x10 x11 x12 x13 : SV), 0 ≤ n → n + 3 * xs.length ≤ gs.length →
    (∀ y2 y3 y4 y5 y6 y7 y8 y9 y10 y11 y12 y13, Z.nx [.rw ns, .ow [.list (gs.map .int), .int (n + 3 * xs.length)], y2, y3, y4, y5, y6, y7, y8, y9, y10, y11, y12, y13, x14, x15, x16, x17, x18, x19, x20, x21, x22, .un]) →
    vFor rd_law_f1g rd_law_f1b Z (xs.map .int) [.rw ns, .ow [.list (gs.map .int), .int n], x2, x3, x4, x5, x6, x7, x8, x9, x10, x11, x12, x13, x14, x15, x16, x17, x18, x19, x20, x21, x22, .un] := by
  intro xs
  induction xs with
  | nil => intro n x2 x3 x4 x5 x6 x7 x8 x9 x10 x11 x12 x13 h0 hl hZ; rw [List.map_nil, vFor_nil]; simpa using hZ x2 x3 x4 x5 x6 x7 x8 x9 x10 x11 x12 x13
  | cons t xs ih =>
    intro n x2 x3 x4 x5 x6 x7 x8 x9 x10 x11 x12 x13 h0 hl hZ
    rw [List.length_cons] at hl hZ
    rw [List.map_cons, vFor_cons]
    generalize hW : vFor rd_law_f1g rd_law_f1b Z (xs.map .int) = W
    obtain ⟨g1, e1, b1, c1⟩ := get_dig hg h0 (by omega)
    obtain ⟨g2, e2, b2, c2⟩ := get_dig hg (n := n + 1) (by omega) (by omega)
    obtain ⟨g3, e3, b3, c3⟩ := get_dig hg (n := n + 1 + 1) (by omega) (by omega)
    simp only [↓rd_law_f1g, ↓rd_law_f1b, ↓vSeq, ↓vPar, ↓vPar3, ↓vSet, ↓vSetO, ↓vAsg, ↓vAug, ↓vAppend, ↓vExt, ↓vUnp, ↓vFz, ↓vRet, ↓vRetN, ↓vDrop, ↓vIfS, ↓vNext, ↓vBrk, ↓vCnt, ↓vNever, ↓vForS, ↓vC, ↓vVar, ↓vTup, ↓vOf, ↓vBin, ↓vBinL, ↓vBinR, ↓vUn, ↓vCall, ↓vCallO, ↓vCallIO, ↓vCallSC, ↓vLookA, ↓vB, ↓vTru, ↓vTruO, ↓vAnd, ↓vOr, ↓vNot, ↓vAndV, ↓vOrV, ↓vNotV, ↓vIf, ↓vChain, ↓vNil, ↓vCons, ↓vSl, ↓vSlL, ↓vP0, ↓vP1, ↓vRevT, ↓vRevL, ↓vRevLL, ↓vBits, ↓vPop, ↓vLc, ↓vTurn, ↓vYes, ↓gN, ↓gT, ↓gsC, ↓gs0, ↓gSet, ↓wL, ↓wT, ↓wR1, ↓wR2, ↓d2, ↓d20, ↓dAdd, ↓dMul, ↓dEq, ↓dNe, ↓dIsN, ↓dNotN, ↓isN, ↓dNeg, ↓dIx, ↓dInI, ↓dSl, ↓truD, ↓cLen, ↓cAbs, ↓cMax2, ↓cMin2, ↓cInt, ↓cTup, ↓cLst, ↓sv, ↓List.getD_cons_zero, ↓List.getD_cons_succ, ↓List.set_cons_zero, ↓List.set_cons_succ, ↓vxSeq, ↓vxIf, ↓vxRaise, ↓vxRet, ↓vxAsg, ↓vxCall, ↓vReason, ↓vEqS]
    refine ⟨gs, n, 2001, g1, rfl, rfl, by omega, h0, e1, ?_⟩
    simp only [↓vSeq, ↓vPar, ↓vPar3, ↓vSet, ↓vSetO, ↓vAsg, ↓vAug, ↓vAppend, ↓vExt, ↓vUnp, ↓vFz, ↓vRet, ↓vRetN, ↓vDrop, ↓vIfS, ↓vNext, ↓vBrk, ↓vCnt, ↓vNever, ↓vForS, ↓vC, ↓vVar, ↓vTup, ↓vOf, ↓vBin, ↓vBinL, ↓vBinR, ↓vUn, ↓vCall, ↓vCallO, ↓vCallIO, ↓vCallSC, ↓vLookA, ↓vB, ↓vTru, ↓vTruO, ↓vAnd, ↓vOr, ↓vNot, ↓vAndV, ↓vOrV, ↓vNotV, ↓vIf, ↓vChain, ↓vNil, ↓vCons, ↓vSl, ↓vSlL, ↓vP0, ↓vP1, ↓vRevT, ↓vRevL, ↓vRevLL, ↓vBits, ↓vPop, ↓vLc, ↓vTurn, ↓vYes, ↓gN, ↓gT, ↓gsC, ↓gs0, ↓gSet, ↓wL, ↓wT, ↓wR1, ↓wR2, ↓d2, ↓d20, ↓dAdd, ↓dMul, ↓dEq, ↓dNe, ↓dIsN, ↓dNotN, ↓isN, ↓dNeg, ↓dIx, ↓dInI, ↓dSl, ↓truD, ↓cLen, ↓cAbs, ↓cMax2, ↓cMin2, ↓cInt, ↓cTup, ↓cLst, ↓sv, ↓List.getD_cons_zero, ↓List.getD_cons_succ, ↓List.set_cons_zero, ↓List.set_cons_succ, ↓vxSeq, ↓vxIf, ↓vxRaise, ↓vxRet, ↓vxAsg, ↓vxCall, ↓vReason, ↓vEqS]
    refine ⟨gs, n + 1, 400, g2, rfl, rfl, by omega, by omega, e2, ?_⟩
    have ha : -1000 ≤ g1 % 2001 - 1000 ∧ g1 % 2001 - 1000 ≤ 1000 := by omega
    have hb : 0 < 1 + g2 % 400 ∧ 1 + g2 % 400 ≤ 400 := by omega
    simp only [↓vSeq, ↓vPar, ↓vPar3, ↓vSet, ↓vSetO, ↓vAsg, ↓vAug, ↓vAppend, ↓vExt, ↓vUnp, ↓vFz, ↓vRet, ↓vRetN, ↓vDrop, ↓vIfS, ↓vNext, ↓vBrk, ↓vCnt, ↓vNever, ↓vForS, ↓vC, ↓vVar, ↓vTup, ↓vOf, ↓vBin, ↓vBinL, ↓vBinR, ↓vUn, ↓vCall, ↓vCallO, ↓vCallIO, ↓vCallSC, ↓vLookA, ↓vB, ↓vTru, ↓vTruO, ↓vAnd, ↓vOr, ↓vNot, ↓vAndV, ↓vOrV, ↓vNotV, ↓vIf, ↓vChain, ↓vNil, ↓vCons, ↓vSl, ↓vSlL, ↓vP0, ↓vP1, ↓vRevT, ↓vRevL, ↓vRevLL, ↓vBits, ↓vPop, ↓vLc, ↓vTurn, ↓vYes, ↓gN, ↓gT, ↓gsC, ↓gs0, ↓gSet, ↓wL, ↓wT, ↓wR1, ↓wR2, ↓d2, ↓d20, ↓dAdd, ↓dMul, ↓dEq, ↓dNe, ↓dIsN, ↓dNotN, ↓isN, ↓dNeg, ↓dIx, ↓dInI, ↓dSl, ↓truD, ↓cLen, ↓cAbs, ↓cMax2, ↓cMin2, ↓cInt, ↓cTup, ↓cLst, ↓sv, ↓List.getD_cons_zero, ↓List.getD_cons_succ, ↓List.set_cons_zero, ↓List.set_cons_succ, ↓vxSeq, ↓vxIf, ↓vxRaise, ↓vxRet, ↓vxAsg, ↓vxCall, ↓vReason, ↓vEqS]
    generalize g1 % 2001 - 1000 = a at ha ⊢
    generalize 1 + g2 % 400 = b at hb ⊢
    simp only [↓rd_law_k2_1, ↓vSeq, ↓vPar, ↓vPar3, ↓vSet, ↓vSetO, ↓vAsg, ↓vAug, ↓vAppend, ↓vExt, ↓vUnp, ↓vFz, ↓vRet, ↓vRetN, ↓vDrop, ↓vIfS, ↓vNext, ↓vBrk, ↓vCnt, ↓vNever, ↓vForS, ↓vC, ↓vVar, ↓vTup, ↓vOf, ↓vBin, ↓vBinL, ↓vBinR, ↓vUn, ↓vCall, ↓vCallO, ↓vCallIO, ↓vCallSC, ↓vLookA, ↓vB, ↓vTru, ↓vTruO, ↓vAnd, ↓vOr, ↓vNot, ↓vAndV, ↓vOrV, ↓vNotV, ↓vIf, ↓vChain, ↓vNil, ↓vCons, ↓vSl, ↓vSlL, ↓vP0, ↓vP1, ↓vRevT, ↓vRevL, ↓vRevLL, ↓vBits, ↓vPop, ↓vLc, ↓vTurn, ↓vYes, ↓gN, ↓gT, ↓gsC, ↓gs0, ↓gSet, ↓wL, ↓wT, ↓wR1, ↓wR2, ↓d2, ↓d20, ↓dAdd, ↓dMul, ↓dEq, ↓dNe, ↓dIsN, ↓dNotN, ↓isN, ↓dNeg, ↓dIx, ↓dInI, ↓dSl, ↓truD, ↓cLen, ↓cAbs, ↓cMax2, ↓cMin2, ↓cInt, ↓cTup, ↓cLst, ↓sv, ↓List.getD_cons_zero, ↓List.getD_cons_succ, ↓List.set_cons_zero, ↓List.set_cons_succ, ↓vxSeq, ↓vxIf, ↓vxRaise, ↓vxRet, ↓vxAsg, ↓vxCall, ↓vReason, ↓vEqS]
    refine ⟨a, b, rfl, hb.1, by omega, ?_⟩
    have hval := val_cf (b.toNat + 1) a b hb.1 (by omega)
    obtain ⟨r1, r2⟩ := conv_cf a b (b.toNat + 1) a b (1, 0) (0, 1) hb.1 (by omega) (by show a = 1 * a + 0 * b; omega) (by show b = 0 * a + 1 * b; omega) (.inl rfl) (by show (0 : Int) ≤ 0; omega) (by show (0 : Int) ≤ 1; omega) (by show 0 < a / b * 0 + 1; omega)
    obtain ⟨ts, ets, hts, hq1, hq2, hlast, hlen⟩ := cf_all (a := a) hb.1 (by omega) (by omega)
    rw [ets] at hval r1 r2 ⊢
    have hsm : ∀ t ∈ (a / b) :: ts, small t := fun t ht => by
      rcases List.mem_cons.mp ht with z | z
      · rw [z]; exact ⟨by omega, by omega⟩
      · have := hts t z
        exact ⟨by omega, by omega⟩
    obtain ⟨d, dd1, dd2, dd3, dd4, dd5⟩ := red_spec (a := a) hb.1
    have hr2 := red_le (p := a) hb.1
    -- the terms' value, the terms, the last
    simp only [↓rd_law_k2_2, ↓vSeq, ↓vPar, ↓vPar3, ↓vSet, ↓vSetO, ↓vAsg, ↓vAug, ↓vAppend, ↓vExt, ↓vUnp, ↓vFz, ↓vRet, ↓vRetN, ↓vDrop, ↓vIfS, ↓vNext, ↓vBrk, ↓vCnt, ↓vNever, ↓vForS, ↓vC, ↓vVar, ↓vTup, ↓vOf, ↓vBin, ↓vBinL, ↓vBinR, ↓vUn, ↓vCall, ↓vCallO, ↓vCallIO, ↓vCallSC, ↓vLookA, ↓vB, ↓vTru, ↓vTruO, ↓vAnd, ↓vOr, ↓vNot, ↓vAndV, ↓vOrV, ↓vNotV, ↓vIf, ↓vChain, ↓vNil, ↓vCons, ↓vSl, ↓vSlL, ↓vP0, ↓vP1, ↓vRevT, ↓vRevL, ↓vRevLL, ↓vBits, ↓vPop, ↓vLc, ↓vTurn, ↓vYes, ↓gN, ↓gT, ↓gsC, ↓gs0, ↓gSet, ↓wL, ↓wT, ↓wR1, ↓wR2, ↓d2, ↓d20, ↓dAdd, ↓dMul, ↓dEq, ↓dNe, ↓dIsN, ↓dNotN, ↓isN, ↓dNeg, ↓dIx, ↓dInI, ↓dSl, ↓truD, ↓cLen, ↓cAbs, ↓cMax2, ↓cMin2, ↓cInt, ↓cTup, ↓cLst, ↓sv, ↓List.getD_cons_zero, ↓List.getD_cons_succ, ↓List.set_cons_zero, ↓List.set_cons_succ, ↓vxSeq, ↓vxIf, ↓vxRaise, ↓vxRet, ↓vxAsg, ↓vxCall, ↓vReason, ↓vEqS]
    refine ⟨a, b, rfl, hb.1, by omega, (a / b) :: ts, rfl, List.cons_ne_nil _ _, hsm, ?_⟩
    rw [hval]
    simp only [↓vSeq, ↓vPar, ↓vPar3, ↓vSet, ↓vSetO, ↓vAsg, ↓vAug, ↓vAppend, ↓vExt, ↓vUnp, ↓vFz, ↓vRet, ↓vRetN, ↓vDrop, ↓vIfS, ↓vNext, ↓vBrk, ↓vCnt, ↓vNever, ↓vForS, ↓vC, ↓vVar, ↓vTup, ↓vOf, ↓vBin, ↓vBinL, ↓vBinR, ↓vUn, ↓vCall, ↓vCallO, ↓vCallIO, ↓vCallSC, ↓vLookA, ↓vB, ↓vTru, ↓vTruO, ↓vAnd, ↓vOr, ↓vNot, ↓vAndV, ↓vOrV, ↓vNotV, ↓vIf, ↓vChain, ↓vNil, ↓vCons, ↓vSl, ↓vSlL, ↓vP0, ↓vP1, ↓vRevT, ↓vRevL, ↓vRevLL, ↓vBits, ↓vPop, ↓vLc, ↓vTurn, ↓vYes, ↓gN, ↓gT, ↓gsC, ↓gs0, ↓gSet, ↓wL, ↓wT, ↓wR1, ↓wR2, ↓d2, ↓d20, ↓dAdd, ↓dMul, ↓dEq, ↓dNe, ↓dIsN, ↓dNotN, ↓isN, ↓dNeg, ↓dIx, ↓dInI, ↓dSl, ↓truD, ↓cLen, ↓cAbs, ↓cMax2, ↓cMin2, ↓cInt, ↓cTup, ↓cLst, ↓sv, ↓List.getD_cons_zero, ↓List.getD_cons_succ, ↓List.set_cons_zero, ↓List.set_cons_succ, ↓vxSeq, ↓vxIf, ↓vxRaise, ↓vxRet, ↓vxAsg, ↓vxCall, ↓vReason, ↓vEqS, atI_0]
    refine ⟨(a / b) :: ts, rfl, List.cons_ne_nil _ _, hsm, ?_⟩
    rw [hval]
    simp only [↓vSeq, ↓vPar, ↓vPar3, ↓vSet, ↓vSetO, ↓vAsg, ↓vAug, ↓vAppend, ↓vExt, ↓vUnp, ↓vFz, ↓vRet, ↓vRetN, ↓vDrop, ↓vIfS, ↓vNext, ↓vBrk, ↓vCnt, ↓vNever, ↓vForS, ↓vC, ↓vVar, ↓vTup, ↓vOf, ↓vBin, ↓vBinL, ↓vBinR, ↓vUn, ↓vCall, ↓vCallO, ↓vCallIO, ↓vCallSC, ↓vLookA, ↓vB, ↓vTru, ↓vTruO, ↓vAnd, ↓vOr, ↓vNot, ↓vAndV, ↓vOrV, ↓vNotV, ↓vIf, ↓vChain, ↓vNil, ↓vCons, ↓vSl, ↓vSlL, ↓vP0, ↓vP1, ↓vRevT, ↓vRevL, ↓vRevLL, ↓vBits, ↓vPop, ↓vLc, ↓vTurn, ↓vYes, ↓gN, ↓gT, ↓gsC, ↓gs0, ↓gSet, ↓wL, ↓wT, ↓wR1, ↓wR2, ↓d2, ↓d20, ↓dAdd, ↓dMul, ↓dEq, ↓dNe, ↓dIsN, ↓dNotN, ↓isN, ↓dNeg, ↓dIx, ↓dInI, ↓dSl, ↓truD, ↓cLen, ↓cAbs, ↓cMax2, ↓cMin2, ↓cInt, ↓cTup, ↓cLst, ↓sv, ↓List.getD_cons_zero, ↓List.getD_cons_succ, ↓List.set_cons_zero, ↓List.set_cons_succ, ↓vxSeq, ↓vxIf, ↓vxRaise, ↓vxRet, ↓vxAsg, ↓vxCall, ↓vReason, ↓vEqS, atI_1]
    refine ⟨(red a b).1, (red a b).2, rfl, dd4, by omega, ?_⟩
    rw [red_self dd4 dd5]
    refine ⟨⟨shaped_fr, shaped_fr⟩, ?_⟩
    rw [eqv_fr]
    simp only [decide_true, Bool.not_true, ↓tI, ↓vSeq, ↓vPar, ↓vPar3, ↓vSet, ↓vSetO, ↓vAsg, ↓vAug, ↓vAppend, ↓vExt, ↓vUnp, ↓vFz, ↓vRet, ↓vRetN, ↓vDrop, ↓vIfS, ↓vNext, ↓vBrk, ↓vCnt, ↓vNever, ↓vForS, ↓vC, ↓vVar, ↓vTup, ↓vOf, ↓vBin, ↓vBinL, ↓vBinR, ↓vUn, ↓vCall, ↓vCallO, ↓vCallIO, ↓vCallSC, ↓vLookA, ↓vB, ↓vTru, ↓vTruO, ↓vAnd, ↓vOr, ↓vNot, ↓vAndV, ↓vOrV, ↓vNotV, ↓vIf, ↓vChain, ↓vNil, ↓vCons, ↓vSl, ↓vSlL, ↓vP0, ↓vP1, ↓vRevT, ↓vRevL, ↓vRevLL, ↓vBits, ↓vPop, ↓vLc, ↓vTurn, ↓vYes, ↓gN, ↓gT, ↓gsC, ↓gs0, ↓gSet, ↓wL, ↓wT, ↓wR1, ↓wR2, ↓d2, ↓d20, ↓dAdd, ↓dMul, ↓dEq, ↓dNe, ↓dIsN, ↓dNotN, ↓isN, ↓dNeg, ↓dIx, ↓dInI, ↓dSl, ↓truD, ↓cLen, ↓cAbs, ↓cMax2, ↓cMin2, ↓cInt, ↓cTup, ↓cLst, ↓sv, ↓List.getD_cons_zero, ↓List.getD_cons_succ, ↓List.set_cons_zero, ↓List.set_cons_succ, ↓vxSeq, ↓vxIf, ↓vxRaise, ↓vxRet, ↓vxAsg, ↓vxCall, ↓vReason, ↓vEqS]
    rw [cut_tail, List.map_cons, List.drop_one, List.tail_cons]
    refine ⟨by rw [List.length_map, sizeLine_eq]; omega, fun i hi ds => ?_, ?_⟩
    · rw [List.mem_singleton.mp hi]
      exact fun z => nomatch z
    refine comp_none _ _ _ _ _ _ _ _ _ _ _ _ _ _ _ _ _ _ _ _ _ _ _ _ ts (fun t ht => (hts t ht).1) ?_
    refine ⟨⟨rfl, rfl⟩, ?_⟩
    have enil : PyData.eqv (.list []) (.list []) = true := rfl
    simp only [enil, Bool.not_true]
    have next : rd_law_k2_3 { nx := W, rt := Z.rt, bk := Z.nx, ct := W } [.rw ns, .ow [.list (gs.map .int), .int (n + 1 + 1)], .fr (.int t), .fr (.int a), .fr (.int b), .fr (.tuple (PyData.int (a / b) :: ts.map PyData.int)), x6, x7, x8, x9, x10, x11, x12, x13, x14, x15, x16, x17, x18, x19, x20, x21, x22, .un] := by
      simp only [↓rd_law_k2_3, ↓vSeq, ↓vPar, ↓vPar3, ↓vSet, ↓vSetO, ↓vAsg, ↓vAug, ↓vAppend, ↓vExt, ↓vUnp, ↓vFz, ↓vRet, ↓vRetN, ↓vDrop, ↓vIfS, ↓vNext, ↓vBrk, ↓vCnt, ↓vNever, ↓vForS, ↓vC, ↓vVar, ↓vTup, ↓vOf, ↓vBin, ↓vBinL, ↓vBinR, ↓vUn, ↓vCall, ↓vCallO, ↓vCallIO, ↓vCallSC, ↓vLookA, ↓vB, ↓vTru, ↓vTruO, ↓vAnd, ↓vOr, ↓vNot, ↓vAndV, ↓vOrV, ↓vNotV, ↓vIf, ↓vChain, ↓vNil, ↓vCons, ↓vSl, ↓vSlL, ↓vP0, ↓vP1, ↓vRevT, ↓vRevL, ↓vRevLL, ↓vBits, ↓vPop, ↓vLc, ↓vTurn, ↓vYes, ↓gN, ↓gT, ↓gsC, ↓gs0, ↓gSet, ↓wL, ↓wT, ↓wR1, ↓wR2, ↓d2, ↓d20, ↓dAdd, ↓dMul, ↓dEq, ↓dNe, ↓dIsN, ↓dNotN, ↓isN, ↓dNeg, ↓dIx, ↓dInI, ↓dSl, ↓truD, ↓cLen, ↓cAbs, ↓cMax2, ↓cMin2, ↓cInt, ↓cTup, ↓cLst, ↓sv, ↓List.getD_cons_zero, ↓List.getD_cons_succ, ↓List.set_cons_zero, ↓List.set_cons_succ, ↓vxSeq, ↓vxIf, ↓vxRaise, ↓vxRet, ↓vxAsg, ↓vxCall, ↓vReason, ↓vEqS]
      refine ⟨(a / b) :: ts, rfl, hsm, by rw [List.length_cons]; omega, ?_⟩
      have hcl := conv_len ((a / b) :: ts) (1, 0) (0, 1)
      have hdt := conv_det ((a / b) :: ts) (1, 0) (0, 1)
      generalize conv (1, 0) (0, 1) ((a / b) :: ts) = rows at r1 r2 hcl hdt ⊢
      have hrow : rows ≠ [] := by intro z; rw [z] at r1; cases r1
      have hrow2 : rows.map frD ≠ [] := by simpa using hrow
      have elast : (rows.map frD).getLast hrow2 = frD (red a b) := by
        rw [List.getLast_map]
        rw [List.getLast?_eq_some_getLast hrow] at r1
        rw [Option.some.inj r1]
      simp only [↓rd_law_k2_4, ↓vSeq, ↓vPar, ↓vPar3, ↓vSet, ↓vSetO, ↓vAsg, ↓vAug, ↓vAppend, ↓vExt, ↓vUnp, ↓vFz, ↓vRet, ↓vRetN, ↓vDrop, ↓vIfS, ↓vNext, ↓vBrk, ↓vCnt, ↓vNever, ↓vForS, ↓vC, ↓vVar, ↓vTup, ↓vOf, ↓vBin, ↓vBinL, ↓vBinR, ↓vUn, ↓vCall, ↓vCallO, ↓vCallIO, ↓vCallSC, ↓vLookA, ↓vB, ↓vTru, ↓vTruO, ↓vAnd, ↓vOr, ↓vNot, ↓vAndV, ↓vOrV, ↓vNotV, ↓vIf, ↓vChain, ↓vNil, ↓vCons, ↓vSl, ↓vSlL, ↓vP0, ↓vP1, ↓vRevT, ↓vRevL, ↓vRevLL, ↓vBits, ↓vPop, ↓vLc, ↓vTurn, ↓vYes, ↓gN, ↓gT, ↓gsC, ↓gs0, ↓gSet, ↓wL, ↓wT, ↓wR1, ↓wR2, ↓d2, ↓d20, ↓dAdd, ↓dMul, ↓dEq, ↓dNe, ↓dIsN, ↓dNotN, ↓isN, ↓dNeg, ↓dIx, ↓dInI, ↓dSl, ↓truD, ↓cLen, ↓cAbs, ↓cMax2, ↓cMin2, ↓cInt, ↓cTup, ↓cLst, ↓sv, ↓List.getD_cons_zero, ↓List.getD_cons_succ, ↓List.set_cons_zero, ↓List.set_cons_succ, ↓vxSeq, ↓vxIf, ↓vxRaise, ↓vxRet, ↓vxAsg, ↓vxCall, ↓vReason, ↓vEqS]
      have hl2 : ((rows.map frD).length : Int) = ((PyData.int (a / b) :: ts.map PyData.int).length : Int) := by
        rw [List.length_map, hcl, List.length_cons, List.length_cons, List.length_map]
      rw [hl2]
      simp only [decide_true, Bool.not_true]
      rw [atI_neg1 hrow2, elast]
      simp only [↓vSeq, ↓vPar, ↓vPar3, ↓vSet, ↓vSetO, ↓vAsg, ↓vAug, ↓vAppend, ↓vExt, ↓vUnp, ↓vFz, ↓vRet, ↓vRetN, ↓vDrop, ↓vIfS, ↓vNext, ↓vBrk, ↓vCnt, ↓vNever, ↓vForS, ↓vC, ↓vVar, ↓vTup, ↓vOf, ↓vBin, ↓vBinL, ↓vBinR, ↓vUn, ↓vCall, ↓vCallO, ↓vCallIO, ↓vCallSC, ↓vLookA, ↓vB, ↓vTru, ↓vTruO, ↓vAnd, ↓vOr, ↓vNot, ↓vAndV, ↓vOrV, ↓vNotV, ↓vIf, ↓vChain, ↓vNil, ↓vCons, ↓vSl, ↓vSlL, ↓vP0, ↓vP1, ↓vRevT, ↓vRevL, ↓vRevLL, ↓vBits, ↓vPop, ↓vLc, ↓vTurn, ↓vYes, ↓gN, ↓gT, ↓gsC, ↓gs0, ↓gSet, ↓wL, ↓wT, ↓wR1, ↓wR2, ↓d2, ↓d20, ↓dAdd, ↓dMul, ↓dEq, ↓dNe, ↓dIsN, ↓dNotN, ↓isN, ↓dNeg, ↓dIx, ↓dInI, ↓dSl, ↓truD, ↓cLen, ↓cAbs, ↓cMax2, ↓cMin2, ↓cInt, ↓cTup, ↓cLst, ↓sv, ↓List.getD_cons_zero, ↓List.getD_cons_succ, ↓List.set_cons_zero, ↓List.set_cons_succ, ↓vxSeq, ↓vxIf, ↓vxRaise, ↓vxRet, ↓vxAsg, ↓vxCall, ↓vReason, ↓vEqS]
      refine ⟨a, b, rfl, hb.1, by omega, ⟨shaped_fr, shaped_fr⟩, ?_⟩
      rw [eqv_fr]
      simp only [decide_true, Bool.not_true, ↓rd_law_k2_5, ↓vSeq, ↓vPar, ↓vPar3, ↓vSet, ↓vSetO, ↓vAsg, ↓vAug, ↓vAppend, ↓vExt, ↓vUnp, ↓vFz, ↓vRet, ↓vRetN, ↓vDrop, ↓vIfS, ↓vNext, ↓vBrk, ↓vCnt, ↓vNever, ↓vForS, ↓vC, ↓vVar, ↓vTup, ↓vOf, ↓vBin, ↓vBinL, ↓vBinR, ↓vUn, ↓vCall, ↓vCallO, ↓vCallIO, ↓vCallSC, ↓vLookA, ↓vB, ↓vTru, ↓vTruO, ↓vAnd, ↓vOr, ↓vNot, ↓vAndV, ↓vOrV, ↓vNotV, ↓vIf, ↓vChain, ↓vNil, ↓vCons, ↓vSl, ↓vSlL, ↓vP0, ↓vP1, ↓vRevT, ↓vRevL, ↓vRevLL, ↓vBits, ↓vPop, ↓vLc, ↓vTurn, ↓vYes, ↓gN, ↓gT, ↓gsC, ↓gs0, ↓gSet, ↓wL, ↓wT, ↓wR1, ↓wR2, ↓d2, ↓d20, ↓dAdd, ↓dMul, ↓dEq, ↓dNe, ↓dIsN, ↓dNotN, ↓isN, ↓dNeg, ↓dIx, ↓dInI, ↓dSl, ↓truD, ↓cLen, ↓cAbs, ↓cMax2, ↓cMin2, ↓cInt, ↓cTup, ↓cLst, ↓sv, ↓List.getD_cons_zero, ↓List.getD_cons_succ, ↓List.set_cons_zero, ↓List.set_cons_succ, ↓vxSeq, ↓vxIf, ↓vxRaise, ↓vxRet, ↓vxAsg, ↓vxCall, ↓vReason, ↓vEqS]
      rw [List.length_map]
      have hrl : rows.length ≤ 1002 := by rw [hcl, List.length_cons]; omega
      refine ⟨by omega, ?_⟩
      rw [rngD_map]
      refine loop_dets _ rows _ _ _ _ _ _ _ _ _ _ _ _ _ _ _ _ _ _ _ _ _ _ (fun p hp => by have := r2 p hp; exact ⟨by omega, by omega⟩) (fun i p q hp hq => ?_) _ _ (fun k hk => ?_) fun y => ?_
      · have := hdt i p q hp hq
        rw [this]
        show (1 * 1 - 0 * 0) * _ = _
        omega
      · obtain ⟨i, hi, rfl⟩ := List.mem_map.mp hk
        have := List.mem_range.mp hi
        omega
      · simp only [↓rd_law_k2_6, ↓vSeq, ↓vPar, ↓vPar3, ↓vSet, ↓vSetO, ↓vAsg, ↓vAug, ↓vAppend, ↓vExt, ↓vUnp, ↓vFz, ↓vRet, ↓vRetN, ↓vDrop, ↓vIfS, ↓vNext, ↓vBrk, ↓vCnt, ↓vNever, ↓vForS, ↓vC, ↓vVar, ↓vTup, ↓vOf, ↓vBin, ↓vBinL, ↓vBinR, ↓vUn, ↓vCall, ↓vCallO, ↓vCallIO, ↓vCallSC, ↓vLookA, ↓vB, ↓vTru, ↓vTruO, ↓vAnd, ↓vOr, ↓vNot, ↓vAndV, ↓vOrV, ↓vNotV, ↓vIf, ↓vChain, ↓vNil, ↓vCons, ↓vSl, ↓vSlL, ↓vP0, ↓vP1, ↓vRevT, ↓vRevL, ↓vRevLL, ↓vBits, ↓vPop, ↓vLc, ↓vTurn, ↓vYes, ↓gN, ↓gT, ↓gsC, ↓gs0, ↓gSet, ↓wL, ↓wT, ↓wR1, ↓wR2, ↓d2, ↓d20, ↓dAdd, ↓dMul, ↓dEq, ↓dNe, ↓dIsN, ↓dNotN, ↓isN, ↓dNeg, ↓dIx, ↓dInI, ↓dSl, ↓truD, ↓cLen, ↓cAbs, ↓cMax2, ↓cMin2, ↓cInt, ↓cTup, ↓cLst, ↓sv, ↓List.getD_cons_zero, ↓List.getD_cons_succ, ↓List.set_cons_zero, ↓List.set_cons_succ, ↓vxSeq, ↓vxIf, ↓vxRaise, ↓vxRet, ↓vxAsg, ↓vxCall, ↓vReason, ↓vEqS]
        refine ⟨gs, n + 1 + 1, 40, g3, rfl, rfl, by omega, by omega, e3, ?_⟩
        have hm : 1 ≤ 1 + g3 % 40 ∧ 1 + g3 % 40 ≤ 40 := by omega
        simp only [↓vSeq, ↓vPar, ↓vPar3, ↓vSet, ↓vSetO, ↓vAsg, ↓vAug, ↓vAppend, ↓vExt, ↓vUnp, ↓vFz, ↓vRet, ↓vRetN, ↓vDrop, ↓vIfS, ↓vNext, ↓vBrk, ↓vCnt, ↓vNever, ↓vForS, ↓vC, ↓vVar, ↓vTup, ↓vOf, ↓vBin, ↓vBinL, ↓vBinR, ↓vUn, ↓vCall, ↓vCallO, ↓vCallIO, ↓vCallSC, ↓vLookA, ↓vB, ↓vTru, ↓vTruO, ↓vAnd, ↓vOr, ↓vNot, ↓vAndV, ↓vOrV, ↓vNotV, ↓vIf, ↓vChain, ↓vNil, ↓vCons, ↓vSl, ↓vSlL, ↓vP0, ↓vP1, ↓vRevT, ↓vRevL, ↓vRevLL, ↓vBits, ↓vPop, ↓vLc, ↓vTurn, ↓vYes, ↓gN, ↓gT, ↓gsC, ↓gs0, ↓gSet, ↓wL, ↓wT, ↓wR1, ↓wR2, ↓d2, ↓d20, ↓dAdd, ↓dMul, ↓dEq, ↓dNe, ↓dIsN, ↓dNotN, ↓isN, ↓dNeg, ↓dIx, ↓dInI, ↓dSl, ↓truD, ↓cLen, ↓cAbs, ↓cMax2, ↓cMin2, ↓cInt, ↓cTup, ↓cLst, ↓sv, ↓List.getD_cons_zero, ↓List.getD_cons_succ, ↓List.set_cons_zero, ↓List.set_cons_succ, ↓vxSeq, ↓vxIf, ↓vxRaise, ↓vxRet, ↓vxAsg, ↓vxCall, ↓vReason, ↓vEqS]
        generalize 1 + g3 % 40 = m at hm ⊢
        simp only [↓rd_law_k2_7, ↓rd_law_k2_8, ↓vSeq, ↓vPar, ↓vPar3, ↓vSet, ↓vSetO, ↓vAsg, ↓vAug, ↓vAppend, ↓vExt, ↓vUnp, ↓vFz, ↓vRet, ↓vRetN, ↓vDrop, ↓vIfS, ↓vNext, ↓vBrk, ↓vCnt, ↓vNever, ↓vForS, ↓vC, ↓vVar, ↓vTup, ↓vOf, ↓vBin, ↓vBinL, ↓vBinR, ↓vUn, ↓vCall, ↓vCallO, ↓vCallIO, ↓vCallSC, ↓vLookA, ↓vB, ↓vTru, ↓vTruO, ↓vAnd, ↓vOr, ↓vNot, ↓vAndV, ↓vOrV, ↓vNotV, ↓vIf, ↓vChain, ↓vNil, ↓vCons, ↓vSl, ↓vSlL, ↓vP0, ↓vP1, ↓vRevT, ↓vRevL, ↓vRevLL, ↓vBits, ↓vPop, ↓vLc, ↓vTurn, ↓vYes, ↓gN, ↓gT, ↓gsC, ↓gs0, ↓gSet, ↓wL, ↓wT, ↓wR1, ↓wR2, ↓d2, ↓d20, ↓dAdd, ↓dMul, ↓dEq, ↓dNe, ↓dIsN, ↓dNotN, ↓isN, ↓dNeg, ↓dIx, ↓dInI, ↓dSl, ↓truD, ↓cLen, ↓cAbs, ↓cMax2, ↓cMin2, ↓cInt, ↓cTup, ↓cLst, ↓sv, ↓List.getD_cons_zero, ↓List.getD_cons_succ, ↓List.set_cons_zero, ↓List.set_cons_succ, ↓vxSeq, ↓vxIf, ↓vxRaise, ↓vxRet, ↓vxAsg, ↓vxCall, ↓vReason, ↓vEqS]
        refine ⟨by omega, ?_⟩
        rw [rngD_map]
        refine loop_f4 _ a b m _ _ _ _ _ _ _ _ _ _ _ _ _ _ _ _ _ hb.1 (by omega) (by omega) (by omega) _ none _ _ _ _ (fun u hu => by cases hu) (fun q hq => ?_) fun o' y10 y11 y12 y13 k1 k2 k3 => ?_
        · obtain ⟨i, hi, rfl⟩ := List.mem_map.mp hq
          have := List.mem_range.mp hi
          omega
        · obtain ⟨u, hu, hbest⟩ := best_of hb.1 hm.1 k1 fun q hq1 hq2 => k3 q (List.mem_map.mpr ⟨(q - 1).toNat, List.mem_range.mpr (by omega), by omega⟩)
          subst hu
          simp only [↓rd_law_k2_9, ↓bestS, ↓vSeq, ↓vPar, ↓vPar3, ↓vSet, ↓vSetO, ↓vAsg, ↓vAug, ↓vAppend, ↓vExt, ↓vUnp, ↓vFz, ↓vRet, ↓vRetN, ↓vDrop, ↓vIfS, ↓vNext, ↓vBrk, ↓vCnt, ↓vNever, ↓vForS, ↓vC, ↓vVar, ↓vTup, ↓vOf, ↓vBin, ↓vBinL, ↓vBinR, ↓vUn, ↓vCall, ↓vCallO, ↓vCallIO, ↓vCallSC, ↓vLookA, ↓vB, ↓vTru, ↓vTruO, ↓vAnd, ↓vOr, ↓vNot, ↓vAndV, ↓vOrV, ↓vNotV, ↓vIf, ↓vChain, ↓vNil, ↓vCons, ↓vSl, ↓vSlL, ↓vP0, ↓vP1, ↓vRevT, ↓vRevL, ↓vRevLL, ↓vBits, ↓vPop, ↓vLc, ↓vTurn, ↓vYes, ↓gN, ↓gT, ↓gsC, ↓gs0, ↓gSet, ↓wL, ↓wT, ↓wR1, ↓wR2, ↓d2, ↓d20, ↓dAdd, ↓dMul, ↓dEq, ↓dNe, ↓dIsN, ↓dNotN, ↓isN, ↓dNeg, ↓dIx, ↓dInI, ↓dSl, ↓truD, ↓cLen, ↓cAbs, ↓cMax2, ↓cMin2, ↓cInt, ↓cTup, ↓cLst, ↓sv, ↓List.getD_cons_zero, ↓List.getD_cons_succ, ↓List.set_cons_zero, ↓List.set_cons_succ, ↓vxSeq, ↓vxIf, ↓vxRaise, ↓vxRet, ↓vxAsg, ↓vxCall, ↓vReason, ↓vEqS, atI_1]
          refine ⟨a, b, m, rfl, by omega, by omega, hb.1, by omega, hm.1, by omega, fun u' hu' => ?_⟩
          rw [best_uniq hu' hbest]
          refine ⟨⟨shaped_fr, shaped_fr⟩, ?_⟩
          rw [eqv_fr]
          simp only [decide_true, Bool.not_true]
          rw [← hW]
          refine ih (n + 1 + 1 + 1) _ _ _ _ _ _ _ _ _ _ _ _ (by omega) (by omega) fun y2 y3 y4 y5 y6 y7 y8 y9 y10 y11 y12 y13 => ?_
          have := hZ y2 y3 y4 y5 y6 y7 y8 y9 y10 y11 y12 y13
          have e : n + 1 + 1 + 1 + 3 * (xs.length : Int) = n + 3 * ((xs.length + 1 : Nat) : Int) := by omega
          rw [e]
          exact this
    simp only [↓vSeq, ↓vPar, ↓vPar3, ↓vSet, ↓vSetO, ↓vAsg, ↓vAug, ↓vAppend, ↓vExt, ↓vUnp, ↓vFz, ↓vRet, ↓vRetN, ↓vDrop, ↓vIfS, ↓vNext, ↓vBrk, ↓vCnt, ↓vNever, ↓vForS, ↓vC, ↓vVar, ↓vTup, ↓vOf, ↓vBin, ↓vBinL, ↓vBinR, ↓vUn, ↓vCall, ↓vCallO, ↓vCallIO, ↓vCallSC, ↓vLookA, ↓vB, ↓vTru, ↓vTruO, ↓vAnd, ↓vOr, ↓vNot, ↓vAndV, ↓vOrV, ↓vNotV, ↓vIf, ↓vChain, ↓vNil, ↓vCons, ↓vSl, ↓vSlL, ↓vP0, ↓vP1, ↓vRevT, ↓vRevL, ↓vRevLL, ↓vBits, ↓vPop, ↓vLc, ↓vTurn, ↓vYes, ↓gN, ↓gT, ↓gsC, ↓gs0, ↓gSet, ↓wL, ↓wT, ↓wR1, ↓wR2, ↓d2, ↓d20, ↓dAdd, ↓dMul, ↓dEq, ↓dNe, ↓dIsN, ↓dNotN, ↓isN, ↓dNeg, ↓dIx, ↓dInI, ↓dSl, ↓truD, ↓cLen, ↓cAbs, ↓cMax2, ↓cMin2, ↓cInt, ↓cTup, ↓cLst, ↓sv, ↓List.getD_cons_zero, ↓List.getD_cons_succ, ↓List.set_cons_zero, ↓List.set_cons_succ, ↓vxSeq, ↓vxIf, ↓vxRaise, ↓vxRet, ↓vxAsg, ↓vxCall, ↓vReason, ↓vEqS]
    by_cases hts0 : ts = []
    · have hl1 : ¬ (1 : Int) < ((PyData.int (a / b) :: ts.map PyData.int).length : Int) := by rw [hts0]; simp
      simp only [hl1, decide_false]
      exact next
    · have hl1 : (1 : Int) < ((PyData.int (a / b) :: ts.map PyData.int).length : Int) := by
        rw [List.length_cons, List.length_map]
        have := List.length_pos_iff.mpr hts0
        omega
      have hne : (PyData.int (a / b) :: ts.map PyData.int) ≠ [] := List.cons_ne_nil _ _
      have hne2 : ts.map PyData.int ≠ [] := by simpa using hts0
      have el : (PyData.int (a / b) :: ts.map PyData.int).getLast hne = .int (ts.getLast hts0) := by rw [List.getLast_cons hne2, List.getLast_map]
      have hl2 : ¬ ts.getLast hts0 < 2 := by have := hlast hts0; omega
      simp only [hl1, decide_true]
      rw [atI_neg1 hne, el]
      simp only [↓vSeq, ↓vPar, ↓vPar3, ↓vSet, ↓vSetO, ↓vAsg, ↓vAug, ↓vAppend, ↓vExt, ↓vUnp, ↓vFz, ↓vRet, ↓vRetN, ↓vDrop, ↓vIfS, ↓vNext, ↓vBrk, ↓vCnt, ↓vNever, ↓vForS, ↓vC, ↓vVar, ↓vTup, ↓vOf, ↓vBin, ↓vBinL, ↓vBinR, ↓vUn, ↓vCall, ↓vCallO, ↓vCallIO, ↓vCallSC, ↓vLookA, ↓vB, ↓vTru, ↓vTruO, ↓vAnd, ↓vOr, ↓vNot, ↓vAndV, ↓vOrV, ↓vNotV, ↓vIf, ↓vChain, ↓vNil, ↓vCons, ↓vSl, ↓vSlL, ↓vP0, ↓vP1, ↓vRevT, ↓vRevL, ↓vRevLL, ↓vBits, ↓vPop, ↓vLc, ↓vTurn, ↓vYes, ↓gN, ↓gT, ↓gsC, ↓gs0, ↓gSet, ↓wL, ↓wT, ↓wR1, ↓wR2, ↓d2, ↓d20, ↓dAdd, ↓dMul, ↓dEq, ↓dNe, ↓dIsN, ↓dNotN, ↓isN, ↓dNeg, ↓dIx, ↓dInI, ↓dSl, ↓truD, ↓cLen, ↓cAbs, ↓cMax2, ↓cMin2, ↓cInt, ↓cTup, ↓cLst, ↓sv, ↓List.getD_cons_zero, ↓List.getD_cons_succ, ↓List.set_cons_zero, ↓List.set_cons_succ, ↓vxSeq, ↓vxIf, ↓vxRaise, ↓vxRet, ↓vxAsg, ↓vxCall, ↓vReason, ↓vEqS, hl2, decide_false]
      exact next
end VL

set_option Elab.async false
set_option linter.all false
set_option maxRecDepth 1000000
set_option maxHeartbeats 4000000
namespace VL
open PySem PySem.Spec PyProof.Rows L2 HD
/-! ### the roots of 2 to 301, looked at one by one -/
def wOf (n : Nat) : Nat := ((List.range 18).filter fun r => Nat.ble ((r + 1) * (r + 1)) n).length
/-- no square beside n k k: k from k on, f of them, m the root of n k k -/
def scan (n w : Nat) : Nat → Nat → Nat → Bool
  | 0, _, _ => true
  | f + 1, k, m => Nat.blt (m * m + 1) (n * k * k) && (Nat.blt (n * k * k + 1) ((m + 1) * (m + 1)) && scan n w f (k + 1) (if Nat.ble ((m + w + 1) * (m + w + 1)) (n * (k + 1) * (k + 1)) then m + w + 1 else m + w))
def smallN (l : List Int) : Bool := l.all fun t => decide (0 < t) && decide (t < 1000)
def nearP (n w : Int) (p : Int × Int) : Bool := decide (((p.1 * p.1 - n * p.2 * p.2).natAbs : Int) ≤ 2 * w + 1) && (decide (0 ≤ p.1) && (decide (p.1 < 2 ^ 200) && (decide (0 ≤ p.2) && decide (p.2 < 2 ^ 200))))
def chkL (n w : Int) (l : List Int) : Bool :=
  decide (l ≠ []) && (Nat.ble l.length 100 && (smallN l && (decide (l.getLast? = some (2 * w)) && (decide (l.dropLast.reverse = l.dropLast) &&
  (decide (w :: cyc l (2 * l.length + 2) = (w :: (l ++ (l ++ (l ++ l)))).take (2 * l.length + 3)) && ((conv (1, 0) (0, 1) (w :: cyc l (2 * l.length + 2))).all (nearP n w) &&
  match (conv (1, 0) (0, 1) (w :: cyc l (l.length - 1))).getLast? with
    | some p => nearP n w p && (decide (1 ≤ p.1) && (decide (1 ≤ p.2) && (decide (p.1 * p.1 - n * p.2 * p.2 = if l.length % 2 = 0 then 1 else -1) && scan n.toNat w.toNat (min p.2 300 - 1).toNat 1 w.toNat)))
    | none => false))))))
def chkN (n : Nat) : Bool := Nat.ble (wOf n * wOf n) n && (Nat.blt n ((wOf n + 1) * (wOf n + 1)) && (Nat.beq (wOf n * wOf n) n || match rtGo n (wOf n) 100 0 1 (wOf n) with
  | some l => chkL n (wOf n) l
  | none => false))
theorem chk_all : ((List.range 300).all fun i => chkN (i + 2)) = true := by decide +kernel
theorem scan_ok (n w : Nat) : ∀ (f k m : Nat), scan n w f k m = true → ∀ j : Nat, k ≤ j → j < k + f → ∀ r : Nat, r * r ≠ n * j * j + 1 ∧ r * r + 1 ≠ n * j * j := by
  intro f
  induction f with
  | zero => intro k m _ j h1 h2; omega
  | succ f ih =>
    intro k m h j h1 h2 r
    unfold scan at h
    simp only [Bool.and_eq_true, Nat.blt_eq] at h
    obtain ⟨a1, a2, a3⟩ := h
    by_cases z : j = k
    · subst z
      generalize n * j * j = v at *
      have key : ¬ (m * m < r * r ∧ r * r < (m + 1) * (m + 1)) := fun ⟨q1, q2⟩ => by
        have h3 := Nat.mul_self_lt_mul_self_iff.mp q1
        have h4 := Nat.mul_self_lt_mul_self_iff.mp q2
        omega
      omega
    · exact ih _ _ a3 j (by omega) (by omega) r
theorem chk_at (n : Int) (h1 : 2 ≤ n) (h2 : n ≤ 301) : ∃ w : Int, isRoot n w ∧ (w * w = n ∨ (w * w ≠ n ∧ ∃ l, rtOk n w l ∧ chkL n w l = true)) := by
  obtain ⟨i, hi⟩ : ∃ i : Nat, n = ((i + 2 : Nat) : Int) := ⟨(n - 2).toNat, by omega⟩
  have h := List.all_eq_true.mp chk_all i (List.mem_range.mpr (by omega))
  unfold chkN at h
  simp only [Bool.and_eq_true, Bool.or_eq_true, Nat.ble_eq, Nat.blt_eq, Nat.beq_eq] at h
  obtain ⟨a1, a2, a3⟩ := h
  generalize wOf (i + 2) = w at *
  have hr : isRoot n w := by
    refine ⟨by omega, ?_, ?_⟩
    · rw [hi]; exact_mod_cast a1
    · rw [hi]; exact_mod_cast a2
  refine ⟨w, hr, ?_⟩
  by_cases hw : (w : Int) * w = n
  · exact .inl hw
  · refine .inr ⟨hw, ?_⟩
    rcases a3 with a3 | a3
    · exact absurd (by rw [hi]; exact_mod_cast a3) hw
    · split at a3
      · rename_i l hl
        have hl' : rtGo n w 100 0 1 w = some l := by rw [hi]; exact hl
        have a3' : chkL n w l = true := by rw [hi]; exact a3
        refine ⟨l, ⟨h1, h2, hr, hw, hl', ?_⟩, a3'⟩
        unfold chkL at a3'
        simp only [Bool.and_eq_true, decide_eq_true_eq, Nat.ble_eq] at a3'
        obtain ⟨c1, c2, c3, _⟩ := a3'
        refine ⟨fun t ht => ?_, c1, c2⟩
        have := List.all_eq_true.mp c3 t ht
        simp only [Bool.and_eq_true, decide_eq_true_eq] at this
        exact this
      · cases a3
end VL

set_option Elab.async false
set_option linter.all false
set_option maxRecDepth 1000000
set_option maxHeartbeats 4000000
namespace VL
open PySem PySem.Spec PyProof.Rows L2 HD
theorem bits_le0 {n : Int} {k : Nat} (h : 0 ≤ n) (hk : n < 2 ^ k) : Builtin.Int.intBits n ≤ k := by
  by_cases z : n = 0
  · subst z; exact Nat.zero_le _
  · exact bits_le (by omega) hk
theorem mul_big {i j : Int} (h1 : 0 ≤ i) (h2 : i < 2 ^ 300) (h3 : 0 ≤ j) (h4 : j < 2 ^ 300) : mulOk i j := .inr (.inr (by
  show (Builtin.Int.intBits i : Int) + (Builtin.Int.intBits j : Int) ≤ 134217728
  have := bits_le0 h1 h2
  have := bits_le0 h3 h4
  omega))
theorem loop_f6 (Z : VEnds) (n w : Int) (hn : 0 ≤ n ∧ n ≤ 301) (hw : 0 ≤ w ∧ w < 18) (x0 x1 x2 x3 x4 x5 x6 x7 x8 x9 x10 x11 x12 x13 x16 x17 x18 x21 x22 x23 : SV) : ∀ (rows : List (Int × Int)) (x19 x20 : SV), (∀ p ∈ rows, nearP n w p = true) →
    (∀ y19 y20, Z.nx [x0, x1, x2, x3, x4, x5, x6, x7, x8, x9, x10, x11, x12, x13, .fr (.int n), .fr (.int w), x16, x17, x18, y19, y20, x21, x22, x23]) →
    vFor rd_law_f6g rd_law_f6b Z (rows.map frD) [x0, x1, x2, x3, x4, x5, x6, x7, x8, x9, x10, x11, x12, x13, .fr (.int n), .fr (.int w), x16, x17, x18, x19, x20, x21, x22, x23] := by
  intro rows
  induction rows with
  | nil => intro x19 x20 h hZ; exact hZ _ _
  | cons p rows ih =>
    intro x19 x20 h hZ
    have hp := h p (List.mem_cons_self ..)
    unfold nearP at hp
    simp only [Bool.and_eq_true, decide_eq_true_eq] at hp
    obtain ⟨p1, p2, p3, p4, p5⟩ := hp
    rw [List.map_cons, vFor_cons]
    generalize hW : vFor rd_law_f6g rd_law_f6b Z (rows.map frD) = W
    have hny : 0 ≤ n * p.2 := Int.mul_nonneg hn.1 p4
    have hny2 : n * p.2 < 2 ^ 300 := by
      have k1 : n * p.2 ≤ 301 * p.2 := Int.mul_le_mul_of_nonneg_right hn.2 p4
      have k2 : (301 : Int) * 2 ^ 200 < 2 ^ 300 := by decide +kernel
      omega
    have b1 : p.1 < 2 ^ 300 := by have k2 : (2 : Int) ^ 200 < 2 ^ 300 := by decide +kernel
                                  omega
    have b2 : p.2 < 2 ^ 300 := by have k2 : (2 : Int) ^ 200 < 2 ^ 300 := by decide +kernel
                                  omega
    simp only [↓rd_law_f6g, ↓rd_law_f6b, ↓vSeq, ↓vPar, ↓vPar3, ↓vSet, ↓vSetO, ↓vAsg, ↓vAug, ↓vAppend, ↓vExt, ↓vUnp, ↓vFz, ↓vRet, ↓vRetN, ↓vDrop, ↓vIfS, ↓vNext, ↓vBrk, ↓vCnt, ↓vNever, ↓vForS, ↓vC, ↓vVar, ↓vTup, ↓vOf, ↓vBin, ↓vBinL, ↓vBinR, ↓vUn, ↓vCall, ↓vCallO, ↓vCallIO, ↓vCallSC, ↓vLookA, ↓vB, ↓vTru, ↓vTruO, ↓vAnd, ↓vOr, ↓vNot, ↓vAndV, ↓vOrV, ↓vNotV, ↓vIf, ↓vChain, ↓vNil, ↓vCons, ↓vSl, ↓vSlL, ↓vP0, ↓vP1, ↓vRevT, ↓vRevL, ↓vRevLL, ↓vBits, ↓vPop, ↓vLc, ↓vTurn, ↓vYes, ↓gN, ↓gT, ↓gsC, ↓gs0, ↓gSet, ↓wL, ↓wT, ↓wR1, ↓wR2, ↓d2, ↓d20, ↓dAdd, ↓dMul, ↓dEq, ↓dNe, ↓dIsN, ↓dNotN, ↓isN, ↓dNeg, ↓dIx, ↓dInI, ↓dSl, ↓truD, ↓cLen, ↓cAbs, ↓cMax2, ↓cMin2, ↓cInt, ↓cTup, ↓cLst, ↓sv, ↓List.getD_cons_zero, ↓List.getD_cons_succ, ↓List.set_cons_zero, ↓List.set_cons_succ, ↓vxSeq, ↓vxIf, ↓vxRaise, ↓vxRet, ↓vxAsg, ↓vxCall, ↓vReason, ↓vEqS, abs_if]
    have hlt : ¬ 2 * w + 1 < ((p.1 * p.1 - n * p.2 * p.2).natAbs : Int) := by omega
    refine ⟨rfl, mul_big p2 b1 p2 b1, mul_smallL (by omega), mul_big hny hny2 p4 b2, mul_smallL (by omega), ?_⟩
    simp only [hlt, decide_false]
    rw [← hW]
    exact ih _ _ (fun q hq => h q (List.mem_cons_of_mem _ hq)) hZ
theorem no_sq {n w y : Int} (hn : 2 ≤ n ∧ n ≤ 301) (h : scan n.toNat w.toNat (min y 300 - 1).toNat 1 w.toNat = true) {k : Int} (h1 : 1 ≤ k) (h2 : k < min y 300) {r : Int} (h0 : 0 ≤ r) : r * r ≠ n * k * k + 1 ∧ r * r ≠ n * k * k - 1 := by
  have := scan_ok _ _ _ _ _ h k.toNat (by omega) (by omega) r.toNat
  have e1 : ((r.toNat * r.toNat : Nat) : Int) = r * r := by
    rw [Int.natCast_mul, Int.toNat_of_nonneg h0]
  have e2 : ((n.toNat * k.toNat * k.toNat : Nat) : Int) = n * k * k := by
    rw [Int.natCast_mul, Int.natCast_mul, Int.toNat_of_nonneg (by omega), Int.toNat_of_nonneg (by omega)]
  omega
theorem loop_f7 (Z : VEnds) (n w y : Int) (hn : 2 ≤ n ∧ n ≤ 301) (hs : scan n.toNat w.toNat (min y 300 - 1).toNat 1 w.toNat = true) (x0 x1 x2 x3 x4 x5 x6 x8 x9 x10 x11 x12 x15 x16 x17 x18 x19 x20 x21 x23 : SV) : ∀ (xs : List Int) (x7 x13 x22 : SV), (∀ k ∈ xs, 1 ≤ k ∧ k < min y 300) →
    (∀ y7 y13 y22, Z.nx [x0, x1, x2, x3, x4, x5, x6, y7, x8, x9, x10, x11, x12, y13, .fr (.int n), x15, x16, x17, x18, x19, x20, x21, y22, x23]) →
    vFor rd_law_f7g rd_law_f7b Z (xs.map .int) [x0, x1, x2, x3, x4, x5, x6, x7, x8, x9, x10, x11, x12, x13, .fr (.int n), x15, x16, x17, x18, x19, x20, x21, x22, x23] := by
  intro xs
  induction xs with
  | nil => intro x7 x13 x22 h hZ; exact hZ _ _ _
  | cons k xs ih =>
    intro x7 x13 x22 h hZ
    obtain ⟨k1, k2⟩ := h k (List.mem_cons_self ..)
    rw [List.map_cons, vFor_cons]
    generalize hW : vFor rd_law_f7g rd_law_f7b Z (xs.map .int) = W
    have k3 : k < 300 := by omega
    have n1 : 0 ≤ n * k := Int.mul_nonneg (by omega) (by omega)
    have n2 : n * k ≤ 301 * 300 := by
      have a1 : n * k ≤ 301 * k := Int.mul_le_mul_of_nonneg_right hn.2 (by omega)
      omega
    have m1 : 1 ≤ n * k * k := by
      have a1 : 1 ≤ n * k := by
        have : 1 * 1 ≤ n * k := Int.mul_le_mul (by omega) k1 (by omega) (by omega)
        omega
      have : 1 * 1 ≤ n * k * k := Int.mul_le_mul a1 k1 (by omega) (by omega)
      omega
    have m2 : n * k * k ≤ 27090000 := by
      have a1 : n * k * k ≤ 301 * 300 * k := Int.mul_le_mul_of_nonneg_right n2 (by omega)
      omega
    have sq := fun (r : Int) (h0 : 0 ≤ r) => no_sq hn hs k1 k2 h0
    have rb : ∀ {v r : Int}, isRoot v r → v ≤ 27090001 → 0 ≤ r ∧ r < 10000 := fun {v r} hr hv => by
      obtain ⟨q0, q1, q2⟩ := hr
      refine ⟨q0, Int.not_le.mp fun z => ?_⟩
      have := Int.mul_le_mul z z (by omega) q0
      omega
    simp only [↓rd_law_f7g, ↓rd_law_f7b, ↓vSeq, ↓vPar, ↓vPar3, ↓vSet, ↓vSetO, ↓vAsg, ↓vAug, ↓vAppend, ↓vExt, ↓vUnp, ↓vFz, ↓vRet, ↓vRetN, ↓vDrop, ↓vIfS, ↓vNext, ↓vBrk, ↓vCnt, ↓vNever, ↓vForS, ↓vC, ↓vVar, ↓vTup, ↓vOf, ↓vBin, ↓vBinL, ↓vBinR, ↓vUn, ↓vCall, ↓vCallO, ↓vCallIO, ↓vCallSC, ↓vLookA, ↓vB, ↓vTru, ↓vTruO, ↓vAnd, ↓vOr, ↓vNot, ↓vAndV, ↓vOrV, ↓vNotV, ↓vIf, ↓vChain, ↓vNil, ↓vCons, ↓vSl, ↓vSlL, ↓vP0, ↓vP1, ↓vRevT, ↓vRevL, ↓vRevLL, ↓vBits, ↓vPop, ↓vLc, ↓vTurn, ↓vYes, ↓gN, ↓gT, ↓gsC, ↓gs0, ↓gSet, ↓wL, ↓wT, ↓wR1, ↓wR2, ↓d2, ↓d20, ↓dAdd, ↓dMul, ↓dEq, ↓dNe, ↓dIsN, ↓dNotN, ↓isN, ↓dNeg, ↓dIx, ↓dInI, ↓dSl, ↓truD, ↓cLen, ↓cAbs, ↓cMax2, ↓cMin2, ↓cInt, ↓cTup, ↓cLst, ↓sv, ↓List.getD_cons_zero, ↓List.getD_cons_succ, ↓List.set_cons_zero, ↓List.set_cons_succ, ↓vxSeq, ↓vxIf, ↓vxRaise, ↓vxRet, ↓vxAsg, ↓vxCall, ↓vReason, ↓vEqS]
    rw [vFor_cons]
    simp only [↓rd_law_f8g, ↓rd_law_f8b, ↓rd_law_k3_1, ↓vSeq, ↓vPar, ↓vPar3, ↓vSet, ↓vSetO, ↓vAsg, ↓vAug, ↓vAppend, ↓vExt, ↓vUnp, ↓vFz, ↓vRet, ↓vRetN, ↓vDrop, ↓vIfS, ↓vNext, ↓vBrk, ↓vCnt, ↓vNever, ↓vForS, ↓vC, ↓vVar, ↓vTup, ↓vOf, ↓vBin, ↓vBinL, ↓vBinR, ↓vUn, ↓vCall, ↓vCallO, ↓vCallIO, ↓vCallSC, ↓vLookA, ↓vB, ↓vTru, ↓vTruO, ↓vAnd, ↓vOr, ↓vNot, ↓vAndV, ↓vOrV, ↓vNotV, ↓vIf, ↓vChain, ↓vNil, ↓vCons, ↓vSl, ↓vSlL, ↓vP0, ↓vP1, ↓vRevT, ↓vRevL, ↓vRevLL, ↓vBits, ↓vPop, ↓vLc, ↓vTurn, ↓vYes, ↓gN, ↓gT, ↓gsC, ↓gs0, ↓gSet, ↓wL, ↓wT, ↓wR1, ↓wR2, ↓d2, ↓d20, ↓dAdd, ↓dMul, ↓dEq, ↓dNe, ↓dIsN, ↓dNotN, ↓isN, ↓dNeg, ↓dIx, ↓dInI, ↓dSl, ↓truD, ↓cLen, ↓cAbs, ↓cMax2, ↓cMin2, ↓cInt, ↓cTup, ↓cLst, ↓sv, ↓List.getD_cons_zero, ↓List.getD_cons_succ, ↓List.set_cons_zero, ↓List.set_cons_succ, ↓vxSeq, ↓vxIf, ↓vxRaise, ↓vxRet, ↓vxAsg, ↓vxCall, ↓vReason, ↓vEqS]
    refine ⟨mul_small (by omega), mul_small (by omega), n * k * k + 1, rfl, by omega, by omega, fun r hr => ⟨n * k * k + 1, rfl, by omega, by omega, fun r' hr' => ?_⟩⟩
    have e := root_uniq hr' hr
    subst e
    have hne : ¬ r' * r' = n * k * k + 1 := (sq r' hr.1).1
    have hrb := rb hr (by omega)
    simp only [↓vSeq, ↓vPar, ↓vPar3, ↓vSet, ↓vSetO, ↓vAsg, ↓vAug, ↓vAppend, ↓vExt, ↓vUnp, ↓vFz, ↓vRet, ↓vRetN, ↓vDrop, ↓vIfS, ↓vNext, ↓vBrk, ↓vCnt, ↓vNever, ↓vForS, ↓vC, ↓vVar, ↓vTup, ↓vOf, ↓vBin, ↓vBinL, ↓vBinR, ↓vUn, ↓vCall, ↓vCallO, ↓vCallIO, ↓vCallSC, ↓vLookA, ↓vB, ↓vTru, ↓vTruO, ↓vAnd, ↓vOr, ↓vNot, ↓vAndV, ↓vOrV, ↓vNotV, ↓vIf, ↓vChain, ↓vNil, ↓vCons, ↓vSl, ↓vSlL, ↓vP0, ↓vP1, ↓vRevT, ↓vRevL, ↓vRevLL, ↓vBits, ↓vPop, ↓vLc, ↓vTurn, ↓vYes, ↓gN, ↓gT, ↓gsC, ↓gs0, ↓gSet, ↓wL, ↓wT, ↓wR1, ↓wR2, ↓d2, ↓d20, ↓dAdd, ↓dMul, ↓dEq, ↓dNe, ↓dIsN, ↓dNotN, ↓isN, ↓dNeg, ↓dIx, ↓dInI, ↓dSl, ↓truD, ↓cLen, ↓cAbs, ↓cMax2, ↓cMin2, ↓cInt, ↓cTup, ↓cLst, ↓sv, ↓List.getD_cons_zero, ↓List.getD_cons_succ, ↓List.set_cons_zero, ↓List.set_cons_succ, ↓vxSeq, ↓vxIf, ↓vxRaise, ↓vxRet, ↓vxAsg, ↓vxCall, ↓vReason, ↓vEqS, hne, decide_false]
    refine ⟨mul_small (by omega), ?_⟩
    rw [vFor_cons]
    simp only [↓rd_law_f8g, ↓rd_law_f8b, ↓rd_law_k3_1, ↓vSeq, ↓vPar, ↓vPar3, ↓vSet, ↓vSetO, ↓vAsg, ↓vAug, ↓vAppend, ↓vExt, ↓vUnp, ↓vFz, ↓vRet, ↓vRetN, ↓vDrop, ↓vIfS, ↓vNext, ↓vBrk, ↓vCnt, ↓vNever, ↓vForS, ↓vC, ↓vVar, ↓vTup, ↓vOf, ↓vBin, ↓vBinL, ↓vBinR, ↓vUn, ↓vCall, ↓vCallO, ↓vCallIO, ↓vCallSC, ↓vLookA, ↓vB, ↓vTru, ↓vTruO, ↓vAnd, ↓vOr, ↓vNot, ↓vAndV, ↓vOrV, ↓vNotV, ↓vIf, ↓vChain, ↓vNil, ↓vCons, ↓vSl, ↓vSlL, ↓vP0, ↓vP1, ↓vRevT, ↓vRevL, ↓vRevLL, ↓vBits, ↓vPop, ↓vLc, ↓vTurn, ↓vYes, ↓gN, ↓gT, ↓gsC, ↓gs0, ↓gSet, ↓wL, ↓wT, ↓wR1, ↓wR2, ↓d2, ↓d20, ↓dAdd, ↓dMul, ↓dEq, ↓dNe, ↓dIsN, ↓dNotN, ↓isN, ↓dNeg, ↓dIx, ↓dInI, ↓dSl, ↓truD, ↓cLen, ↓cAbs, ↓cMax2, ↓cMin2, ↓cInt, ↓cTup, ↓cLst, ↓sv, ↓List.getD_cons_zero, ↓List.getD_cons_succ, ↓List.set_cons_zero, ↓List.set_cons_succ, ↓vxSeq, ↓vxIf, ↓vxRaise, ↓vxRet, ↓vxAsg, ↓vxCall, ↓vReason, ↓vEqS]
    refine ⟨mul_small (by omega), mul_small (by omega), n * k * k + -1, rfl, by omega, by omega, fun s hs2 => ⟨n * k * k + -1, rfl, by omega, by omega, fun s' hs' => ?_⟩⟩
    have e := root_uniq hs' hs2
    subst e
    have hne : ¬ s' * s' = n * k * k + -1 := fun z => (sq s' hs2.1).2 (by omega)
    have hsb := rb hs2 (by omega)
    simp only [↓vSeq, ↓vPar, ↓vPar3, ↓vSet, ↓vSetO, ↓vAsg, ↓vAug, ↓vAppend, ↓vExt, ↓vUnp, ↓vFz, ↓vRet, ↓vRetN, ↓vDrop, ↓vIfS, ↓vNext, ↓vBrk, ↓vCnt, ↓vNever, ↓vForS, ↓vC, ↓vVar, ↓vTup, ↓vOf, ↓vBin, ↓vBinL, ↓vBinR, ↓vUn, ↓vCall, ↓vCallO, ↓vCallIO, ↓vCallSC, ↓vLookA, ↓vB, ↓vTru, ↓vTruO, ↓vAnd, ↓vOr, ↓vNot, ↓vAndV, ↓vOrV, ↓vNotV, ↓vIf, ↓vChain, ↓vNil, ↓vCons, ↓vSl, ↓vSlL, ↓vP0, ↓vP1, ↓vRevT, ↓vRevL, ↓vRevLL, ↓vBits, ↓vPop, ↓vLc, ↓vTurn, ↓vYes, ↓gN, ↓gT, ↓gsC, ↓gs0, ↓gSet, ↓wL, ↓wT, ↓wR1, ↓wR2, ↓d2, ↓d20, ↓dAdd, ↓dMul, ↓dEq, ↓dNe, ↓dIsN, ↓dNotN, ↓isN, ↓dNeg, ↓dIx, ↓dInI, ↓dSl, ↓truD, ↓cLen, ↓cAbs, ↓cMax2, ↓cMin2, ↓cInt, ↓cTup, ↓cLst, ↓sv, ↓List.getD_cons_zero, ↓List.getD_cons_succ, ↓List.set_cons_zero, ↓List.set_cons_succ, ↓vxSeq, ↓vxIf, ↓vxRaise, ↓vxRet, ↓vxAsg, ↓vxCall, ↓vReason, ↓vEqS, hne, decide_false]
    refine ⟨mul_small (by omega), ?_⟩
    rw [vFor_nil, ← hW]
    exact ih _ _ _ (fun k' hk' => h k' (List.mem_cons_of_mem _ hk')) hZ
theorem conv_take : ∀ (ts : List Int) (one other : Int × Int) (m : Nat), conv one other (ts.take m) = (conv one other ts).take m := by
  intro ts
  induction ts with
  | nil => intro one other m; simp [conv]
  | cons t ts ih =>
    intro one other m
    cases m with
    | zero => simp [conv]
    | succ m => rw [List.take_succ_cons, conv, conv, List.take_succ_cons, ih]
theorem cyc_take {l : List Int} {j k : Nat} (h : j ≤ k) : cyc l j = (cyc l k).take j := by
  unfold cyc
  rw [← List.map_take, List.take_range, Nat.min_eq_left h]
theorem pl_rows (rows : List (Int × Int)) : plD (.tuple (rows.map frD)) = true := plAll_iff.mpr fun x hx => by
  obtain ⟨p, _, rfl⟩ := List.mem_map.mp hx
  rfl
theorem shaped_rows (rows : List (Int × Int)) : SeqAt.shaped (.tuple (rows.map frD)) = true := shaped_pl (pl_rows rows) (by
  have : PyData.depthAll (rows.map frD) ≤ 1 := depthAll_le.mpr fun x hx => by
    obtain ⟨p, _, rfl⟩ := List.mem_map.mp hx
    exact Nat.le_refl _
  show PyData.depthAll (rows.map frD) + 1 ≤ 64
  omega)
theorem shaped_ints (xs : List Int) : SeqAt.shaped (.tuple (xs.map .int)) = true := shaped_pl (plAll_ints xs) (by
  have := depth_ints xs
  show PyData.depthAll (xs.map PyData.int) + 1 ≤ 64
  omega)
end VL

set_option Elab.async false
set_option linter.all false
set_option maxRecDepth 1000000
set_option maxHeartbeats 4000000
namespace VL
open PySem PySem.Spec PyProof.Rows L2 HD
theorem eqv_intsT (xs : List Int) : PyData.eqv (.tuple (xs.map .int)) (.tuple (xs.map .int)) = true := eqv_same (d := .tuple (xs.map .int)) (e := .tuple (xs.map .int)) (plAll_ints xs) (plAll_ints xs) rfl
theorem eqv_rows (xs : List (Int × Int)) : PyData.eqv (.tuple (xs.map frD)) (.tuple (xs.map frD)) = true := eqv_same (pl_rows xs) (pl_rows xs) rfl
theorem hq_law (ns : List Int) : rd_law { nx := fun _ => False, rt := fun d _ => d = .bool true } (evS ["script", "box", "turn", "a", "b", "terms", "rows", "k", "most", "best", "below", "above", "key", "one", "n", "first", "period", "many", "whole", "x", "y", "sign", "value", "term"] ns []) := by
  show rd_law _ [.rw ns, .un, .un, .un, .un, .un, .un, .un, .un, .un, .un, .un, .un, .un, .un, .un, .un, .un, .un, .un, .un, .un, .un, .un]
  simp only [↓rd_law, ↓vSeq, ↓vPar, ↓vPar3, ↓vSet, ↓vSetO, ↓vAsg, ↓vAug, ↓vAppend, ↓vExt, ↓vUnp, ↓vFz, ↓vRet, ↓vRetN, ↓vDrop, ↓vIfS, ↓vNext, ↓vBrk, ↓vCnt, ↓vNever, ↓vForS, ↓vC, ↓vVar, ↓vTup, ↓vOf, ↓vBin, ↓vBinL, ↓vBinR, ↓vUn, ↓vCall, ↓vCallO, ↓vCallIO, ↓vCallSC, ↓vLookA, ↓vB, ↓vTru, ↓vTruO, ↓vAnd, ↓vOr, ↓vNot, ↓vAndV, ↓vOrV, ↓vNotV, ↓vIf, ↓vChain, ↓vNil, ↓vCons, ↓vSl, ↓vSlL, ↓vP0, ↓vP1, ↓vRevT, ↓vRevL, ↓vRevLL, ↓vBits, ↓vPop, ↓vLc, ↓vTurn, ↓vYes, ↓gN, ↓gT, ↓gsC, ↓gs0, ↓gSet, ↓wL, ↓wT, ↓wR1, ↓wR2, ↓d2, ↓d20, ↓dAdd, ↓dMul, ↓dEq, ↓dNe, ↓dIsN, ↓dNotN, ↓isN, ↓dNeg, ↓dIx, ↓dInI, ↓dSl, ↓truD, ↓cLen, ↓cAbs, ↓cMax2, ↓cMin2, ↓cInt, ↓cTup, ↓cLst, ↓sv, ↓List.getD_cons_zero, ↓List.getD_cons_succ, ↓List.set_cons_zero, ↓List.set_cons_succ, ↓vxSeq, ↓vxIf, ↓vxRaise, ↓vxRet, ↓vxAsg, ↓vxCall, ↓vReason, ↓vEqS]
  refine ⟨0, 63, rfl, by omega, by omega, by omega, fun gs hg hl => ?_⟩
  simp only [↓rd_law_k4_1, ↓vSeq, ↓vPar, ↓vPar3, ↓vSet, ↓vSetO, ↓vAsg, ↓vAug, ↓vAppend, ↓vExt, ↓vUnp, ↓vFz, ↓vRet, ↓vRetN, ↓vDrop, ↓vIfS, ↓vNext, ↓vBrk, ↓vCnt, ↓vNever, ↓vForS, ↓vC, ↓vVar, ↓vTup, ↓vOf, ↓vBin, ↓vBinL, ↓vBinR, ↓vUn, ↓vCall, ↓vCallO, ↓vCallIO, ↓vCallSC, ↓vLookA, ↓vB, ↓vTru, ↓vTruO, ↓vAnd, ↓vOr, ↓vNot, ↓vAndV, ↓vOrV, ↓vNotV, ↓vIf, ↓vChain, ↓vNil, ↓vCons, ↓vSl, ↓vSlL, ↓vP0, ↓vP1, ↓vRevT, ↓vRevL, ↓vRevLL, ↓vBits, ↓vPop, ↓vLc, ↓vTurn, ↓vYes, ↓gN, ↓gT, ↓gsC, ↓gs0, ↓gSet, ↓wL, ↓wT, ↓wR1, ↓wR2, ↓d2, ↓d20, ↓dAdd, ↓dMul, ↓dEq, ↓dNe, ↓dIsN, ↓dNotN, ↓isN, ↓dNeg, ↓dIx, ↓dInI, ↓dSl, ↓truD, ↓cLen, ↓cAbs, ↓cMax2, ↓cMin2, ↓cInt, ↓cTup, ↓cLst, ↓sv, ↓List.getD_cons_zero, ↓List.getD_cons_succ, ↓List.set_cons_zero, ↓List.set_cons_succ, ↓vxSeq, ↓vxIf, ↓vxRaise, ↓vxRet, ↓vxAsg, ↓vxCall, ↓vReason, ↓vEqS]
  refine ⟨by decide +kernel, ?_⟩
  rw [rngD_map]
  refine loop_turn _ ns gs hg _ _ _ _ _ _ _ _ _ _ 0 _ _ _ _ _ _ _ _ _ _ _ _ (by omega) (by simp; omega) fun y2 y3 y4 y5 y6 y7 y8 y9 y10 y11 y12 y13 => ?_
  have e12 : (0 : Int) + 3 * (((List.range (4 : Int).toNat).map fun i => (0 : Int) + (i : Nat)).length : Int) = 12 := by simp
  rw [e12]
  obtain ⟨g1, e1, b1, c1⟩ := get_dig hg (n := 12) (by omega) (by omega)
  obtain ⟨g2, e2, b2, c2⟩ := get_dig hg (n := 12 + 1) (by omega) (by omega)
  simp only [↓rd_law_k4_2, ↓vSeq, ↓vPar, ↓vPar3, ↓vSet, ↓vSetO, ↓vAsg, ↓vAug, ↓vAppend, ↓vExt, ↓vUnp, ↓vFz, ↓vRet, ↓vRetN, ↓vDrop, ↓vIfS, ↓vNext, ↓vBrk, ↓vCnt, ↓vNever, ↓vForS, ↓vC, ↓vVar, ↓vTup, ↓vOf, ↓vBin, ↓vBinL, ↓vBinR, ↓vUn, ↓vCall, ↓vCallO, ↓vCallIO, ↓vCallSC, ↓vLookA, ↓vB, ↓vTru, ↓vTruO, ↓vAnd, ↓vOr, ↓vNot, ↓vAndV, ↓vOrV, ↓vNotV, ↓vIf, ↓vChain, ↓vNil, ↓vCons, ↓vSl, ↓vSlL, ↓vP0, ↓vP1, ↓vRevT, ↓vRevL, ↓vRevLL, ↓vBits, ↓vPop, ↓vLc, ↓vTurn, ↓vYes, ↓gN, ↓gT, ↓gsC, ↓gs0, ↓gSet, ↓wL, ↓wT, ↓wR1, ↓wR2, ↓d2, ↓d20, ↓dAdd, ↓dMul, ↓dEq, ↓dNe, ↓dIsN, ↓dNotN, ↓isN, ↓dNeg, ↓dIx, ↓dInI, ↓dSl, ↓truD, ↓cLen, ↓cAbs, ↓cMax2, ↓cMin2, ↓cInt, ↓cTup, ↓cLst, ↓sv, ↓List.getD_cons_zero, ↓List.getD_cons_succ, ↓List.set_cons_zero, ↓List.set_cons_succ, ↓vxSeq, ↓vxIf, ↓vxRaise, ↓vxRet, ↓vxAsg, ↓vxCall, ↓vReason, ↓vEqS]
  refine ⟨gs, 12, 300, g1, rfl, rfl, by omega, by omega, e1, ?_⟩
  have hn : 2 ≤ 2 + g1 % 300 ∧ 2 + g1 % 300 ≤ 301 := by omega
  simp only [↓vSeq, ↓vPar, ↓vPar3, ↓vSet, ↓vSetO, ↓vAsg, ↓vAug, ↓vAppend, ↓vExt, ↓vUnp, ↓vFz, ↓vRet, ↓vRetN, ↓vDrop, ↓vIfS, ↓vNext, ↓vBrk, ↓vCnt, ↓vNever, ↓vForS, ↓vC, ↓vVar, ↓vTup, ↓vOf, ↓vBin, ↓vBinL, ↓vBinR, ↓vUn, ↓vCall, ↓vCallO, ↓vCallIO, ↓vCallSC, ↓vLookA, ↓vB, ↓vTru, ↓vTruO, ↓vAnd, ↓vOr, ↓vNot, ↓vAndV, ↓vOrV, ↓vNotV, ↓vIf, ↓vChain, ↓vNil, ↓vCons, ↓vSl, ↓vSlL, ↓vP0, ↓vP1, ↓vRevT, ↓vRevL, ↓vRevLL, ↓vBits, ↓vPop, ↓vLc, ↓vTurn, ↓vYes, ↓gN, ↓gT, ↓gsC, ↓gs0, ↓gSet, ↓wL, ↓wT, ↓wR1, ↓wR2, ↓d2, ↓d20, ↓dAdd, ↓dMul, ↓dEq, ↓dNe, ↓dIsN, ↓dNotN, ↓isN, ↓dNeg, ↓dIx, ↓dInI, ↓dSl, ↓truD, ↓cLen, ↓cAbs, ↓cMax2, ↓cMin2, ↓cInt, ↓cTup, ↓cLst, ↓sv, ↓List.getD_cons_zero, ↓List.getD_cons_succ, ↓List.set_cons_zero, ↓List.set_cons_succ, ↓vxSeq, ↓vxIf, ↓vxRaise, ↓vxRet, ↓vxAsg, ↓vxCall, ↓vReason, ↓vEqS]
  generalize 2 + g1 % 300 = n at hn ⊢
  obtain ⟨w, hr, hcase⟩ := chk_at n hn.1 hn.2
  have hws := root_small hr hn.2
  have hw0 := hr.1
  simp only [↓rd_law_k4_3, ↓vSeq, ↓vPar, ↓vPar3, ↓vSet, ↓vSetO, ↓vAsg, ↓vAug, ↓vAppend, ↓vExt, ↓vUnp, ↓vFz, ↓vRet, ↓vRetN, ↓vDrop, ↓vIfS, ↓vNext, ↓vBrk, ↓vCnt, ↓vNever, ↓vForS, ↓vC, ↓vVar, ↓vTup, ↓vOf, ↓vBin, ↓vBinL, ↓vBinR, ↓vUn, ↓vCall, ↓vCallO, ↓vCallIO, ↓vCallSC, ↓vLookA, ↓vB, ↓vTru, ↓vTruO, ↓vAnd, ↓vOr, ↓vNot, ↓vAndV, ↓vOrV, ↓vNotV, ↓vIf, ↓vChain, ↓vNil, ↓vCons, ↓vSl, ↓vSlL, ↓vP0, ↓vP1, ↓vRevT, ↓vRevL, ↓vRevLL, ↓vBits, ↓vPop, ↓vLc, ↓vTurn, ↓vYes, ↓gN, ↓gT, ↓gsC, ↓gs0, ↓gSet, ↓wL, ↓wT, ↓wR1, ↓wR2, ↓d2, ↓d20, ↓dAdd, ↓dMul, ↓dEq, ↓dNe, ↓dIsN, ↓dNotN, ↓isN, ↓dNeg, ↓dIx, ↓dInI, ↓dSl, ↓truD, ↓cLen, ↓cAbs, ↓cMax2, ↓cMin2, ↓cInt, ↓cTup, ↓cLst, ↓sv, ↓List.getD_cons_zero, ↓List.getD_cons_succ, ↓List.set_cons_zero, ↓List.set_cons_succ, ↓vxSeq, ↓vxIf, ↓vxRaise, ↓vxRet, ↓vxAsg, ↓vxCall, ↓vReason, ↓vEqS]
  refine ⟨n, rfl, by omega, by omega, fun r hr1 => ⟨n, rfl, by omega, by omega, fun r2 hr2 => ?_⟩⟩
  have q1 := root_uniq hr1 hr
  have q2 := root_uniq hr2 hr
  subst q1
  subst q2
  simp only [↓vSeq, ↓vPar, ↓vPar3, ↓vSet, ↓vSetO, ↓vAsg, ↓vAug, ↓vAppend, ↓vExt, ↓vUnp, ↓vFz, ↓vRet, ↓vRetN, ↓vDrop, ↓vIfS, ↓vNext, ↓vBrk, ↓vCnt, ↓vNever, ↓vForS, ↓vC, ↓vVar, ↓vTup, ↓vOf, ↓vBin, ↓vBinL, ↓vBinR, ↓vUn, ↓vCall, ↓vCallO, ↓vCallIO, ↓vCallSC, ↓vLookA, ↓vB, ↓vTru, ↓vTruO, ↓vAnd, ↓vOr, ↓vNot, ↓vAndV, ↓vOrV, ↓vNotV, ↓vIf, ↓vChain, ↓vNil, ↓vCons, ↓vSl, ↓vSlL, ↓vP0, ↓vP1, ↓vRevT, ↓vRevL, ↓vRevLL, ↓vBits, ↓vPop, ↓vLc, ↓vTurn, ↓vYes, ↓gN, ↓gT, ↓gsC, ↓gs0, ↓gSet, ↓wL, ↓wT, ↓wR1, ↓wR2, ↓d2, ↓d20, ↓dAdd, ↓dMul, ↓dEq, ↓dNe, ↓dIsN, ↓dNotN, ↓isN, ↓dNeg, ↓dIx, ↓dInI, ↓dSl, ↓truD, ↓cLen, ↓cAbs, ↓cMax2, ↓cMin2, ↓cInt, ↓cTup, ↓cLst, ↓sv, ↓List.getD_cons_zero, ↓List.getD_cons_succ, ↓List.set_cons_zero, ↓List.set_cons_succ, ↓vxSeq, ↓vxIf, ↓vxRaise, ↓vxRet, ↓vxAsg, ↓vxCall, ↓vReason, ↓vEqS]
  refine ⟨mul_small (by omega), ?_⟩
  rcases hcase with hsq | ⟨hns, l, hk, hchk⟩
  · simp only [hsq, decide_true, ↓vSeq, ↓vPar, ↓vPar3, ↓vSet, ↓vSetO, ↓vAsg, ↓vAug, ↓vAppend, ↓vExt, ↓vUnp, ↓vFz, ↓vRet, ↓vRetN, ↓vDrop, ↓vIfS, ↓vNext, ↓vBrk, ↓vCnt, ↓vNever, ↓vForS, ↓vC, ↓vVar, ↓vTup, ↓vOf, ↓vBin, ↓vBinL, ↓vBinR, ↓vUn, ↓vCall, ↓vCallO, ↓vCallIO, ↓vCallSC, ↓vLookA, ↓vB, ↓vTru, ↓vTruO, ↓vAnd, ↓vOr, ↓vNot, ↓vAndV, ↓vOrV, ↓vNotV, ↓vIf, ↓vChain, ↓vNil, ↓vCons, ↓vSl, ↓vSlL, ↓vP0, ↓vP1, ↓vRevT, ↓vRevL, ↓vRevLL, ↓vBits, ↓vPop, ↓vLc, ↓vTurn, ↓vYes, ↓gN, ↓gT, ↓gsC, ↓gs0, ↓gSet, ↓wL, ↓wT, ↓wR1, ↓wR2, ↓d2, ↓d20, ↓dAdd, ↓dMul, ↓dEq, ↓dNe, ↓dIsN, ↓dNotN, ↓isN, ↓dNeg, ↓dIx, ↓dInI, ↓dSl, ↓truD, ↓cLen, ↓cAbs, ↓cMax2, ↓cMin2, ↓cInt, ↓cTup, ↓cLst, ↓sv, ↓List.getD_cons_zero, ↓List.getD_cons_succ, ↓List.set_cons_zero, ↓List.set_cons_succ, ↓vxSeq, ↓vxIf, ↓vxRaise, ↓vxRet, ↓vxAsg, ↓vxCall, ↓vReason, ↓vEqS]
    exact ⟨n, _, rfl, hn.1, hn.2, hr, hsq, ⟨by decide +kernel, by decide +kernel⟩, by simp [PyData.eqv]⟩
  · simp only [hns, decide_false, ↓rd_law_k4_4, ↓vSeq, ↓vPar, ↓vPar3, ↓vSet, ↓vSetO, ↓vAsg, ↓vAug, ↓vAppend, ↓vExt, ↓vUnp, ↓vFz, ↓vRet, ↓vRetN, ↓vDrop, ↓vIfS, ↓vNext, ↓vBrk, ↓vCnt, ↓vNever, ↓vForS, ↓vC, ↓vVar, ↓vTup, ↓vOf, ↓vBin, ↓vBinL, ↓vBinR, ↓vUn, ↓vCall, ↓vCallO, ↓vCallIO, ↓vCallSC, ↓vLookA, ↓vB, ↓vTru, ↓vTruO, ↓vAnd, ↓vOr, ↓vNot, ↓vAndV, ↓vOrV, ↓vNotV, ↓vIf, ↓vChain, ↓vNil, ↓vCons, ↓vSl, ↓vSlL, ↓vP0, ↓vP1, ↓vRevT, ↓vRevL, ↓vRevLL, ↓vBits, ↓vPop, ↓vLc, ↓vTurn, ↓vYes, ↓gN, ↓gT, ↓gsC, ↓gs0, ↓gSet, ↓wL, ↓wT, ↓wR1, ↓wR2, ↓d2, ↓d20, ↓dAdd, ↓dMul, ↓dEq, ↓dNe, ↓dIsN, ↓dNotN, ↓isN, ↓dNeg, ↓dIx, ↓dInI, ↓dSl, ↓truD, ↓cLen, ↓cAbs, ↓cMax2, ↓cMin2, ↓cInt, ↓cTup, ↓cLst, ↓sv, ↓List.getD_cons_zero, ↓List.getD_cons_succ, ↓List.set_cons_zero, ↓List.set_cons_succ, ↓vxSeq, ↓vxIf, ↓vxRaise, ↓vxRet, ↓vxAsg, ↓vxCall, ↓vReason, ↓vEqS]
    have hk' := hk
    obtain ⟨_, _, _, _, hgo, hlt, hl0, hl100⟩ := hk'
    have hlp := List.length_pos_iff.mpr hl0
    refine ⟨n, _, l, rfl, hk, ?_⟩
    unfold chkL at hchk
    simp only [Bool.and_eq_true, decide_eq_true_eq, Nat.ble_eq] at hchk
    obtain ⟨_, _, _, d4', d5', d6', d7', d8'⟩ := hchk
    simp only [↓tI, ↓vSeq, ↓vPar, ↓vPar3, ↓vSet, ↓vSetO, ↓vAsg, ↓vAug, ↓vAppend, ↓vExt, ↓vUnp, ↓vFz, ↓vRet, ↓vRetN, ↓vDrop, ↓vIfS, ↓vNext, ↓vBrk, ↓vCnt, ↓vNever, ↓vForS, ↓vC, ↓vVar, ↓vTup, ↓vOf, ↓vBin, ↓vBinL, ↓vBinR, ↓vUn, ↓vCall, ↓vCallO, ↓vCallIO, ↓vCallSC, ↓vLookA, ↓vB, ↓vTru, ↓vTruO, ↓vAnd, ↓vOr, ↓vNot, ↓vAndV, ↓vOrV, ↓vNotV, ↓vIf, ↓vChain, ↓vNil, ↓vCons, ↓vSl, ↓vSlL, ↓vP0, ↓vP1, ↓vRevT, ↓vRevL, ↓vRevLL, ↓vBits, ↓vPop, ↓vLc, ↓vTurn, ↓vYes, ↓gN, ↓gT, ↓gsC, ↓gs0, ↓gSet, ↓wL, ↓wT, ↓wR1, ↓wR2, ↓d2, ↓d20, ↓dAdd, ↓dMul, ↓dEq, ↓dNe, ↓dIsN, ↓dNotN, ↓isN, ↓dNeg, ↓dIx, ↓dInI, ↓dSl, ↓truD, ↓cLen, ↓cAbs, ↓cMax2, ↓cMin2, ↓cInt, ↓cTup, ↓cLst, ↓sv, ↓List.getD_cons_zero, ↓List.getD_cons_succ, ↓List.set_cons_zero, ↓List.set_cons_succ, ↓vxSeq, ↓vxIf, ↓vxRaise, ↓vxRet, ↓vxAsg, ↓vxCall, ↓vReason, ↓vEqS]
    refine ⟨rfl, ?_⟩
    simp only [↓rd_law_k4_5, ↓vSeq, ↓vPar, ↓vPar3, ↓vSet, ↓vSetO, ↓vAsg, ↓vAug, ↓vAppend, ↓vExt, ↓vUnp, ↓vFz, ↓vRet, ↓vRetN, ↓vDrop, ↓vIfS, ↓vNext, ↓vBrk, ↓vCnt, ↓vNever, ↓vForS, ↓vC, ↓vVar, ↓vTup, ↓vOf, ↓vBin, ↓vBinL, ↓vBinR, ↓vUn, ↓vCall, ↓vCallO, ↓vCallIO, ↓vCallSC, ↓vLookA, ↓vB, ↓vTru, ↓vTruO, ↓vAnd, ↓vOr, ↓vNot, ↓vAndV, ↓vOrV, ↓vNotV, ↓vIf, ↓vChain, ↓vNil, ↓vCons, ↓vSl, ↓vSlL, ↓vP0, ↓vP1, ↓vRevT, ↓vRevL, ↓vRevLL, ↓vBits, ↓vPop, ↓vLc, ↓vTurn, ↓vYes, ↓gN, ↓gT, ↓gsC, ↓gs0, ↓gSet, ↓wL, ↓wT, ↓wR1, ↓wR2, ↓d2, ↓d20, ↓dAdd, ↓dMul, ↓dEq, ↓dNe, ↓dIsN, ↓dNotN, ↓isN, ↓dNeg, ↓dIx, ↓dInI, ↓dSl, ↓truD, ↓cLen, ↓cAbs, ↓cMax2, ↓cMin2, ↓cInt, ↓cTup, ↓cLst, ↓sv, ↓List.getD_cons_zero, ↓List.getD_cons_succ, ↓List.set_cons_zero, ↓List.set_cons_succ, ↓vxSeq, ↓vxIf, ↓vxRaise, ↓vxRet, ↓vxAsg, ↓vxCall, ↓vReason, ↓vEqS]
    refine ⟨n, rfl, by omega, by omega, fun r hr1 => ?_⟩
    obtain rfl := root_uniq hr1 hr
    have hne : l.map PyData.int ≠ [] := by simpa using hl0
    have elast : (l.map PyData.int).getLast hne = .int (2 * r) := by
      rw [List.getLast_map]
      rw [List.getLast?_eq_some_getLast hl0] at d4'
      rw [Option.some.inj d4']
    simp only [↓vSeq, ↓vPar, ↓vPar3, ↓vSet, ↓vSetO, ↓vAsg, ↓vAug, ↓vAppend, ↓vExt, ↓vUnp, ↓vFz, ↓vRet, ↓vRetN, ↓vDrop, ↓vIfS, ↓vNext, ↓vBrk, ↓vCnt, ↓vNever, ↓vForS, ↓vC, ↓vVar, ↓vTup, ↓vOf, ↓vBin, ↓vBinL, ↓vBinR, ↓vUn, ↓vCall, ↓vCallO, ↓vCallIO, ↓vCallSC, ↓vLookA, ↓vB, ↓vTru, ↓vTruO, ↓vAnd, ↓vOr, ↓vNot, ↓vAndV, ↓vOrV, ↓vNotV, ↓vIf, ↓vChain, ↓vNil, ↓vCons, ↓vSl, ↓vSlL, ↓vP0, ↓vP1, ↓vRevT, ↓vRevL, ↓vRevLL, ↓vBits, ↓vPop, ↓vLc, ↓vTurn, ↓vYes, ↓gN, ↓gT, ↓gsC, ↓gs0, ↓gSet, ↓wL, ↓wT, ↓wR1, ↓wR2, ↓d2, ↓d20, ↓dAdd, ↓dMul, ↓dEq, ↓dNe, ↓dIsN, ↓dNotN, ↓isN, ↓dNeg, ↓dIx, ↓dInI, ↓dSl, ↓truD, ↓cLen, ↓cAbs, ↓cMax2, ↓cMin2, ↓cInt, ↓cTup, ↓cLst, ↓sv, ↓List.getD_cons_zero, ↓List.getD_cons_succ, ↓List.set_cons_zero, ↓List.set_cons_succ, ↓vxSeq, ↓vxIf, ↓vxRaise, ↓vxRet, ↓vxAsg, ↓vxCall, ↓vReason, ↓vEqS, decide_true, Bool.not_true]
    rw [atI_neg1 hne, elast]
    simp only [↓vSeq, ↓vPar, ↓vPar3, ↓vSet, ↓vSetO, ↓vAsg, ↓vAug, ↓vAppend, ↓vExt, ↓vUnp, ↓vFz, ↓vRet, ↓vRetN, ↓vDrop, ↓vIfS, ↓vNext, ↓vBrk, ↓vCnt, ↓vNever, ↓vForS, ↓vC, ↓vVar, ↓vTup, ↓vOf, ↓vBin, ↓vBinL, ↓vBinR, ↓vUn, ↓vCall, ↓vCallO, ↓vCallIO, ↓vCallSC, ↓vLookA, ↓vB, ↓vTru, ↓vTruO, ↓vAnd, ↓vOr, ↓vNot, ↓vAndV, ↓vOrV, ↓vNotV, ↓vIf, ↓vChain, ↓vNil, ↓vCons, ↓vSl, ↓vSlL, ↓vP0, ↓vP1, ↓vRevT, ↓vRevL, ↓vRevLL, ↓vBits, ↓vPop, ↓vLc, ↓vTurn, ↓vYes, ↓gN, ↓gT, ↓gsC, ↓gs0, ↓gSet, ↓wL, ↓wT, ↓wR1, ↓wR2, ↓d2, ↓d20, ↓dAdd, ↓dMul, ↓dEq, ↓dNe, ↓dIsN, ↓dNotN, ↓isN, ↓dNeg, ↓dIx, ↓dInI, ↓dSl, ↓truD, ↓cLen, ↓cAbs, ↓cMax2, ↓cMin2, ↓cInt, ↓cTup, ↓cLst, ↓sv, ↓List.getD_cons_zero, ↓List.getD_cons_succ, ↓List.set_cons_zero, ↓List.set_cons_succ, ↓vxSeq, ↓vxIf, ↓vxRaise, ↓vxRet, ↓vxAsg, ↓vxCall, ↓vReason, ↓vEqS, decide_true, Bool.not_true]
    refine ⟨mul_smallL (by omega), ?_⟩
    rw [cut_init, ← List.map_dropLast, ← List.map_reverse, d5']
    refine ⟨⟨shaped_ints _, shaped_ints _⟩, ?_⟩
    rw [eqv_intsT]
    simp only [Bool.not_true, ↓rd_law_k4_6, ↓vSeq, ↓vPar, ↓vPar3, ↓vSet, ↓vSetO, ↓vAsg, ↓vAug, ↓vAppend, ↓vExt, ↓vUnp, ↓vFz, ↓vRet, ↓vRetN, ↓vDrop, ↓vIfS, ↓vNext, ↓vBrk, ↓vCnt, ↓vNever, ↓vForS, ↓vC, ↓vVar, ↓vTup, ↓vOf, ↓vBin, ↓vBinL, ↓vBinR, ↓vUn, ↓vCall, ↓vCallO, ↓vCallIO, ↓vCallSC, ↓vLookA, ↓vB, ↓vTru, ↓vTruO, ↓vAnd, ↓vOr, ↓vNot, ↓vAndV, ↓vOrV, ↓vNotV, ↓vIf, ↓vChain, ↓vNil, ↓vCons, ↓vSl, ↓vSlL, ↓vP0, ↓vP1, ↓vRevT, ↓vRevL, ↓vRevLL, ↓vBits, ↓vPop, ↓vLc, ↓vTurn, ↓vYes, ↓gN, ↓gT, ↓gsC, ↓gs0, ↓gSet, ↓wL, ↓wT, ↓wR1, ↓wR2, ↓d2, ↓d20, ↓dAdd, ↓dMul, ↓dEq, ↓dNe, ↓dIsN, ↓dNotN, ↓isN, ↓dNeg, ↓dIx, ↓dInI, ↓dSl, ↓truD, ↓cLen, ↓cAbs, ↓cMax2, ↓cMin2, ↓cInt, ↓cTup, ↓cLst, ↓sv, ↓List.getD_cons_zero, ↓List.getD_cons_succ, ↓List.set_cons_zero, ↓List.set_cons_succ, ↓vxSeq, ↓vxIf, ↓vxRaise, ↓vxRet, ↓vxAsg, ↓vxCall, ↓vReason, ↓vEqS]
    rw [List.length_map]
    refine ⟨mul_smallL (by omega), gs, 12 + 1, 2 * (l.length : Int) + 3, g2, rfl, rfl, by omega, by omega, e2, ?_⟩
    have hm : 1 ≤ 1 + g2 % (2 * (l.length : Int) + 3) ∧ 1 + g2 % (2 * (l.length : Int) + 3) ≤ 2 * l.length + 3 := by
      have := emod_lt' (a := g2) (b := 2 * (l.length : Int) + 3) (by omega)
      omega
    simp only [↓vSeq, ↓vPar, ↓vPar3, ↓vSet, ↓vSetO, ↓vAsg, ↓vAug, ↓vAppend, ↓vExt, ↓vUnp, ↓vFz, ↓vRet, ↓vRetN, ↓vDrop, ↓vIfS, ↓vNext, ↓vBrk, ↓vCnt, ↓vNever, ↓vForS, ↓vC, ↓vVar, ↓vTup, ↓vOf, ↓vBin, ↓vBinL, ↓vBinR, ↓vUn, ↓vCall, ↓vCallO, ↓vCallIO, ↓vCallSC, ↓vLookA, ↓vB, ↓vTru, ↓vTruO, ↓vAnd, ↓vOr, ↓vNot, ↓vAndV, ↓vOrV, ↓vNotV, ↓vIf, ↓vChain, ↓vNil, ↓vCons, ↓vSl, ↓vSlL, ↓vP0, ↓vP1, ↓vRevT, ↓vRevL, ↓vRevLL, ↓vBits, ↓vPop, ↓vLc, ↓vTurn, ↓vYes, ↓gN, ↓gT, ↓gsC, ↓gs0, ↓gSet, ↓wL, ↓wT, ↓wR1, ↓wR2, ↓d2, ↓d20, ↓dAdd, ↓dMul, ↓dEq, ↓dNe, ↓dIsN, ↓dNotN, ↓isN, ↓dNeg, ↓dIx, ↓dInI, ↓dSl, ↓truD, ↓cLen, ↓cAbs, ↓cMax2, ↓cMin2, ↓cInt, ↓cTup, ↓cLst, ↓sv, ↓List.getD_cons_zero, ↓List.getD_cons_succ, ↓List.set_cons_zero, ↓List.set_cons_succ, ↓vxSeq, ↓vxIf, ↓vxRaise, ↓vxRet, ↓vxAsg, ↓vxCall, ↓vReason, ↓vEqS]
    generalize 1 + g2 % (2 * (l.length : Int) + 3) = many at hm ⊢
    simp only [↓rd_law_k4_7, ↓vSeq, ↓vPar, ↓vPar3, ↓vSet, ↓vSetO, ↓vAsg, ↓vAug, ↓vAppend, ↓vExt, ↓vUnp, ↓vFz, ↓vRet, ↓vRetN, ↓vDrop, ↓vIfS, ↓vNext, ↓vBrk, ↓vCnt, ↓vNever, ↓vForS, ↓vC, ↓vVar, ↓vTup, ↓vOf, ↓vBin, ↓vBinL, ↓vBinR, ↓vUn, ↓vCall, ↓vCallO, ↓vCallIO, ↓vCallSC, ↓vLookA, ↓vB, ↓vTru, ↓vTruO, ↓vAnd, ↓vOr, ↓vNot, ↓vAndV, ↓vOrV, ↓vNotV, ↓vIf, ↓vChain, ↓vNil, ↓vCons, ↓vSl, ↓vSlL, ↓vP0, ↓vP1, ↓vRevT, ↓vRevL, ↓vRevLL, ↓vBits, ↓vPop, ↓vLc, ↓vTurn, ↓vYes, ↓gN, ↓gT, ↓gsC, ↓gs0, ↓gSet, ↓wL, ↓wT, ↓wR1, ↓wR2, ↓d2, ↓d20, ↓dAdd, ↓dMul, ↓dEq, ↓dNe, ↓dIsN, ↓dNotN, ↓isN, ↓dNeg, ↓dIx, ↓dInI, ↓dSl, ↓truD, ↓cLen, ↓cAbs, ↓cMax2, ↓cMin2, ↓cInt, ↓cTup, ↓cLst, ↓sv, ↓List.getD_cons_zero, ↓List.getD_cons_succ, ↓List.set_cons_zero, ↓List.set_cons_succ, ↓vxSeq, ↓vxIf, ↓vxRaise, ↓vxRet, ↓vxAsg, ↓vxCall, ↓vReason, ↓vEqS]
    refine ⟨n, many, r, l, rfl, hk, hm.1, by omega, ?_⟩
    -- the rows, as the whole gives them
    have ecyc : (r :: (l ++ (l ++ (l ++ l)))).take many.toNat = r :: cyc l (many.toNat - 1) := by
      have h1 : (r :: cyc l (2 * l.length + 2)).take many.toNat = ((r :: (l ++ (l ++ (l ++ l)))).take (2 * l.length + 3)).take many.toNat := by rw [d6']
      rw [List.take_take, Nat.min_eq_left (by omega)] at h1
      rw [← h1]
      obtain ⟨j, hj⟩ : ∃ j, many.toNat = j + 1 := ⟨many.toNat - 1, by omega⟩
      rw [hj, List.take_succ_cons, Nat.add_sub_cancel, ← cyc_take (by omega)]
    have enear : ∀ p ∈ conv (1, 0) (0, 1) (r :: cyc l (many.toNat - 1)), nearP n r p = true := fun p hp => by
      obtain ⟨j, hj⟩ : ∃ j, many.toNat = j + 1 := ⟨many.toNat - 1, by omega⟩
      have h1 : r :: cyc l (many.toNat - 1) = (r :: cyc l (2 * l.length + 2)).take many.toNat := by
        rw [hj, List.take_succ_cons, Nat.add_sub_cancel, ← cyc_take (by omega)]
      rw [h1, conv_take] at hp
      exact List.all_eq_true.mp d7' p (List.mem_of_mem_take hp)
    have erl : (conv (1, 0) (0, 1) (r :: cyc l (many.toNat - 1))).length = many.toNat := by rw [conv_len, List.length_cons, cyc_len]; omega
    have hsm : ∀ t ∈ r :: cyc l (many.toNat - 1), small t := fun t ht => by
      rcases List.mem_cons.mp ht with z | z
      · rw [z]; exact ⟨by omega, by omega⟩
      · have := hlt t (cyc_mem hl0 z)
        exact ⟨by omega, by omega⟩
    simp only [↓rd_law_k4_8, ↓vSeq, ↓vPar, ↓vPar3, ↓vSet, ↓vSetO, ↓vAsg, ↓vAug, ↓vAppend, ↓vExt, ↓vUnp, ↓vFz, ↓vRet, ↓vRetN, ↓vDrop, ↓vIfS, ↓vNext, ↓vBrk, ↓vCnt, ↓vNever, ↓vForS, ↓vC, ↓vVar, ↓vTup, ↓vOf, ↓vBin, ↓vBinL, ↓vBinR, ↓vUn, ↓vCall, ↓vCallO, ↓vCallIO, ↓vCallSC, ↓vLookA, ↓vB, ↓vTru, ↓vTruO, ↓vAnd, ↓vOr, ↓vNot, ↓vAndV, ↓vOrV, ↓vNotV, ↓vIf, ↓vChain, ↓vNil, ↓vCons, ↓vSl, ↓vSlL, ↓vP0, ↓vP1, ↓vRevT, ↓vRevL, ↓vRevLL, ↓vBits, ↓vPop, ↓vLc, ↓vTurn, ↓vYes, ↓gN, ↓gT, ↓gsC, ↓gs0, ↓gSet, ↓wL, ↓wT, ↓wR1, ↓wR2, ↓d2, ↓d20, ↓dAdd, ↓dMul, ↓dEq, ↓dNe, ↓dIsN, ↓dNotN, ↓isN, ↓dNeg, ↓dIx, ↓dInI, ↓dSl, ↓truD, ↓cLen, ↓cAbs, ↓cMax2, ↓cMin2, ↓cInt, ↓cTup, ↓cLst, ↓sv, ↓List.getD_cons_zero, ↓List.getD_cons_succ, ↓List.set_cons_zero, ↓List.set_cons_succ, ↓vxSeq, ↓vxIf, ↓vxRaise, ↓vxRet, ↓vxAsg, ↓vxCall, ↓vReason, ↓vEqS]
    refine ⟨⟨hne, by omega, by omega, by rw [List.length_map]; omega⟩, ?_⟩
    have efl : (List.replicate (4 : Int).toNat (l.map PyData.int)).flatten = (l ++ (l ++ (l ++ l))).map .int := by
      show (List.replicate 4 (l.map PyData.int)).flatten = _
      simp [List.replicate_succ]
    rw [efl]
    refine ⟨by simp [sizeLine_eq]; omega, ?_⟩
    have ew : [PyData.int r] ++ (l ++ (l ++ (l ++ l))).map .int = (r :: (l ++ (l ++ (l ++ l)))).map .int := by simp
    rw [ew]
    simp only [↓rd_law_k4_9, ↓vSeq, ↓vPar, ↓vPar3, ↓vSet, ↓vSetO, ↓vAsg, ↓vAug, ↓vAppend, ↓vExt, ↓vUnp, ↓vFz, ↓vRet, ↓vRetN, ↓vDrop, ↓vIfS, ↓vNext, ↓vBrk, ↓vCnt, ↓vNever, ↓vForS, ↓vC, ↓vVar, ↓vTup, ↓vOf, ↓vBin, ↓vBinL, ↓vBinR, ↓vUn, ↓vCall, ↓vCallO, ↓vCallIO, ↓vCallSC, ↓vLookA, ↓vB, ↓vTru, ↓vTruO, ↓vAnd, ↓vOr, ↓vNot, ↓vAndV, ↓vOrV, ↓vNotV, ↓vIf, ↓vChain, ↓vNil, ↓vCons, ↓vSl, ↓vSlL, ↓vP0, ↓vP1, ↓vRevT, ↓vRevL, ↓vRevLL, ↓vBits, ↓vPop, ↓vLc, ↓vTurn, ↓vYes, ↓gN, ↓gT, ↓gsC, ↓gs0, ↓gSet, ↓wL, ↓wT, ↓wR1, ↓wR2, ↓d2, ↓d20, ↓dAdd, ↓dMul, ↓dEq, ↓dNe, ↓dIsN, ↓dNotN, ↓isN, ↓dNeg, ↓dIx, ↓dInI, ↓dSl, ↓truD, ↓cLen, ↓cAbs, ↓cMax2, ↓cMin2, ↓cInt, ↓cTup, ↓cLst, ↓sv, ↓List.getD_cons_zero, ↓List.getD_cons_succ, ↓List.set_cons_zero, ↓List.set_cons_succ, ↓vxSeq, ↓vxIf, ↓vxRaise, ↓vxRet, ↓vxAsg, ↓vxCall, ↓vReason, ↓vEqS]
    have el1 : (((conv (1, 0) (0, 1) (r :: cyc l (many.toNat - 1))).map frD).length : Int) = many := by rw [List.length_map, erl]; omega
    have el2 : many ≤ (((r :: (l ++ (l ++ (l ++ l)))).map PyData.int).length : Int) := by simp; omega
    simp only [el1, el2, decide_true, Bool.not_true, ↓vSeq, ↓vPar, ↓vPar3, ↓vSet, ↓vSetO, ↓vAsg, ↓vAug, ↓vAppend, ↓vExt, ↓vUnp, ↓vFz, ↓vRet, ↓vRetN, ↓vDrop, ↓vIfS, ↓vNext, ↓vBrk, ↓vCnt, ↓vNever, ↓vForS, ↓vC, ↓vVar, ↓vTup, ↓vOf, ↓vBin, ↓vBinL, ↓vBinR, ↓vUn, ↓vCall, ↓vCallO, ↓vCallIO, ↓vCallSC, ↓vLookA, ↓vB, ↓vTru, ↓vTruO, ↓vAnd, ↓vOr, ↓vNot, ↓vAndV, ↓vOrV, ↓vNotV, ↓vIf, ↓vChain, ↓vNil, ↓vCons, ↓vSl, ↓vSlL, ↓vP0, ↓vP1, ↓vRevT, ↓vRevL, ↓vRevLL, ↓vBits, ↓vPop, ↓vLc, ↓vTurn, ↓vYes, ↓gN, ↓gT, ↓gsC, ↓gs0, ↓gSet, ↓wL, ↓wT, ↓wR1, ↓wR2, ↓d2, ↓d20, ↓dAdd, ↓dMul, ↓dEq, ↓dNe, ↓dIsN, ↓dNotN, ↓isN, ↓dNeg, ↓dIx, ↓dInI, ↓dSl, ↓truD, ↓cLen, ↓cAbs, ↓cMax2, ↓cMin2, ↓cInt, ↓cTup, ↓cLst, ↓sv, ↓List.getD_cons_zero, ↓List.getD_cons_succ, ↓List.set_cons_zero, ↓List.set_cons_succ, ↓vxSeq, ↓vxIf, ↓vxRaise, ↓vxRet, ↓vxAsg, ↓vxCall, ↓vReason, ↓vEqS]
    rw [cut_take (by omega), ← List.map_take, ecyc]
    refine ⟨_, rfl, hsm, by rw [List.length_cons, cyc_len]; omega, ⟨shaped_rows _, shaped_rows _⟩, ?_⟩
    rw [eqv_rows]
    simp only [Bool.not_true, ↓rd_law_k4_10, ↓vSeq, ↓vPar, ↓vPar3, ↓vSet, ↓vSetO, ↓vAsg, ↓vAug, ↓vAppend, ↓vExt, ↓vUnp, ↓vFz, ↓vRet, ↓vRetN, ↓vDrop, ↓vIfS, ↓vNext, ↓vBrk, ↓vCnt, ↓vNever, ↓vForS, ↓vC, ↓vVar, ↓vTup, ↓vOf, ↓vBin, ↓vBinL, ↓vBinR, ↓vUn, ↓vCall, ↓vCallO, ↓vCallIO, ↓vCallSC, ↓vLookA, ↓vB, ↓vTru, ↓vTruO, ↓vAnd, ↓vOr, ↓vNot, ↓vAndV, ↓vOrV, ↓vNotV, ↓vIf, ↓vChain, ↓vNil, ↓vCons, ↓vSl, ↓vSlL, ↓vP0, ↓vP1, ↓vRevT, ↓vRevL, ↓vRevLL, ↓vBits, ↓vPop, ↓vLc, ↓vTurn, ↓vYes, ↓gN, ↓gT, ↓gsC, ↓gs0, ↓gSet, ↓wL, ↓wT, ↓wR1, ↓wR2, ↓d2, ↓d20, ↓dAdd, ↓dMul, ↓dEq, ↓dNe, ↓dIsN, ↓dNotN, ↓isN, ↓dNeg, ↓dIx, ↓dInI, ↓dSl, ↓truD, ↓cLen, ↓cAbs, ↓cMax2, ↓cMin2, ↓cInt, ↓cTup, ↓cLst, ↓sv, ↓List.getD_cons_zero, ↓List.getD_cons_succ, ↓List.set_cons_zero, ↓List.set_cons_succ, ↓vxSeq, ↓vxIf, ↓vxRaise, ↓vxRet, ↓vxAsg, ↓vxCall, ↓vReason, ↓vEqS]
    refine loop_f6 _ n r ⟨by omega, hn.2⟩ ⟨hw0, hws⟩ _ _ _ _ _ _ _ _ _ _ _ _ _ _ _ _ _ _ _ _ _ _ _ enear fun y19 y20 => ?_
    split at d8'
    · rename_i p hp
      simp only [Bool.and_eq_true, decide_eq_true_eq] at d8'
      obtain ⟨f1, f2, f3, f4, f5⟩ := d8'
      simp only [↓rd_law_k4_11, ↓vSeq, ↓vPar, ↓vPar3, ↓vSet, ↓vSetO, ↓vAsg, ↓vAug, ↓vAppend, ↓vExt, ↓vUnp, ↓vFz, ↓vRet, ↓vRetN, ↓vDrop, ↓vIfS, ↓vNext, ↓vBrk, ↓vCnt, ↓vNever, ↓vForS, ↓vC, ↓vVar, ↓vTup, ↓vOf, ↓vBin, ↓vBinL, ↓vBinR, ↓vUn, ↓vCall, ↓vCallO, ↓vCallIO, ↓vCallSC, ↓vLookA, ↓vB, ↓vTru, ↓vTruO, ↓vAnd, ↓vOr, ↓vNot, ↓vAndV, ↓vOrV, ↓vNotV, ↓vIf, ↓vChain, ↓vNil, ↓vCons, ↓vSl, ↓vSlL, ↓vP0, ↓vP1, ↓vRevT, ↓vRevL, ↓vRevLL, ↓vBits, ↓vPop, ↓vLc, ↓vTurn, ↓vYes, ↓gN, ↓gT, ↓gsC, ↓gs0, ↓gSet, ↓wL, ↓wT, ↓wR1, ↓wR2, ↓d2, ↓d20, ↓dAdd, ↓dMul, ↓dEq, ↓dNe, ↓dIsN, ↓dNotN, ↓isN, ↓dNeg, ↓dIx, ↓dInI, ↓dSl, ↓truD, ↓cLen, ↓cAbs, ↓cMax2, ↓cMin2, ↓cInt, ↓cTup, ↓cLst, ↓sv, ↓List.getD_cons_zero, ↓List.getD_cons_succ, ↓List.set_cons_zero, ↓List.set_cons_succ, ↓vxSeq, ↓vxIf, ↓vxRaise, ↓vxRet, ↓vxAsg, ↓vxCall, ↓vReason, ↓vEqS]
      refine ⟨n, r, l, p, rfl, hk, hp, ?_⟩
      unfold nearP at f1
      simp only [Bool.and_eq_true, decide_eq_true_eq] at f1
      obtain ⟨_, p2, p3, p4, p5⟩ := f1
      have hny : 0 ≤ n * p.2 := Int.mul_nonneg (by omega) p4
      have hny2 : n * p.2 < 2 ^ 300 := by
        have k1 : n * p.2 ≤ 301 * p.2 := Int.mul_le_mul_of_nonneg_right hn.2 p4
        have k2 : (301 : Int) * 2 ^ 200 < 2 ^ 300 := by decide +kernel
        omega
      have bb1 : p.1 < 2 ^ 300 := by have k2 : (2 : Int) ^ 200 < 2 ^ 300 := by decide +kernel
                                     omega
      have bb2 : p.2 < 2 ^ 300 := by have k2 : (2 : Int) ^ 200 < 2 ^ 300 := by decide +kernel
                                     omega
      generalize hsg : (if l.length % 2 = 0 then (1 : Int) else -1) = sg at f4 ⊢
      have hsg2 : sg = 1 ∨ sg = -1 := by rw [← hsg]; split <;> omega
      simp only [↓vSeq, ↓vPar, ↓vPar3, ↓vSet, ↓vSetO, ↓vAsg, ↓vAug, ↓vAppend, ↓vExt, ↓vUnp, ↓vFz, ↓vRet, ↓vRetN, ↓vDrop, ↓vIfS, ↓vNext, ↓vBrk, ↓vCnt, ↓vNever, ↓vForS, ↓vC, ↓vVar, ↓vTup, ↓vOf, ↓vBin, ↓vBinL, ↓vBinR, ↓vUn, ↓vCall, ↓vCallO, ↓vCallIO, ↓vCallSC, ↓vLookA, ↓vB, ↓vTru, ↓vTruO, ↓vAnd, ↓vOr, ↓vNot, ↓vAndV, ↓vOrV, ↓vNotV, ↓vIf, ↓vChain, ↓vNil, ↓vCons, ↓vSl, ↓vSlL, ↓vP0, ↓vP1, ↓vRevT, ↓vRevL, ↓vRevLL, ↓vBits, ↓vPop, ↓vLc, ↓vTurn, ↓vYes, ↓gN, ↓gT, ↓gsC, ↓gs0, ↓gSet, ↓wL, ↓wT, ↓wR1, ↓wR2, ↓d2, ↓d20, ↓dAdd, ↓dMul, ↓dEq, ↓dNe, ↓dIsN, ↓dNotN, ↓isN, ↓dNeg, ↓dIx, ↓dInI, ↓dSl, ↓truD, ↓cLen, ↓cAbs, ↓cMax2, ↓cMin2, ↓cInt, ↓cTup, ↓cLst, ↓sv, ↓List.getD_cons_zero, ↓List.getD_cons_succ, ↓List.set_cons_zero, ↓List.set_cons_succ, ↓vxSeq, ↓vxIf, ↓vxRaise, ↓vxRet, ↓vxAsg, ↓vxCall, ↓vReason, ↓vEqS]
      refine ⟨rfl, ?_⟩
      have g1' : ¬ p.1 < 1 := by omega
      have g2' : ¬ p.2 < 1 := by omega
      simp only [↓rd_law_k4_12, ↓vSeq, ↓vPar, ↓vPar3, ↓vSet, ↓vSetO, ↓vAsg, ↓vAug, ↓vAppend, ↓vExt, ↓vUnp, ↓vFz, ↓vRet, ↓vRetN, ↓vDrop, ↓vIfS, ↓vNext, ↓vBrk, ↓vCnt, ↓vNever, ↓vForS, ↓vC, ↓vVar, ↓vTup, ↓vOf, ↓vBin, ↓vBinL, ↓vBinR, ↓vUn, ↓vCall, ↓vCallO, ↓vCallIO, ↓vCallSC, ↓vLookA, ↓vB, ↓vTru, ↓vTruO, ↓vAnd, ↓vOr, ↓vNot, ↓vAndV, ↓vOrV, ↓vNotV, ↓vIf, ↓vChain, ↓vNil, ↓vCons, ↓vSl, ↓vSlL, ↓vP0, ↓vP1, ↓vRevT, ↓vRevL, ↓vRevLL, ↓vBits, ↓vPop, ↓vLc, ↓vTurn, ↓vYes, ↓gN, ↓gT, ↓gsC, ↓gs0, ↓gSet, ↓wL, ↓wT, ↓wR1, ↓wR2, ↓d2, ↓d20, ↓dAdd, ↓dMul, ↓dEq, ↓dNe, ↓dIsN, ↓dNotN, ↓isN, ↓dNeg, ↓dIx, ↓dInI, ↓dSl, ↓truD, ↓cLen, ↓cAbs, ↓cMax2, ↓cMin2, ↓cInt, ↓cTup, ↓cLst, ↓sv, ↓List.getD_cons_zero, ↓List.getD_cons_succ, ↓List.set_cons_zero, ↓List.set_cons_succ, ↓vxSeq, ↓vxIf, ↓vxRaise, ↓vxRet, ↓vxAsg, ↓vxCall, ↓vReason, ↓vEqS, g1', g2', decide_false]
      refine ⟨[1, -1], rfl, ?_⟩
      have hin : sg ∈ ([1, -1] : List Int) := by simp; omega
      simp only [if_true, hin, decide_true, Bool.not_true]
      refine ⟨mul_big p2 bb1 p2 bb1, mul_smallL (by omega), mul_big hny hny2 p4 bb2, ?_⟩
      simp only [f4, decide_true, Bool.not_true, ↓rd_law_k4_13, ↓vSeq, ↓vPar, ↓vPar3, ↓vSet, ↓vSetO, ↓vAsg, ↓vAug, ↓vAppend, ↓vExt, ↓vUnp, ↓vFz, ↓vRet, ↓vRetN, ↓vDrop, ↓vIfS, ↓vNext, ↓vBrk, ↓vCnt, ↓vNever, ↓vForS, ↓vC, ↓vVar, ↓vTup, ↓vOf, ↓vBin, ↓vBinL, ↓vBinR, ↓vUn, ↓vCall, ↓vCallO, ↓vCallIO, ↓vCallSC, ↓vLookA, ↓vB, ↓vTru, ↓vTruO, ↓vAnd, ↓vOr, ↓vNot, ↓vAndV, ↓vOrV, ↓vNotV, ↓vIf, ↓vChain, ↓vNil, ↓vCons, ↓vSl, ↓vSlL, ↓vP0, ↓vP1, ↓vRevT, ↓vRevL, ↓vRevLL, ↓vBits, ↓vPop, ↓vLc, ↓vTurn, ↓vYes, ↓gN, ↓gT, ↓gsC, ↓gs0, ↓gSet, ↓wL, ↓wT, ↓wR1, ↓wR2, ↓d2, ↓d20, ↓dAdd, ↓dMul, ↓dEq, ↓dNe, ↓dIsN, ↓dNotN, ↓isN, ↓dNeg, ↓dIx, ↓dInI, ↓dSl, ↓truD, ↓cLen, ↓cAbs, ↓cMax2, ↓cMin2, ↓cInt, ↓cTup, ↓cLst, ↓sv, ↓List.getD_cons_zero, ↓List.getD_cons_succ, ↓List.set_cons_zero, ↓List.set_cons_succ, ↓vxSeq, ↓vxIf, ↓vxRaise, ↓vxRet, ↓vxAsg, ↓vxCall, ↓vReason, ↓vEqS]
      have hmin : (if (300 : Int) < p.2 then (300 : Int) else p.2) = min p.2 300 := by split <;> omega
      rw [hmin]
      refine ⟨by omega, ?_⟩
      rw [rngD_map]
      refine loop_f7 _ n r p.2 hn f5 _ _ _ _ _ _ _ _ _ _ _ _ _ _ _ _ _ _ _ _ _ _ _ _ (fun k hk => ?_) fun y7 y13 y22 => ?_
      · obtain ⟨i, hi, rfl⟩ := List.mem_map.mp hk
        have := List.mem_range.mp hi
        omega
      · simp only [↓rd_law_k4_14, ↓vSeq, ↓vPar, ↓vPar3, ↓vSet, ↓vSetO, ↓vAsg, ↓vAug, ↓vAppend, ↓vExt, ↓vUnp, ↓vFz, ↓vRet, ↓vRetN, ↓vDrop, ↓vIfS, ↓vNext, ↓vBrk, ↓vCnt, ↓vNever, ↓vForS, ↓vC, ↓vVar, ↓vTup, ↓vOf, ↓vBin, ↓vBinL, ↓vBinR, ↓vUn, ↓vCall, ↓vCallO, ↓vCallIO, ↓vCallSC, ↓vLookA, ↓vB, ↓vTru, ↓vTruO, ↓vAnd, ↓vOr, ↓vNot, ↓vAndV, ↓vOrV, ↓vNotV, ↓vIf, ↓vChain, ↓vNil, ↓vCons, ↓vSl, ↓vSlL, ↓vP0, ↓vP1, ↓vRevT, ↓vRevL, ↓vRevLL, ↓vBits, ↓vPop, ↓vLc, ↓vTurn, ↓vYes, ↓gN, ↓gT, ↓gsC, ↓gs0, ↓gSet, ↓wL, ↓wT, ↓wR1, ↓wR2, ↓d2, ↓d20, ↓dAdd, ↓dMul, ↓dEq, ↓dNe, ↓dIsN, ↓dNotN, ↓isN, ↓dNeg, ↓dIx, ↓dInI, ↓dSl, ↓truD, ↓cLen, ↓cAbs, ↓cMax2, ↓cMin2, ↓cInt, ↓cTup, ↓cLst, ↓sv, ↓List.getD_cons_zero, ↓List.getD_cons_succ, ↓List.set_cons_zero, ↓List.set_cons_succ, ↓vxSeq, ↓vxIf, ↓vxRaise, ↓vxRet, ↓vxAsg, ↓vxCall, ↓vReason, ↓vEqS]
        refine ⟨by omega, ?_⟩
        rw [List.length_map, fmod_pos (by omega)]
        by_cases hz : l.length % 2 = 0
        · rw [if_pos hz] at hsg
          have hz2 : (l.length : Int) % 2 = 0 := by omega
          simp only [hz2, decide_true, ← hsg]
        · rw [if_neg hz] at hsg
          have hz2 : ¬ (l.length : Int) % 2 = 0 := by omega
          simp only [hz2, decide_false, ↓vSeq, ↓vPar, ↓vPar3, ↓vSet, ↓vSetO, ↓vAsg, ↓vAug, ↓vAppend, ↓vExt, ↓vUnp, ↓vFz, ↓vRet, ↓vRetN, ↓vDrop, ↓vIfS, ↓vNext, ↓vBrk, ↓vCnt, ↓vNever, ↓vForS, ↓vC, ↓vVar, ↓vTup, ↓vOf, ↓vBin, ↓vBinL, ↓vBinR, ↓vUn, ↓vCall, ↓vCallO, ↓vCallIO, ↓vCallSC, ↓vLookA, ↓vB, ↓vTru, ↓vTruO, ↓vAnd, ↓vOr, ↓vNot, ↓vAndV, ↓vOrV, ↓vNotV, ↓vIf, ↓vChain, ↓vNil, ↓vCons, ↓vSl, ↓vSlL, ↓vP0, ↓vP1, ↓vRevT, ↓vRevL, ↓vRevLL, ↓vBits, ↓vPop, ↓vLc, ↓vTurn, ↓vYes, ↓gN, ↓gT, ↓gsC, ↓gs0, ↓gSet, ↓wL, ↓wT, ↓wR1, ↓wR2, ↓d2, ↓d20, ↓dAdd, ↓dMul, ↓dEq, ↓dNe, ↓dIsN, ↓dNotN, ↓isN, ↓dNeg, ↓dIx, ↓dInI, ↓dSl, ↓truD, ↓cLen, ↓cAbs, ↓cMax2, ↓cMin2, ↓cInt, ↓cTup, ↓cLst, ↓sv, ↓List.getD_cons_zero, ↓List.getD_cons_succ, ↓List.set_cons_zero, ↓List.set_cons_succ, ↓vxSeq, ↓vxIf, ↓vxRaise, ↓vxRet, ↓vxAsg, ↓vxCall, ↓vReason, ↓vEqS, ← hsg, decide_true]
    · cases d8'
end VL

set_option Elab.async false
set_option linter.all false
set_option maxRecDepth 100000
set_option maxHeartbeats 0
namespace VL
open PySem PySem.Spec PyProof.Rows L2 LamX HD
theorem sc_cell : FnScope ["script", "k"] ["script", "k"] (defScope s__law_cell) := ⟨rfl, rfl, rfl, by decide +kernel, rfl, by decide +kernel, by decide +kernel⟩
theorem ok_cell {P : Program} {w : World} {K : PySem.W.Frag} {mg : Str → Option Value} {base : Heap} {f : Addr} {fd : FuncData} (F : FnP K "_law_cell" s__law_cell f fd) (m : mg "_law_cell" = some (.ref f)) (Zm : ZZ K mg) : Cal P w K mg base 1 "_law_cell" ["script", "k"] (LFsc K sp__law_cell) f fd :=
  ⟨fn_cell (F.ok sc_cell (fun vs H Q E h => by obtain ⟨l, ns, j, rfl, _⟩ := h; rfl) fun cdv A outer s H vs Q E hr h => ⟨tCell K, PSs.nox (pss_cell rfl rfl (.inl rfl) (.inl rfl) rfl Zm.z_len), cell_run h⟩), F.bindsN fun _ _ _ _ _ _ us hl => match us, hl with | [_, _], _ => rfl, F.kp, m⟩
theorem hl__law_digits (ns : List Int) (ds : List D) (Q : D → Prop) (h : sp__law_digits ns ds Q) : ds.length + 1 = 3 := by unfold sp__law_digits at h; grind
theorem hl__law_draw (xs ds : List D) (Q : List D → D → Prop) (h : sp__law_draw xs ds Q) : ds.length + 1 = 2 := by unfold sp__law_draw at h; grind
theorem hl_fraction_terms (ds : List D) (Q : D → Prop) (h : sp_fraction_terms ds Q) : ds.length = 2 := by unfold sp_fraction_terms at h; grind
theorem hl__law_gcd (ds : List D) (Q : D → Prop) (h : sp__law_gcd ds Q) : ds.length = 2 := by unfold sp__law_gcd at h; grind
theorem hl__law_fraction (ds : List D) (Q : D → Prop) (h : sp__law_fraction ds Q) : ds.length = 2 := by unfold sp__law_fraction at h; grind
theorem hl__law_value (ds : List D) (Q : D → Prop) (h : sp__law_value ds Q) : ds.length = 1 := by unfold sp__law_value at h; grind
theorem hl_convergents (ds : List D) (Q : D → Prop) (h : sp_convergents ds Q) : ds.length = 1 := by unfold sp_convergents at h; grind
theorem hl__law_less (ds : List D) (Q : D → Prop) (h : sp__law_less ds Q) : ds.length = 2 := by unfold sp__law_less at h; grind
theorem hl_divisor (ds : List D) (Q : D → Prop) (h : sp_divisor ds Q) : ds.length = 2 := by unfold sp_divisor at h; grind
theorem hl_fraction (ds : List D) (Q : D → Prop) (h : sp_fraction ds Q) : ds.length = 2 := by unfold sp_fraction at h; grind
theorem hl_is_nearer (ds : List D) (Q : D → Prop) (h : sp_is_nearer ds Q) : ds.length = 3 := by unfold sp_is_nearer at h; grind
theorem hl_nearest_below (ds : List D) (Q : D → Prop) (h : sp_nearest_below ds Q) : ds.length = 3 := by unfold sp_nearest_below at h; grind
theorem hl__law_root (ds : List D) (Q : D → Prop) (h : sp__law_root ds Q) : ds.length = 1 := by unfold sp__law_root at h; grind
theorem hl_root (ds : List D) (Q : D → Prop) (h : sp_root ds Q) : ds.length = 1 := by unfold sp_root at h; grind
theorem hl_root_terms (ds : List D) (Q : D → Prop) (h : sp_root_terms ds Q) : ds.length = 1 := by unfold sp_root_terms at h; grind
theorem hl_root_convergents (ds : List D) (Q : D → Prop) (h : sp_root_convergents ds Q) : ds.length = 2 := by unfold sp_root_convergents at h; grind
theorem hl_least_unit (ds : List D) (Q : D → Prop) (h : sp_least_unit ds Q) : ds.length = 1 := by unfold sp_least_unit at h; grind
theorem hlx_root_terms (ds : List D) (Q : D → Prop) (Rv : Str → Prop) (h : spx_root_terms ds Q Rv) : ds.length = 1 := by unfold spx_root_terms at h; grind
theorem law_ok (w : World) (mg : Str → Option Value) (h : Heap) (K : PySem.W.Frag) (KX : K.In h) (G : h.Ns mainGlobals mg) (c : VX.SaysB fa fn mainF ini h K) : ∃ fd : FuncData, (∀ (s : Shared) (u : Value), BindsTo s fd ⟨[u], []⟩ [("script", u)]) ∧
    ∀ base : Heap, K.In base → base.Ns mainGlobals mg → TabB base mg (He.cT K VX.lawP).1 (He.cT K VX.lawP).2 → FnOk rw_.prog w K mg base C8.CX0 5 (He.fAd K VX.lawP) fd ["script"] (spLaw K (He.cT K VX.lawP).2) := by
  obtain ⟨e__law_cell, F__law_cell⟩ := He.SaysD.def_ c.t 10 (d := d__law_cell) rfl
  replace F__law_cell : FnP K "_law_cell" s__law_cell (He.fAd K ("_law_cell", none)) e__law_cell := F__law_cell
  have m__law_cell : mg "_law_cell" = some (.ref (He.fAd K ("_law_cell", none))) := He.glo_ok KX G (He.SaysD.fact c.t 12 (f := .glo "_law_cell") rfl)
  obtain ⟨e__law_reason, F__law_reason⟩ := He.SaysD.def_ c.t 17 (d := d__law_reason) rfl
  replace F__law_reason : FnP K "_law_reason" s__law_reason (He.fAd K ("_law_reason", none)) e__law_reason := F__law_reason
  have m__law_reason : mg "_law_reason" = some (.ref (He.fAd K ("_law_reason", none))) := He.glo_ok KX G (He.SaysD.fact c.t 19 (f := .glo "_law_reason") rfl)
  obtain ⟨e__law_digits, F__law_digits⟩ := He.SaysD.def_ c.t 11 (d := d__law_digits) rfl
  replace F__law_digits : FnP K "_law_digits" s__law_digits (He.fAd K ("_law_digits", none)) e__law_digits := F__law_digits
  have m__law_digits : mg "_law_digits" = some (.ref (He.fAd K ("_law_digits", none))) := He.glo_ok KX G (He.SaysD.fact c.t 13 (f := .glo "_law_digits") rfl)
  obtain ⟨e__law_draw, F__law_draw⟩ := He.SaysD.def_ c.t 12 (d := d__law_draw) rfl
  replace F__law_draw : FnP K "_law_draw" s__law_draw (He.fAd K ("_law_draw", none)) e__law_draw := F__law_draw
  have m__law_draw : mg "_law_draw" = some (.ref (He.fAd K ("_law_draw", none))) := He.glo_ok KX G (He.SaysD.fact c.t 14 (f := .glo "_law_draw") rfl)
  obtain ⟨e_fraction_terms, F_fraction_terms⟩ := He.SaysD.def_ c.t 3 (d := d_fraction_terms) rfl
  replace F_fraction_terms : FnP K "fraction_terms" s_fraction_terms (He.fAd K ("fraction_terms", none)) e_fraction_terms := F_fraction_terms
  have m_fraction_terms : mg "fraction_terms" = some (.ref (He.fAd K ("fraction_terms", none))) := He.glo_ok KX G (He.SaysD.fact c.t 5 (f := .glo "fraction_terms") rfl)
  obtain ⟨e__law_gcd, F__law_gcd⟩ := He.SaysD.def_ c.t 13 (d := d__law_gcd) rfl
  replace F__law_gcd : FnP K "_law_gcd" s__law_gcd (He.fAd K ("_law_gcd", none)) e__law_gcd := F__law_gcd
  have m__law_gcd : mg "_law_gcd" = some (.ref (He.fAd K ("_law_gcd", none))) := He.glo_ok KX G (He.SaysD.fact c.t 15 (f := .glo "_law_gcd") rfl)
  obtain ⟨e__law_fraction, F__law_fraction⟩ := He.SaysD.def_ c.t 14 (d := d__law_fraction) rfl
  replace F__law_fraction : FnP K "_law_fraction" s__law_fraction (He.fAd K ("_law_fraction", none)) e__law_fraction := F__law_fraction
  have m__law_fraction : mg "_law_fraction" = some (.ref (He.fAd K ("_law_fraction", none))) := He.glo_ok KX G (He.SaysD.fact c.t 16 (f := .glo "_law_fraction") rfl)
  obtain ⟨e__law_value, F__law_value⟩ := He.SaysD.def_ c.t 18 (d := d__law_value) rfl
  replace F__law_value : FnP K "_law_value" s__law_value (He.fAd K ("_law_value", none)) e__law_value := F__law_value
  have m__law_value : mg "_law_value" = some (.ref (He.fAd K ("_law_value", none))) := He.glo_ok KX G (He.SaysD.fact c.t 20 (f := .glo "_law_value") rfl)
  obtain ⟨e_convergents, F_convergents⟩ := He.SaysD.def_ c.t 5 (d := d_convergents) rfl
  replace F_convergents : FnP K "convergents" s_convergents (He.fAd K ("convergents", none)) e_convergents := F_convergents
  have m_convergents : mg "convergents" = some (.ref (He.fAd K ("convergents", none))) := He.glo_ok KX G (He.SaysD.fact c.t 7 (f := .glo "convergents") rfl)
  obtain ⟨e__law_less, F__law_less⟩ := He.SaysD.def_ c.t 15 (d := d__law_less) rfl
  replace F__law_less : FnP K "_law_less" s__law_less (He.fAd K ("_law_less", none)) e__law_less := F__law_less
  have m__law_less : mg "_law_less" = some (.ref (He.fAd K ("_law_less", none))) := He.glo_ok KX G (He.SaysD.fact c.t 17 (f := .glo "_law_less") rfl)
  obtain ⟨e_divisor, F_divisor⟩ := He.SaysD.def_ c.t 0 (d := d_divisor) rfl
  replace F_divisor : FnP K "divisor" s_divisor (He.fAd K ("divisor", none)) e_divisor := F_divisor
  have m_divisor : mg "divisor" = some (.ref (He.fAd K ("divisor", none))) := He.glo_ok KX G (He.SaysD.fact c.t 2 (f := .glo "divisor") rfl)
  obtain ⟨e_fraction, F_fraction⟩ := He.SaysD.def_ c.t 1 (d := d_fraction) rfl
  replace F_fraction : FnP K "fraction" s_fraction (He.fAd K ("fraction", none)) e_fraction := F_fraction
  have m_fraction : mg "fraction" = some (.ref (He.fAd K ("fraction", none))) := He.glo_ok KX G (He.SaysD.fact c.t 3 (f := .glo "fraction") rfl)
  obtain ⟨e_is_nearer, F_is_nearer⟩ := He.SaysD.def_ c.t 9 (d := d_is_nearer) rfl
  replace F_is_nearer : FnP K "is_nearer" s_is_nearer (He.fAd K ("is_nearer", none)) e_is_nearer := F_is_nearer
  have m_is_nearer : mg "is_nearer" = some (.ref (He.fAd K ("is_nearer", none))) := He.glo_ok KX G (He.SaysD.fact c.t 11 (f := .glo "is_nearer") rfl)
  obtain ⟨e_nearest_below, F_nearest_below⟩ := He.SaysD.def_ c.t 8 (d := d_nearest_below) rfl
  replace F_nearest_below : FnP K "nearest_below" s_nearest_below (He.fAd K ("nearest_below", none)) e_nearest_below := F_nearest_below
  have m_nearest_below : mg "nearest_below" = some (.ref (He.fAd K ("nearest_below", none))) := He.glo_ok KX G (He.SaysD.fact c.t 10 (f := .glo "nearest_below") rfl)
  obtain ⟨e__law_root, F__law_root⟩ := He.SaysD.def_ c.t 16 (d := d__law_root) rfl
  replace F__law_root : FnP K "_law_root" s__law_root (He.fAd K ("_law_root", none)) e__law_root := F__law_root
  have m__law_root : mg "_law_root" = some (.ref (He.fAd K ("_law_root", none))) := He.glo_ok KX G (He.SaysD.fact c.t 18 (f := .glo "_law_root") rfl)
  obtain ⟨e_root, F_root⟩ := He.SaysD.def_ c.t 2 (d := d_root) rfl
  replace F_root : FnP K "root" s_root (He.fAd K ("root", none)) e_root := F_root
  have m_root : mg "root" = some (.ref (He.fAd K ("root", none))) := He.glo_ok KX G (He.SaysD.fact c.t 4 (f := .glo "root") rfl)
  obtain ⟨e_root_terms, F_root_terms⟩ := He.SaysD.def_ c.t 4 (d := d_root_terms) rfl
  replace F_root_terms : FnP K "root_terms" s_root_terms (He.fAd K ("root_terms", none)) e_root_terms := F_root_terms
  have m_root_terms : mg "root_terms" = some (.ref (He.fAd K ("root_terms", none))) := He.glo_ok KX G (He.SaysD.fact c.t 6 (f := .glo "root_terms") rfl)
  obtain ⟨e_root_convergents, F_root_convergents⟩ := He.SaysD.def_ c.t 6 (d := d_root_convergents) rfl
  replace F_root_convergents : FnP K "root_convergents" s_root_convergents (He.fAd K ("root_convergents", none)) e_root_convergents := F_root_convergents
  have m_root_convergents : mg "root_convergents" = some (.ref (He.fAd K ("root_convergents", none))) := He.glo_ok KX G (He.SaysD.fact c.t 8 (f := .glo "root_convergents") rfl)
  obtain ⟨e_least_unit, F_least_unit⟩ := He.SaysD.def_ c.t 7 (d := d_least_unit) rfl
  replace F_least_unit : FnP K "least_unit" s_least_unit (He.fAd K ("least_unit", none)) e_least_unit := F_least_unit
  have m_least_unit : mg "least_unit" = some (.ref (He.fAd K ("least_unit", none))) := He.glo_ok KX G (He.SaysD.fact c.t 9 (f := .glo "least_unit") rfl)
  obtain ⟨e_law, F_law⟩ := He.SaysD.def_ c.t 19 (d := d_law) rfl
  replace F_law : FnP K "law" s_law (He.fAd K ("law", none)) e_law := F_law
  have m_law : mg "law" = some (.ref (He.fAd K ("law", none))) := He.glo_ok KX G (He.SaysD.fact c.t 21 (f := .glo "law") rfl)
  have m_Bad : mg "BadTable" = some (.ref (VX.C_ K)) := He.glo_ok KX G (He.SaysD.fact c.t 1 (f := .glo "BadTable") rfl)
  have Zm : ZZ K mg := ⟨He.free_ok KX G (He.SaysD.fact c.t 23 (f := .free "abs") rfl), He.free_ok KX G (He.SaysD.fact c.t 24 (f := .free "int") rfl), He.free_ok KX G (He.SaysD.fact c.t 25 (f := .free "len") rfl), He.free_ok KX G (He.SaysD.fact c.t 26 (f := .free "min") rfl), He.free_ok KX G (He.SaysD.fact c.t 27 (f := .free "range") rfl), He.free_ok KX G (He.SaysD.fact c.t 29 (f := .free "tuple") rfl)⟩
  have Bd : Bad rw_.prog K mg ini := ⟨c.s, ini_ok, m_Bad⟩
  refine ⟨e_law, fun s u => FunD.bindsA (ps := ["script"]) F_law (fun _ _ _ _ _ _ us hl => match us, hl with | [_], _ => rfl) s [u] rfl, fun base KB GB TB => ?_⟩
  have C__law_cell := ok_cell (P := rw_.prog) (w := w) (base := base) F__law_cell m__law_cell Zm
  have C__law_digits := ok__law_digits (P := rw_.prog) (w := w) (base := base) F__law_digits m__law_digits Zm C__law_cell hl__law_digits hq__law_digits
  have C__law_draw := ok__law_draw (P := rw_.prog) (w := w) (base := base) F__law_draw m__law_draw Zm  hl__law_draw hq__law_draw
  have C_fraction_terms := ok_fraction_terms (P := rw_.prog) (w := w) (base := base) F_fraction_terms m_fraction_terms Zm  hl_fraction_terms hq_fraction_terms
  have C__law_gcd := ok__law_gcd (P := rw_.prog) (w := w) (base := base) F__law_gcd m__law_gcd Zm  hl__law_gcd hq__law_gcd
  have C__law_fraction := ok__law_fraction (P := rw_.prog) (w := w) (base := base) F__law_fraction m__law_fraction Zm C__law_gcd hl__law_fraction hq__law_fraction
  have C__law_value := ok__law_value (P := rw_.prog) (w := w) (base := base) F__law_value m__law_value Zm  hl__law_value hq__law_value
  have C_convergents := ok_convergents (P := rw_.prog) (w := w) (base := base) F_convergents m_convergents Zm  hl_convergents hq_convergents
  have C__law_less := ok__law_less (P := rw_.prog) (w := w) (base := base) F__law_less m__law_less Zm  hl__law_less hq__law_less
  have C_divisor := ok_divisor (P := rw_.prog) (w := w) (base := base) F_divisor m_divisor Zm  hl_divisor hq_divisor
  have C_fraction := ok_fraction (P := rw_.prog) (w := w) (base := base) F_fraction m_fraction Zm C_divisor hl_fraction hq_fraction
  have C_is_nearer := ok_is_nearer (P := rw_.prog) (w := w) (base := base) F_is_nearer m_is_nearer Zm  hl_is_nearer hq_is_nearer
  have C_nearest_below := ok_nearest_below (P := rw_.prog) (w := w) (base := base) F_nearest_below m_nearest_below Zm C_fraction_terms C_fraction C_is_nearer hl_nearest_below hq_nearest_below
  have C__law_root := ok__law_root (P := rw_.prog) (w := w) (base := base) F__law_root m__law_root Zm  hl__law_root hq__law_root
  have C_root := ok_root (P := rw_.prog) (w := w) (base := base) F_root m_root Zm  hl_root hq_root
  have C_root_terms := ok_root_terms (P := rw_.prog) (w := w) (base := base) F_root_terms m_root_terms Zm C_root hl_root_terms hq_root_terms
  have C_root_convergents := ok_root_convergents (P := rw_.prog) (w := w) (base := base) F_root_convergents m_root_convergents Zm C_root_terms C_convergents hl_root_convergents hq_root_convergents
  have C_least_unit := ok_least_unit (P := rw_.prog) (w := w) (base := base) F_least_unit m_least_unit Zm C_root_terms C_root_convergents hl_least_unit hq_least_unit
  have X_root_terms := okx_root_terms (P := rw_.prog) (w := w) (base := base) F_root_terms m_root_terms Zm Bd C_root hlx_root_terms hqx_root_terms
  have Zr : Rsn rw_.prog K mg base ini s__law_reason (He.cT K VX.lawP).1 (He.cT K VX.lawP).2 := {
    bad := Bd
    fn := ⟨_, _, F__law_reason, m__law_reason⟩
    TB := TB
    sc := ⟨rfl, rfl, rfl, by decide +kernel, rfl, by decide +kernel, by decide +kernel⟩
    ge := rfl
    ke := rfl
    kc := rfl
    body := ⟨_, _, _, _, _, _, _, _, _, _, _, _, rfl, fun _ => rfl⟩
    bind := fun fd g F => F.bindsN fun _ _ _ _ _ _ us hl => match us, hl with | [_], _ => rfl }
  exact ok_law F_law (fun oc od osl c1 lk e => (He.codeOf_eq lk e).symm) Zm Zr C__law_digits C__law_draw C_fraction_terms C__law_fraction C__law_value C_convergents C__law_less C_nearest_below C__law_root C_root_terms C_root_convergents C_least_unit X_root_terms hq_law
end VL
open PySem PySem.W PySem.Calls PyProof.Rows
theorem PySem.Challenge.cw_allgrids_k35_fractions_continued_holds : PySem.Challenge.rw_allgrids_k35_fractions_continued.Holds := by
  w_on; o_law
  refine HandSHeadRun.head_any (r := OpenLaw.row HD.rw_) (q := view (OpenLaw.row HD.rw_).prog [25]) (H := HD.hk) (ob := HD.ob) (M := 3000) (loose := ["GridError", "BadTable", "divisor", "fraction", "root", "fraction_terms", "root_terms", "convergents", "root_convergents", "least_unit", "nearest_below", "is_nearer", "_law_cell", "_law_digits", "_law_draw", "_law_gcd", "_law_fraction", "_law_less", "_law_root", "_law_reason", "_law_value"]) (d := HandSHeadRun.topDef (OpenLaw.row HD.rw_).prog 25) (kwd := []) HD.ob_eq
    (by kernel_rfl) (fun s => by kernel_rfl) HD.run (by kernel_rfl) (by kernel_rfl) (by kernel_rfl) (by rfl) (by first | assumption | decide +kernel) (by decide +kernel) ⟨rfl, rfl, rfl, rfl, rfl, by decide +kernel⟩ ?hw ?hc
  case hw => w_witness2
  case hc =>
    refine VX.walk_B (l := HD.rw_) (n := 63) (k := 5) rfl (by decide) (by kernel_rfl) ⟨rfl, by decide, by decide⟩ (by kernel_rfl) ?hg (fun w mg h K KX G c => VL.law_ok w mg h K KX G c)
    exact List.mem_of_getElem? (i := 21) rfl

