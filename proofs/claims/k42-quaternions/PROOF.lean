import PyProof.Rows.All
import Wide.All
import OpenK.AllK
import Wide.FinOn
import HandS.ForMost
import HandS.Conv
import HandS.TupMul
import HandS.Deep
import HandS.SortKw
import HandS.Zip
import HandS.Wide
import HandS.Style
import HandS.NoneIn
import HandS.Defaults
import HandS.More
import HandS.TupAny
import HandS.WideBits
import KE.KExcSuper
import HandS.ExcInit
import HandS.ExcField
import HandS.Lambda
import HandS.HeadHook4
import HandS.HeadWalk
import HandS.HeadEnd
import HandS.Head0
import HandS.Head1
import HandS.Head2
import HandS.Words
import HandS.NestedK
import HandS.Iter
import HandS.IsInst
import HandS.NamedTupSort
import KE.KDictSum
import HandS.Comp
import KE.DataMinMax
import HandS.TupSets
import KE.KStateDown
import HandS.HeadHook1
import HandS.HeadHook2
import PySem.Challenge.RW_allgrids_k42_quaternions_divided
import KE.DatumOrd
set_option Elab.async false
set_option linter.all false
set_option maxRecDepth 100000
set_option maxHeartbeats 4000000
/-! The value layer: readings over plain data, no heap. Part A: the relation. -/
namespace VL
open PySem PySem.Spec PyProof.Rows L2
open Classical

abbrev D := PyData

/-! ### data and values -/
mutual
/-- the value v stands for the data d; lists are tracked ones -/
inductive Rp (K : PySem.W.Frag) (H : Hp) : V → D → Prop
  | non : Rp K H .non .none
  | bl (b : Bool) : Rp K H (.bl b) (.bool b)
  | int (i : Int) : Rp K H (.int i) (.int i)
  | str (x : Str) : Rp K H (.str x) (.str x)
  | lst {a : Addr} {xs : List V} {ds : List D} : H a = some (.lst xs) → Rps K H xs ds → Rp K H (.ref a) (.list ds)
  | tup {a : Addr} {xs : List V} {ds : List D} : SqT K H a xs → Rps K H xs ds → Rp K H (.ref a) (.tuple ds)
inductive Rps (K : PySem.W.Frag) (H : Hp) : List V → List D → Prop
  | nil : Rps K H [] []
  | cons {v : V} {vs : List V} {d : D} {ds : List D} : Rp K H v d → Rps K H vs ds → Rps K H (v :: vs) (d :: ds)
end

theorem same_seqT {K : PySem.W.Frag} {H H' : Hp} {a : Addr} {xs : List V} (e : Same H H') (h : SqT K H a xs) : SqT K H' a xs := by
  rcases h with (h | ⟨o, h⟩) | h
  · exact .inl (.inl (e _ _ h))
  · exact .inl (.inr ⟨o, e _ _ h⟩)
  · exact .inr h
mutual
theorem Rp.mono {K : PySem.W.Frag} {H H' : Hp} (e : Same H H') : ∀ {v : V} {d : D}, Rp K H v d → Rp K H' v d
  | _, _, .non => .non
  | _, _, .bl b => .bl b
  | _, _, .int i => .int i
  | _, _, .str x => .str x
  | _, _, .lst h a => .lst (e _ _ h) (Rps.mono e a)
  | _, _, .tup h a => .tup (same_seqT e h) (Rps.mono e a)
theorem Rps.mono {K : PySem.W.Frag} {H H' : Hp} (e : Same H H') : ∀ {vs : List V} {ds : List D}, Rps K H vs ds → Rps K H' vs ds
  | _, _, .nil => .nil
  | _, _, .cons h t => .cons (Rp.mono e h) (Rps.mono e t)
end
mutual
theorem Rp.dp {K : PySem.W.Frag} {H : Hp} : ∀ {v : V} {d : D}, Rp K H v d → Dp K H v d
  | _, _, .non => .non
  | _, _, .bl b => .bl b
  | _, _, .int i => .int i
  | _, _, .str x => .str x
  | _, _, .lst h a => .lst (SqL.of h) (Rps.dp a)
  | _, _, .tup h a => .tup h (Rps.dp a)
theorem Rps.dp {K : PySem.W.Frag} {H : Hp} : ∀ {vs : List V} {ds : List D}, Rps K H vs ds → DpAll K H vs ds
  | _, _, .nil => .nil
  | _, _, .cons h t => .cons (Rp.dp h) (Rps.dp t)
end
section
variable {K : PySem.W.Frag} {H : Hp} {vs ws : List V} {ds es : List D} {v : V} {d : D}
theorem Rps.len (h : Rps K H vs ds) : vs.length = ds.length := by
  induction ds generalizing vs with
  | nil => cases h; rfl
  | cons d ds ih =>
    cases h with
    | cons h1 h2 => simp [ih h2]
theorem Rps.get {i : Nat} (h : Rps K H vs ds) (e : ds[i]? = some d) : ∃ v, vs[i]? = some v ∧ Rp K H v d := by
  induction ds generalizing vs i with
  | nil => simp at e
  | cons c ds ih =>
    cases h with
    | cons h1 h2 =>
      cases i with
      | zero => simp at e; subst e; exact ⟨_, rfl, h1⟩
      | succ i => simp at e; simpa using ih h2 e
theorem Rps.app (h : Rps K H vs ds) (k : Rps K H ws es) : Rps K H (vs ++ ws) (ds ++ es) := by
  induction ds generalizing vs with
  | nil => cases h; exact k
  | cons c ds ih =>
    cases h with
    | cons h1 h2 => exact .cons h1 (ih h2)
theorem Rps.one (h : Rp K H v d) : Rps K H [v] [d] := .cons h .nil
theorem Rps.take (h : Rps K H vs ds) (n : Nat) : Rps K H (vs.take n) (ds.take n) := by
  induction ds generalizing vs n with
  | nil => cases h; simp; exact .nil
  | cons c ds ih =>
    cases h with
    | cons h1 h2 =>
      cases n with
      | zero => exact .nil
      | succ n => exact .cons h1 (ih h2 n)
theorem Rps.drop (h : Rps K H vs ds) (n : Nat) : Rps K H (vs.drop n) (ds.drop n) := by
  induction ds generalizing vs n with
  | nil => cases h; simp; exact .nil
  | cons c ds ih =>
    cases h with
    | cons h1 h2 =>
      cases n with
      | zero => exact .cons h1 h2
      | succ n => exact ih h2 n
theorem Rps.set (h : Rps K H vs ds) (i : Nat) (k : Rp K H v d) : Rps K H (vs.set i v) (ds.set i d) := by
  induction ds generalizing vs i with
  | nil => cases h; exact .nil
  | cons c ds ih =>
    cases h with
    | cons h1 h2 =>
      cases i with
      | zero => exact .cons k h2
      | succ i => exact .cons h1 (ih h2 i)
theorem Rps.rev (h : Rps K H vs ds) : Rps K H vs.reverse ds.reverse := by
  induction ds generalizing vs with
  | nil => cases h; exact .nil
  | cons c ds ih =>
    cases h with
    | cons h1 h2 => rw [List.reverse_cons, List.reverse_cons]; exact (ih h2).app (.one h1)
theorem Rps.dropLast (h : Rps K H vs ds) : Rps K H vs.dropLast ds.dropLast := by
  rw [List.dropLast_eq_take, List.dropLast_eq_take, h.len]; exact h.take _
theorem Rps.ints {ns : List Int} (h : Rps K H vs (ns.map .int)) : vs = ns.map V.int := by
  induction ns generalizing vs with
  | nil => cases h; rfl
  | cons n ns ih =>
    cases h with
    | cons h1 h2 => cases h1; rw [ih h2]; rfl
theorem Rps.bools {ns : List Bool} (h : Rps K H vs (ns.map .bool)) : vs = ns.map V.bl := by
  induction ns generalizing vs with
  | nil => cases h; rfl
  | cons n ns ih =>
    cases h with
    | cons h1 h2 => cases h1; rw [ih h2]; rfl
theorem Rps.flatten (h : Rps K H vs ds) (n : Nat) : Rps K H (List.replicate n vs).flatten (List.replicate n ds).flatten := by
  induction n with
  | zero => exact .nil
  | succ n ih => rw [List.replicate_succ, List.replicate_succ, List.flatten_cons, List.flatten_cons]; exact h.app ih
theorem Rps.nil_iff (h : Rps K H vs ds) : vs = [] ↔ ds = [] := by cases h <;> simp
theorem Rps.empty (h : Rps K H vs ds) : vs.isEmpty = ds.isEmpty := by cases h <;> rfl
end

/-! ### hiding -/
/-- the heap without the addresses in O -/
noncomputable def hid (O : Addr → Prop) (H : Hp) : Hp := fun b => if O b then none else H b
/-- the heap without a -/
def rem (H : Hp) (a : Addr) : Hp := fun b => if b = a then none else H b
section
variable {O O' : Addr → Prop} {H H' H2 : Hp} {a b : Addr} {o : HO}
theorem hid_out (h : ¬ O b) : hid O H b = H b := if_neg h
theorem hid_in (h : O b) : hid O H b = none := if_pos h
theorem hid_some : hid O H b = some o ↔ ¬ O b ∧ H b = some o := by
  unfold hid; split <;> simp_all
theorem rem_at : rem H a a = none := if_pos rfl
theorem rem_ne (h : b ≠ a) : rem H a b = H b := if_neg h
theorem rem_some : rem H a b = some o ↔ b ≠ a ∧ H b = some o := by
  unfold rem; split <;> simp_all
theorem rem_upd (h : H a = none) : rem (upd H a o) a = H := by
  funext b; unfold rem; split
  · next e => rw [e, h]
  · next e => exact upd_ne e
theorem rem_upd2 : rem (upd H a o) a = rem H a := by
  funext b; unfold rem; split
  · rfl
  · next e => exact upd_ne e
theorem same_upd (h : H a = none) : Same H (upd H a o) := fun b u e => by
  rw [upd_ne (ne_of_none e h)]; exact e
theorem same_rem : Same (rem H a) H := fun b u e => (rem_some.mp e).2
theorem same_remr (h : Same H H') : Same (rem H a) (rem H' a) := fun b u e =>
  let ⟨h1, h2⟩ := rem_some.mp e; rem_some.mpr ⟨h1, h _ _ h2⟩
theorem same_hid (h : Same H H') : Same (hid O H) (hid O H') := fun b u e =>
  let ⟨h1, h2⟩ := hid_some.mp e; hid_some.mpr ⟨h1, h _ _ h2⟩
theorem same_hid_of : Same (hid O H) H := fun b u e => (hid_some.mp e).2
theorem same_hid_sub (h : ∀ b, O' b → O b) : Same (hid O H) (hid O' H) := fun b u e =>
  let ⟨h1, h2⟩ := hid_some.mp e; hid_some.mpr ⟨fun z => h1 (h b z), h2⟩
theorem hid_none : hid (fun _ => False) H = H := by funext b; exact if_neg id
theorem hid_hid : hid O (hid O' H) = hid (fun b => O b ∨ O' b) H := by
  funext b; unfold hid; by_cases h1 : O b <;> by_cases h2 : O' b <;> simp [h1, h2]
end

/-! ### slots -/
inductive SV where
  /-- not known -/
  | un
  /-- data that does not change -/
  | fr (d : D)
  /-- a list that this slot alone holds -/
  | ow (ds : List D)
  /-- the script -/
  | rw (ns : List Int)
  /-- a dict by tuples that this slot alone holds -/
  | dk (ks : List (List L2.Key))
/-- what the slot holds is its own -/
def SV.own : SV → Prop
  | .ow _ => True
  | .dk _ => True
  | _ => False
abbrev Ev := List SV
def sv (ev : Ev) (i : Nat) : SV := ev.getD i .un

structure Fm where
  B : Addr → Prop
  β : Option Addr

def Own (M : Fm) (ρ : Nat → Option Addr) : Addr → Prop := fun b => M.B b ∨ ∃ i, ρ i = some b
noncomputable abbrev hd (M : Fm) (ρ : Nat → Option Addr) (H : Hp) : Hp := hid (Own M ρ) H
def put (ρ : Nat → Option Addr) (i : Nat) (o : Option Addr) : Nat → Option Addr := fun j => if j = i then o else ρ j

/-- what a slot says -/
def SlotOk (K : PySem.W.Frag) (M : Fm) (σ : L2.St) (H : Hp) (ρ : Nat → Option Addr) (i : Nat) : SV → Prop
  | .un => True
  | .fr d => ρ i = none ∧ ∃ v, σ[i]? = some (some v) ∧ Rp K (hd M ρ H) v d
  | .ow ds => ∃ a vs, ρ i = some a ∧ σ[i]? = some (some (.ref a)) ∧ H a = some (.lst vs) ∧ Rps K (hd M ρ H) vs ds
  | .rw ns => ρ i = none ∧ ∃ a, σ[i]? = some (some (.ref a)) ∧ SqL K (hd M ρ H) a (ns.map V.int)
  | .dk ks => ∃ a kvs, ρ i = some a ∧ σ[i]? = some (some (.ref a)) ∧ H a = some (.dT kvs) ∧ kvs.map (·.1) = ks

/-- what may be held by others: there, and no tuple -/
def Nt (H : Hp) (b : Addr) : Prop := ∃ o, H b = some o ∧ ∀ vs, o ≠ .tup vs
theorem Nt.some {H : Hp} {b : Addr} (h : Nt H b) : H b ≠ none := fun z => by obtain ⟨o, e, _⟩ := h; rw [e] at z; cases z
theorem Nt.mono {H H' : Hp} {b : Addr} (e : Same H H') (h : Nt H b) : Nt H' b := by obtain ⟨o, h1, h2⟩ := h; exact ⟨o, e _ _ h1, h2⟩
theorem Nt.of_eq {H H' : Hp} {b : Addr} (e : H' b = H b) (h : Nt H b) : Nt H' b := by obtain ⟨o, h1, h2⟩ := h; exact ⟨o, e.trans h1, h2⟩
structure Rl (K : PySem.W.Frag) (M : Fm) (F : Hp) (ev : Ev) (σ : L2.St) (H : Hp) (ρ : Nat → Option Addr) : Prop where
  len : ev.length = σ.length
  frz : Same F H
  ofr : ∀ i a, ρ i = some a → F a = none ∧ ¬ M.B a
  btr : ∀ b, M.B b → Nt H b
  inj : ∀ i j a, ρ i = some a → ρ j = some a → i = j
  ex : ∀ i a, ρ i = some a → (sv ev i).own
  bx : ∀ a, M.β = some a → ρ 0 = some a
  sl : ∀ i, SlotOk K M σ H ρ i (sv ev i)

section
variable {K : PySem.W.Frag} {M : Fm} {F F' : Hp} {ev ev' : Ev} {σ : L2.St} {H H' : Hp} {ρ ρ' : Nat → Option Addr} {i : Nat} {d : D} {v : V} {ds : List D} {a : Addr} {vs : List V} {s : SV}
theorem sv_set (h : i < ev.length) (j : Nat) : sv (ev.set i s) j = if j = i then s else sv ev j := by
  unfold sv
  by_cases e : j = i
  · subst e; simp [List.getD, h]
  · simp [List.getD, e, List.getElem?_set_ne (Ne.symm e)]
theorem sv_len (h : sv ev i ≠ .un) : i < ev.length := by
  unfold sv at h
  by_cases hi : i < ev.length
  · exact hi
  · exact absurd (by simp [List.getD, List.getElem?_eq_none (Nat.le_of_not_lt hi)]) h
/-- what a slot may own: a list, a dict -/
def Obn (o : HO) : Prop := (∃ vs, o = .lst vs) ∨ ∃ kvs, o = .dT kvs
theorem Rl.ow (R : Rl K M F ev σ H ρ) : ∀ i a, ρ i = some a → ∃ o, H a = some o ∧ Obn o := fun i a h => by
  have e := R.ex i a h
  have q := R.sl i
  revert e q
  cases sv ev i with
  | un => exact fun e _ => e.elim
  | fr d => exact fun e _ => e.elim
  | rw ns => exact fun e _ => e.elim
  | ow ds =>
    intro _ ⟨b, vs, h1, _, h3, _⟩
    rw [h] at h1; cases h1
    exact ⟨_, h3, .inl ⟨vs, rfl⟩⟩
  | dk ks =>
    intro _ ⟨b, vs, h1, _, h3, _⟩
    rw [h] at h1; cases h1
    exact ⟨_, h3, .inr ⟨vs, rfl⟩⟩
theorem Rl.trN (R : Rl K M F ev σ H ρ) : ∀ b, Own M ρ b → Nt H b := fun b h => by
  rcases h with h | ⟨i, h⟩
  · exact R.btr b h
  · obtain ⟨o, e, n⟩ := R.ow i b h
    exact ⟨o, e, fun vs z => by rcases n with ⟨_, n⟩ | ⟨_, n⟩ <;> rw [n] at z <;> cases z⟩
theorem Rl.tr (R : Rl K M F ev σ H ρ) : ∀ b, Own M ρ b → H b ≠ none := fun b h => (R.trN b h).some
/-- a tuple is nobody's -/
theorem Rl.notOwn {ws : List V} (R : Rl K M F ev σ H ρ) {t : Addr} (h : H t = some (.tup ws)) : ¬ Own M ρ t := fun z => by
  obtain ⟨o, e, n⟩ := R.trN t z
  rw [h] at e
  exact n ws (Option.some.inj e).symm
theorem Rl.nown (R : Rl K M F ev σ H ρ) (h : H a = none) : ¬ Own M ρ a := fun z => R.tr a z h
theorem same_tr {b : Addr} (e : Same H H') (h : H b ≠ none) : H' b ≠ none := fun z => h (e.free z)
/-- the heap has grown -/
theorem Rl.same (R : Rl K M F ev σ H ρ) (e : Same H H') : Rl K M F ev σ H' ρ where
  len := R.len
  frz := R.frz.trans e
  ofr := R.ofr
  btr := fun b z => (R.btr b z).mono e
  inj := R.inj
  ex := R.ex
  bx := R.bx
  sl := fun i => by
    have h := R.sl i
    revert h
    cases sv ev i with
    | un => exact id
    | fr d => exact fun ⟨h0, v, h1, h2⟩ => ⟨h0, v, h1, h2.mono (same_hid e)⟩
    | ow ds => exact fun ⟨a, vs, h1, h2, h3, h4⟩ => ⟨a, vs, h1, h2, e _ _ h3, h4.mono (same_hid e)⟩
    | rw ns => exact fun ⟨h0, a, h1, h2⟩ => ⟨h0, a, h1, (same_hid e).seq h2⟩
    | dk ks => exact fun ⟨a, vs, h1, h2, h3, h4⟩ => ⟨a, vs, h1, h2, e _ _ h3, h4⟩
theorem Rl.weak (R : Rl K M F' ev σ H ρ) (e : Same F F') : Rl K M F ev σ H ρ :=
  { R with
    frz := e.trans R.frz
    ofr := fun i a h => ⟨e.free (R.ofr i a h).1, (R.ofr i a h).2⟩ }
theorem own_put_none {b : Addr} (h : Own M (put ρ i none) b) : Own M ρ b := by
  rcases h with h | ⟨j, h⟩
  · exact .inl h
  · unfold put at h
    split at h
    · cases h
    · exact .inr ⟨j, h⟩
/-- a slot is given data -/
theorem Rl.setFr (R : Rl K M F ev σ H ρ) (hi : i < ev.length) (hb : M.β = none ∨ i ≠ 0) (h : Rp K (hd M ρ H) v d) : Rl K M F (ev.set i (.fr d)) (σ.set i (some v)) H (put ρ i none) := by
  have up : Same (hd M ρ H) (hd M (put ρ i none) H) := same_hid_sub fun b z => own_put_none z
  have pn : ∀ {j a}, put ρ i none j = some a → ρ j = some a := fun {j a} e => by
    unfold put at e; split at e
    · cases e
    · exact e
  have pi : ∀ {j a}, put ρ i none j = some a → j ≠ i := fun {j a} e z => by rw [z] at e; unfold put at e; rw [if_pos rfl] at e; cases e
  refine ⟨by simp [R.len], R.frz, fun j a e => R.ofr j a (pn e), R.btr, fun j k a e1 e2 => R.inj j k a (pn e1) (pn e2), fun j a e => by rw [sv_set hi, if_neg (pi e)]; exact R.ex j a (pn e), fun a e => ?_, fun j => ?_⟩
  · have := R.bx a e
    unfold put
    rcases hb with z | z
    · rw [z] at e; cases e
    · rw [if_neg (Ne.symm z)]; exact this
  · rw [sv_set hi]
    by_cases e : j = i
    · subst e
      rw [if_pos rfl]
      exact ⟨if_pos rfl, v, by rw [List.getElem?_set_self (by rw [← R.len]; exact hi)], h.mono up⟩
    · rw [if_neg e]
      have q := R.sl j
      have s1 : (σ.set i (some v))[j]? = σ[j]? := List.getElem?_set_ne (Ne.symm e)
      have s2 : put ρ i none j = ρ j := if_neg e
      revert q
      cases sv ev j with
      | un => exact id
      | fr d => exact fun ⟨h0, v, h1, h2⟩ => ⟨s2.trans h0, v, s1.trans h1, h2.mono up⟩
      | ow ds => exact fun ⟨a, vs, h1, h2, h3, h4⟩ => ⟨a, vs, s2.trans h1, s1.trans h2, h3, h4.mono up⟩
      | rw ns => exact fun ⟨h0, a, h1, h2⟩ => ⟨s2.trans h0, a, s1.trans h1, up.seq h2⟩
      | dk ks => exact fun ⟨a, vs, h1, h2, h3, h4⟩ => ⟨a, vs, s2.trans h1, s1.trans h2, h3, h4⟩
/-- a slot is given a new list, that stands at a -/
theorem Rl.setOb {o : HO} (R : Rl K M F ev σ (rem H a) ρ) (hi : i < ev.length) (hb : M.β = none ∨ i ≠ 0) (ha : H a = some o) (hs : s.own)
    (hsl : put ρ i (some a) i = some a → (σ.set i (some (.ref a)))[i]? = some (some (.ref a)) → Same (hd M ρ (rem H a)) (hd M (put ρ i (some a)) H) → SlotOk K M (σ.set i (some (.ref a))) H (put ρ i (some a)) i s) :
    Rl K M F (ev.set i s) (σ.set i (some (.ref a))) H (put ρ i (some a)) := by
  have na : ∀ {j}, ρ j ≠ some a := fun {j} e => by
    obtain ⟨ws, q, _⟩ := R.ow j a e
    rw [rem_at] at q; cases q
  have fa : F a = none := by
    cases q : F a with
    | none => rfl
    | some o => have := R.frz a o q; rw [rem_at] at this; cases this
  have nb : ¬ M.B a := fun z => (R.btr a z).some rem_at
  have up : Same (hd M ρ (rem H a)) (hd M (put ρ i (some a)) H) := fun b o e => by
    obtain ⟨h1, h2⟩ := hid_some.mp e
    obtain ⟨h3, h4⟩ := rem_some.mp h2
    refine hid_some.mpr ⟨fun z => ?_, h4⟩
    rcases z with z | ⟨j, z⟩
    · exact h1 (.inl z)
    · unfold put at z
      split at z
      · exact h3 (Option.some.inj z).symm
      · exact h1 (.inr ⟨j, z⟩)
  have pn : ∀ {j b}, put ρ i (some a) j = some b → (j = i ∧ b = a) ∨ (j ≠ i ∧ ρ j = some b) := fun {j b} e => by
    unfold put at e; split at e
    · next q => exact .inl ⟨q, (Option.some.inj e).symm⟩
    · next q => exact .inr ⟨q, e⟩
  refine ⟨by simp [R.len], R.frz.trans same_rem, fun j b e => ?_, fun b z => (R.btr b z).mono same_rem, fun j k b e1 e2 => ?_, fun j b e => ?_, fun b e => ?_, fun j => ?_⟩
  · rcases pn e with ⟨_, rfl⟩ | ⟨_, e⟩
    · exact ⟨fa, nb⟩
    · exact R.ofr j b e
  · rcases pn e1 with ⟨p1, p2⟩ | ⟨p1, p2⟩
    · rcases pn e2 with ⟨q1, q2⟩ | ⟨q1, q2⟩
      · exact p1.trans q1.symm
      · exact absurd (by rw [← p2]; exact q2) (na (j := k))
    · rcases pn e2 with ⟨q1, q2⟩ | ⟨q1, q2⟩
      · exact absurd (by rw [← q2]; exact p2) (na (j := j))
      · exact R.inj j k b p2 q2
  · rw [sv_set hi]
    rcases pn e with ⟨z, _⟩ | ⟨z, e⟩
    · rw [if_pos z]; exact hs
    · rw [if_neg z]; exact R.ex j b e
  · have := R.bx b e
    unfold put
    rcases hb with z | z
    · rw [z] at e; cases e
    · rw [if_neg (Ne.symm z)]; exact this
  · rw [sv_set hi]
    by_cases e : j = i
    · subst e
      rw [if_pos rfl]
      exact hsl (if_pos rfl) (by rw [List.getElem?_set_self (by rw [← R.len]; exact hi)]) up
    · rw [if_neg e]
      have q := R.sl j
      have s1 : (σ.set i (some (.ref a)))[j]? = σ[j]? := List.getElem?_set_ne (Ne.symm e)
      have s2 : put ρ i (some a) j = ρ j := if_neg e
      revert q
      cases sv ev j with
      | un => exact id
      | fr d => exact fun ⟨h0, v, h1, h2⟩ => ⟨s2.trans h0, v, s1.trans h1, h2.mono up⟩
      | ow ds => exact fun ⟨b, ws, h1, h2, h3, h4⟩ => ⟨b, ws, s2.trans h1, s1.trans h2, (rem_some.mp h3).2, h4.mono up⟩
      | rw ns => exact fun ⟨h0, a, h1, h2⟩ => ⟨s2.trans h0, a, s1.trans h1, up.seq h2⟩
      | dk ks => exact fun ⟨b, ws, h1, h2, h3, h4⟩ => ⟨b, ws, s2.trans h1, s1.trans h2, (rem_some.mp h3).2, h4⟩
theorem Rl.setOw (R : Rl K M F ev σ (rem H a) ρ) (hi : i < ev.length) (hb : M.β = none ∨ i ≠ 0) (ha : H a = some (.lst vs)) (h : Rps K (hd M ρ (rem H a)) vs ds) :
    Rl K M F (ev.set i (.ow ds)) (σ.set i (some (.ref a))) H (put ρ i (some a)) :=
  R.setOb hi hb ha trivial fun h1 h2 up => ⟨a, vs, h1, h2, ha, h.mono up⟩
theorem Rl.setDk {kvs : List (List L2.Key × V)} (R : Rl K M F ev σ (rem H a) ρ) (hi : i < ev.length) (hb : M.β = none ∨ i ≠ 0) (ha : H a = some (.dT kvs)) :
    Rl K M F (ev.set i (.dk (kvs.map (·.1)))) (σ.set i (some (.ref a))) H (put ρ i (some a)) :=
  R.setOb hi hb ha trivial fun h1 h2 up => ⟨a, kvs, h1, h2, ha, rfl⟩
/-- an owned list is changed -/
theorem Rl.chgOb {o : HO} (R : Rl K M F ev σ H ρ) (hi : ρ i = some a) (ho : (sv ev i).own) (hs : s.own) (hsl : σ[i]? = some (some (.ref a)) → hd M ρ (upd H a o) = hd M ρ H → SlotOk K M σ (upd H a o) ρ i s) : Rl K M F (ev.set i s) σ (upd H a o) ρ ∧ hd M ρ (upd H a o) = hd M ρ H := by
  have he : hd M ρ (upd H a o) = hd M ρ H := by
    funext b
    show hid (Own M ρ) _ b = hid (Own M ρ) _ b
    by_cases z : Own M ρ b
    · rw [hid_in z, hid_in z]
    · rw [hid_out z, hid_out z]
      exact upd_ne fun e => z (.inr ⟨i, by rw [e]; exact hi⟩)
  have hl : i < ev.length := sv_len (by intro z; rw [z] at ho; exact ho)
  refine ⟨⟨by simp [R.len], fun b u q => ?_, R.ofr, fun b z => (R.btr b z).of_eq (upd_ne (fun y => (R.ofr i a hi).2 (by rw [← y]; exact z))), R.inj, fun j b e => ?_, R.bx, fun j => ?_⟩, he⟩
  · have : b ≠ a := fun z => by rw [z, (R.ofr i a hi).1] at q; cases q
    rw [upd_ne this]; exact R.frz b u q
  · rw [sv_set hl]
    by_cases z : j = i
    · rw [if_pos z]; exact hs
    · rw [if_neg z]; exact R.ex j b e
  · rw [sv_set hl]
    by_cases e : j = i
    · subst e
      rw [if_pos rfl]
      have q := R.sl j
      refine hsl ?_ he
      revert q ho
      cases sv ev j with
      | un => exact fun e _ => e.elim
      | fr d => exact fun e _ => e.elim
      | rw ns => exact fun e _ => e.elim
      | ow ds =>
        intro _ ⟨b, ws, h1, h2, h3, h4⟩
        rw [hi] at h1; cases h1
        exact h2
      | dk ds =>
        intro _ ⟨b, ws, h1, h2, h3, h4⟩
        rw [hi] at h1; cases h1
        exact h2
    · rw [if_neg e]
      have q := R.sl j
      revert q
      cases sv ev j with
      | un => exact id
      | fr d => exact fun ⟨h0, v, h1, h2⟩ => ⟨h0, v, h1, by rw [he]; exact h2⟩
      | ow ds => exact fun ⟨b, ws, h1, h2, h3, h4⟩ => ⟨b, ws, h1, h2, by rw [upd_ne (fun z => e (R.inj j i b h1 (by rw [z]; exact hi)))]; exact h3, by rw [he]; exact h4⟩
      | rw ns => exact fun ⟨h0, a, h1, h2⟩ => ⟨h0, a, h1, by rw [he]; exact h2⟩
      | dk ks => exact fun ⟨b, ws, h1, h2, h3, h4⟩ => ⟨b, ws, h1, h2, by rw [upd_ne (fun z => e (R.inj j i b h1 (by rw [z]; exact hi)))]; exact h3, h4⟩
theorem Rl.chg (R : Rl K M F ev σ H ρ) (hi : ρ i = some a) (ho : ∃ es, sv ev i = .ow es) (h : Rps K (hd M ρ H) vs ds) : Rl K M F (ev.set i (.ow ds)) σ (upd H a (.lst vs)) ρ ∧ hd M ρ (upd H a (.lst vs)) = hd M ρ H := by
  obtain ⟨es, ho⟩ := ho
  exact R.chgOb hi (by rw [ho]; trivial) trivial fun h2 he => ⟨a, vs, hi, h2, upd_same, by rw [he]; exact h⟩
theorem Rl.chgDk {kvs : List (List L2.Key × V)} (R : Rl K M F ev σ H ρ) (hi : ρ i = some a) (ho : ∃ es, sv ev i = .dk es) : Rl K M F (ev.set i (.dk (kvs.map (·.1)))) σ (upd H a (.dT kvs)) ρ ∧ hd M ρ (upd H a (.dT kvs)) = hd M ρ H := by
  obtain ⟨es, ho⟩ := ho
  exact R.chgOb hi (by rw [ho]; trivial) trivial fun h2 he => ⟨a, kvs, hi, h2, upd_same, rfl⟩
theorem Rl.getDk {ks : List (List L2.Key)} (R : Rl K M F ev σ H ρ) (h : sv ev i = .dk ks) : ∃ a kvs, ρ i = some a ∧ σ[i]? = some (some (.ref a)) ∧ H a = some (.dT kvs) ∧ kvs.map (·.1) = ks := by
  have q := R.sl i
  rw [h] at q
  exact q
/-- an owned list is let go: it does not change any more -/
theorem Rl.frz1 (R : Rl K M F ev σ H ρ) (hb : M.β = none ∨ i ≠ 0) (ho : sv ev i = .ow ds) : Rl K M F (ev.set i (.fr (.list ds))) σ H (put ρ i none) := by
  have hl : i < ev.length := sv_len (by rw [ho]; exact fun z => nomatch z)
  have q := R.sl i
  rw [ho] at q
  obtain ⟨a, vs, h1, h2, h3, h4⟩ := q
  have up : Same (hd M ρ H) (hd M (put ρ i none) H) := same_hid_sub fun b z => own_put_none z
  have na : ¬ Own M (put ρ i none) a := fun z => by
    rcases z with z | ⟨j, z⟩
    · exact (R.ofr i a h1).2 z
    · unfold put at z
      split at z
      · cases z
      · next e => exact e (R.inj j i a z h1)
  have hr : Rp K (hd M (put ρ i none) H) (.ref a) (.list ds) := .lst (hid_some.mpr ⟨na, h3⟩) (h4.mono up)
  have pn : ∀ {j b}, put ρ i none j = some b → ρ j = some b := fun {j b} e => by
    unfold put at e; split at e
    · cases e
    · exact e
  have pi : ∀ {j b}, put ρ i none j = some b → j ≠ i := fun {j b} e z => by rw [z] at e; unfold put at e; rw [if_pos rfl] at e; cases e
  refine ⟨by simp [R.len], R.frz, fun j b e => R.ofr j b (pn e), R.btr, fun j k b e1 e2 => R.inj j k b (pn e1) (pn e2), fun j b e => by rw [sv_set hl, if_neg (pi e)]; exact R.ex j b (pn e), fun b e => ?_, fun j => ?_⟩
  · have := R.bx b e
    unfold put
    rcases hb with z | z
    · rw [z] at e; cases e
    · rw [if_neg (Ne.symm z)]; exact this
  · rw [sv_set hl]
    by_cases e : j = i
    · subst e
      rw [if_pos rfl]
      exact ⟨if_pos rfl, _, h2, hr⟩
    · rw [if_neg e]
      have q := R.sl j
      have s2 : put ρ i none j = ρ j := if_neg e
      revert q
      cases sv ev j with
      | un => exact id
      | fr d => exact fun ⟨h0, v, h1, h2⟩ => ⟨s2.trans h0, v, h1, h2.mono up⟩
      | ow ds => exact fun ⟨a, vs, h1, h2, h3, h4⟩ => ⟨a, vs, s2.trans h1, h2, h3, h4.mono up⟩
      | rw ns => exact fun ⟨h0, a, h1, h2⟩ => ⟨s2.trans h0, a, h1, up.seq h2⟩
      | dk ks => exact fun ⟨a, vs, h1, h2, h3, h4⟩ => ⟨a, vs, s2.trans h1, h2, h3, h4⟩
theorem Rl.getFr (R : Rl K M F ev σ H ρ) (h : sv ev i = .fr d) : ∃ v, σ[i]? = some (some v) ∧ Rp K (hd M ρ H) v d := by
  have q := R.sl i
  rw [h] at q
  exact q.2
theorem Rl.getSc {ns : List Int} (R : Rl K M F ev σ H ρ) (h : sv ev i = .rw ns) : ∃ a, σ[i]? = some (some (.ref a)) ∧ SqL K (hd M ρ H) a (ns.map V.int) := by
  have q := R.sl i
  rw [h] at q
  exact q.2
theorem Rl.getOw (R : Rl K M F ev σ H ρ) (h : sv ev i = .ow ds) : ∃ a vs, ρ i = some a ∧ σ[i]? = some (some (.ref a)) ∧ H a = some (.lst vs) ∧ Rps K (hd M ρ H) vs ds := by
  have q := R.sl i
  rw [h] at q
  exact q
end
end VL

set_option Elab.async false
set_option linter.all false
set_option maxRecDepth 100000
set_option maxHeartbeats 4000000
/-! The value layer, part B: expressions. -/
namespace VL
open PySem PySem.Spec PyProof.Rows L2
open Classical

/-! ### readings -/
/-- an expression's, a test's, an argument list's reading -/
abbrev VT := Ev → (D → Ev → Prop) → Prop
abbrev VTB := Ev → (Bool → Ev → Prop) → Prop
abbrev VTA := Ev → (List D → Ev → Prop) → Prop
/-- an operation on data -/
abbrev V1 := D → (D → Prop) → Prop
abbrev V2 := D → D → (D → Prop) → Prop
abbrev VN := List D → (D → Prop) → Prop

/-- v stands for d, above what O hides; a list itself may be hidden -/
def RpT (K : PySem.W.Frag) (O : Addr → Prop) (H : Hp) (v : V) (d : D) : Prop := Rp K (hid O H) v d ∨ ∃ a xs ds, v = .ref a ∧ d = .list ds ∧ H a = some (.lst xs) ∧ Rps K (hid O H) xs ds
inductive RpTs (K : PySem.W.Frag) (O : Addr → Prop) (H : Hp) : List V → List D → Prop
  | nil : RpTs K O H [] []
  | cons {v : V} {vs : List V} {d : D} {ds : List D} : RpT K O H v d → RpTs K O H vs ds → RpTs K O H (v :: vs) (d :: ds)
theorem RpTs.of {K : PySem.W.Frag} {O : Addr → Prop} {H : Hp} {vs : List V} {ds : List D} (h : Rps K (hid O H) vs ds) : RpTs K O H vs ds := by
  induction ds generalizing vs with
  | nil => cases h; exact .nil
  | cons d ds ih =>
    cases h with
    | cons h1 h2 => exact .cons (.inl h1) (ih h2)
section
variable (K : PySem.W.Frag) (M : Fm) (F : Hp)
def LE (t : VT) : TE := fun σ H Q => ∃ ev ρ Qv, Rl K M F ev σ H ρ ∧ t ev Qv ∧
  ∀ d ev' v H', Qv d ev' → Rl K M F ev' σ H' ρ → Same (hd M ρ H) (hd M ρ H') → Rp K (hd M ρ H') v d → Q v H'
def LB (t : VTB) : TT := fun σ H Q => ∃ ev ρ Qv, Rl K M F ev σ H ρ ∧ t ev Qv ∧
  ∀ d ev' H', Qv d ev' → Rl K M F ev' σ H' ρ → Same (hd M ρ H) (hd M ρ H') → Q d H'
def LA (n : Nat) (t : VTA) : TA := fun σ H Q => ∃ ev ρ Qv, Rl K M F ev σ H ρ ∧ t ev Qv ∧
  ∀ ds ev' vs H', ds.length = n → Qv ds ev' → Rl K M F ev' σ H' ρ → Same (hd M ρ H) (hd M ρ H') → Rps K (hd M ρ H') vs ds → Q vs H'
/-- a new list at a, that nothing else knows -/
def LO (t : VTA) : TE := fun σ H Q => ∃ ev ρ Qv, Rl K M F ev σ H ρ ∧ t ev Qv ∧
  ∀ ds ev' a vs H', Qv ds ev' → Rl K M F ev' σ (rem H' a) ρ → Same (hd M ρ H) (hd M ρ (rem H' a)) → H' a = some (.lst vs) → Rps K (hd M ρ (rem H' a)) vs ds → Q (.ref a) H'
/-- as LA; a list may be one that a slot owns -/
def LT (t : VTA) : TA := fun σ H Q => ∃ ev ρ Qv, Rl K M F ev σ H ρ ∧ t ev Qv ∧
  ∀ ds ev' vs H', Qv ds ev' → Rl K M F ev' σ H' ρ → Same (hd M ρ H) (hd M ρ H') → RpTs K (Own M ρ) H' vs ds → Q vs H'
end
structure VE (X : Cx) (M : Fm) (e : Expr) (t : VT) : Prop where
  pe : ∀ F, PE X e (LE X.K M F t)
structure VB (X : Cx) (M : Fm) (e : Expr) (t : VTB) : Prop where
  pt : ∀ F, PT X e (LB X.K M F t)
structure VA (X : Cx) (M : Fm) (es : List Expr) (t : VTA) : Prop where
  pa : ∀ F, PA X es (LA X.K M F es.length t)
structure VO (X : Cx) (M : Fm) (e : Expr) (t : VTA) : Prop where
  pe : ∀ F, PE X e (LO X.K M F t)
structure VTs (X : Cx) (M : Fm) (es : List Expr) (t : VTA) : Prop where
  pa : ∀ F, PA X es (LT X.K M F t)

section
variable {X : Cx} {e a b : Expr} {t t' : TE} {pos : Pos} {M : Fm}
theorem peI (h : PE X e t) (k : ∀ σ H Q, t' σ H Q → t σ H Q) : PE X e t' := ⟨fun pins s σ H Q I q => h.run pins s σ H Q I (k σ H Q q)⟩
theorem ptI {t t' : TT} (h : PT X e t) (k : ∀ σ H Q, t' σ H Q → t σ H Q) : PT X e t' := ⟨fun pins s σ H Q I q => h.run pins s σ H Q I (k σ H Q q)⟩
theorem paI {es : List Expr} {t t' : TA} (h : PA X es t) (k : ∀ σ H Q, t' σ H Q → t σ H Q) : PA X es t' := ⟨fun pos pins s σ H Q I q => h.run pos pins s σ H Q I (k σ H Q q)⟩

/-! ### names, constants -/
def vC (d : D) : VT := fun ev Q => Q d ev
def vVar (i : Nat) : VT := fun ev Q => match sv ev i with
  | .fr d => Q d ev
  | _ => False
theorem ve_int {i j} : VE X M (.Constant (.int i) j pos) (vC (.int i)) := ⟨fun F => peI pe_int fun _ H _ ⟨ev, _, _, R, h, k⟩ => k _ ev _ H h R (Same.refl _) (.int i)⟩
theorem ve_bl {i j} : VE X M (.Constant (.bool i) j pos) (vC (.bool i)) := ⟨fun F => peI pe_bl fun _ H _ ⟨ev, _, _, R, h, k⟩ => k _ ev _ H h R (Same.refl _) (.bl i)⟩
theorem ve_non {j} : VE X M (.Constant .none j pos) (vC .none) := ⟨fun F => peI pe_non fun _ H _ ⟨ev, _, _, R, h, k⟩ => k _ ev _ H h R (Same.refl _) .non⟩
theorem ve_str {x j} : VE X M (.Constant (.str x) j pos) (vC (.str x)) := ⟨fun F => peI pe_str fun _ H _ ⟨ev, _, _, R, h, k⟩ => k _ ev _ H h R (Same.refl _) (.str x)⟩
theorem ve_pv {i : Nat} {x : Str} (p : PE X (.Name x pos) (tVar i)) : VE X M (.Name x pos) (vVar i) := ⟨fun F => peI p fun σ H Q ⟨ev, ρ, Qv, R, h, k⟩ => by
  unfold vVar at h
  cases e : sv ev i with
  | fr d =>
    rw [e] at h
    obtain ⟨v, h1, h2⟩ := R.getFr e
    exact ⟨v, h1, k d ev v H h R (Same.refl _) h2⟩
  | un => rw [e] at h; exact h.elim
  | ow _ => rw [e] at h; exact h.elim
  | dk _ => rw [e] at h; exact h.elim
  | rw _ => rw [e] at h; exact h.elim⟩
theorem ve_var (i : Nat) {x : Str} (hN : X.N[i]? = some x := by rfl) (hv : Vis X.env.scope x := by first | exact Or.inl rfl | exact Or.inr (Or.inl rfl) | exact Or.inr (Or.inr rfl)) (hd : (x == ("__debug__" : Str)) = false := by decide)
    (hcd : (x == ("__classdict__" : Str)) = false := by decide) : VE X M (.Name x pos) (vVar i) := ve_pv (pe_var hN hv hd hcd)
/-- a module's constant -/
theorem ve_glob {x : Str} {v : V} {d : D} {u : Value} (hg : Gl X x) (hm : X.mg x = some u) (r : RelV v u) (hr : Rp X.K (fun _ => none) v d) (hdb : (x == ("__debug__" : Str)) = false := by decide) : VE X M (.Name x pos) (vC d) :=
  ⟨fun F => peI (pe_glob hg hm r hdb) fun _ H _ ⟨ev, _, _, R, h, k⟩ => k _ ev _ H h R (Same.refl _) (hr.mono (by intro _ _ z; cases z))⟩

/-! ### argument lists -/
def vNil : VTA := fun ev Q => Q [] ev
def vCons (t : VT) (u : VTA) : VTA := fun ev Q => t ev fun d e1 => u e1 fun ds e2 => Q (d :: ds) e2
theorem va_nil : VA X M [] vNil := ⟨fun F => paI pa_nil fun _ H _ ⟨ev, _, _, R, h, k⟩ => k _ ev _ H rfl h R (Same.refl _) .nil⟩
theorem va_cons {es : List Expr} {t : VT} {u : VTA} (h1 : VE X M e t) (h2 : VA X M es u) (hs : starEach (e :: es) X.env = (false, eval e X.env) :: starEach es X.env := by rfl) : VA X M (e :: es) (vCons t u) :=
  ⟨fun F => paI (pa_cons (h1.pe F) (h2.pa F) hs) fun σ H Q ⟨ev, ρ, Qv, R, h, k⟩ =>
    ⟨ev, ρ, _, R, h, fun d e1 v H1 q1 R1 s1 r1 => ⟨e1, ρ, _, R1, q1, fun ds e2 vs H2 hn q2 R2 s2 r2 => k (d :: ds) e2 _ H2 (congrArg Nat.succ hn) q2 R2 (s1.trans s2) (.cons (r1.mono s2) r2)⟩⟩⟩
/-- one name that is looked at -/
def vLookA (i : Nat) : VTA := fun ev Q => match sv ev i with
  | .fr d => Q [d] ev
  | .ow ds => Q [.list ds] ev
  | _ => False
theorem VA.vt {es : List Expr} {t : VTA} (h : VA X M es t) : VTs X M es t := ⟨fun F => paI (h.pa F) fun σ H Q ⟨ev, ρ, Qv, R, q, k⟩ => ⟨ev, ρ, Qv, R, q, fun ds ev' vs H' _ q R' s r => k ds ev' vs H' q R' s (.of r)⟩⟩
theorem vt_look (i : Nat) {x : Str} (hN : X.N[i]? = some x := by rfl) (hv : Vis X.env.scope x := by first | exact Or.inl rfl | exact Or.inr (Or.inl rfl) | exact Or.inr (Or.inr rfl)) (hd : (x == ("__debug__" : Str)) = false := by decide)
    (hcd : (x == ("__classdict__" : Str)) = false := by decide) (hs : starEach [.Name x pos] X.env = (false, eval (.Name x pos) X.env) :: starEach [] X.env := by rfl) : VTs X M [.Name x pos] (vLookA i) := ⟨fun F => paI (pa_cons (pe_var hN hv hd hcd) pa_nil hs) fun σ H Q ⟨ev, ρ, Qv, R, h, k⟩ => by
  unfold vLookA at h
  cases e : sv ev i with
  | fr d =>
    rw [e] at h
    obtain ⟨v, h1, h2⟩ := R.getFr e
    exact ⟨v, h1, k _ ev _ H h R (Same.refl _) (.cons (.inl h2) .nil)⟩
  | un => rw [e] at h; exact h.elim
  | ow ds =>
    rw [e] at h
    obtain ⟨a, vs, h1, h2, h3, h4⟩ := R.getOw e
    exact ⟨_, h2, k _ ev _ H h R (Same.refl _) (.cons (.inr ⟨a, vs, ds, rfl, rfl, h3, h4⟩) .nil)⟩
  | dk _ => rw [e] at h; exact h.elim
  | rw _ => rw [e] at h; exact h.elim⟩

/-! ### operations by data -/
def OpV (K : PySem.W.Frag) (r : R2) (rv : V2) : Prop := ∀ (O : Addr → Prop) (H : Hp) (x y : V) (dx dy : D) (Q : VK) (Qv : D → Prop), (∀ b, O b → H b ≠ none) → RpT K O H x dx → RpT K O H y dy → rv dx dy Qv →
  (∀ v H' d, Qv d → Same H H' → Rp K (hid O H') v d → Q v H') → r x y H Q
def vBin (rv : V2) (ta tb : VT) : VT := fun ev Q => ta ev fun x e1 => tb e1 fun y e2 => rv x y fun d => Q d e2
/-- the left one is a name that is looked at -/
def vBinL (rv : V2) (i : Nat) (tb : VT) : VT := fun ev Q => match sv ev i with
  | .fr x => tb ev fun y e2 => rv x y fun d => Q d e2
  | .ow _ => tb ev fun y e2 => match sv e2 i with
    | .ow xs => rv (.list xs) y fun d => Q d e2
    | _ => False
  | _ => False
/-- the right one is -/
def vBinR (rv : V2) (ta : VT) (i : Nat) : VT := fun ev Q => ta ev fun x e1 => match sv e1 i with
  | .fr y => rv x y fun d => Q d e1
  | .ow ys => rv x (.list ys) fun d => Q d e1
  | _ => False
theorem ve_bin {r : R2} {rv : V2} {ta tb : VT} (hr : OpV X.K r rv) (mk : ∀ {ta tb : TE}, PE X a ta → PE X b tb → PE X e (tOp r ta tb)) (ha : VE X M a ta) (hb : VE X M b tb) : VE X M e (vBin rv ta tb) :=
  ⟨fun F => peI (mk (ha.pe F) (hb.pe F)) fun σ H Q ⟨ev, ρ, Qv, R, h, k⟩ =>
    ⟨ev, ρ, _, R, h, fun x e1 v1 H1 q1 R1 s1 r1 => ⟨e1, ρ, _, R1, q1, fun y e2 v2 H2 q2 R2 s2 r2 =>
      hr (Own M ρ) H2 v1 v2 x y Q _ R2.tr (.inl (r1.mono s2)) (.inl r2) q2 fun v H' d qd sm rr => k d e2 v H' qd (R2.same sm) ((s1.trans s2).trans (same_hid sm)) rr⟩⟩⟩
theorem ve_binL {r : R2} {rv : V2} {tb : VT} {x : Str} {p : Pos} (i : Nat) (hr : OpV X.K r rv) (mk : ∀ {ta tb : TE}, PE X (.Name x p) ta → PE X b tb → PE X e (tOp r ta tb)) (ha : PE X (.Name x p) (tVar i)) (hb : VE X M b tb) : VE X M e (vBinL rv i tb) :=
  ⟨fun F => peI (mk ha (hb.pe F)) fun σ H Q ⟨ev, ρ, Qv, R, h, k⟩ => by
    unfold vBinL at h
    cases e : sv ev i with
    | fr d =>
      rw [e] at h
      obtain ⟨v, h1, h2⟩ := R.getFr e
      exact ⟨v, h1, ev, ρ, _, R, h, fun y e2 v2 H2 q2 R2 s2 r2 => hr (Own M ρ) H2 v v2 d y Q _ R2.tr (.inl (h2.mono s2)) (.inl r2) q2 fun v H' d qd sm rr => k d e2 v H' qd (R2.same sm) (s2.trans (same_hid sm)) rr⟩
    | un => rw [e] at h; exact h.elim
    | ow ds =>
      rw [e] at h
      obtain ⟨a, vs, h1, h2, h3, h4⟩ := R.getOw e
      refine ⟨_, h2, ev, ρ, _, R, h, fun y e2 v2 H2 q2 R2 s2 r2 => ?_⟩
      cases e' : sv e2 i with
      | ow es =>
        rw [e'] at q2
        obtain ⟨a', vs', g1, g2, g3, g4⟩ := R2.getOw e'
        rw [h1] at g1; cases g1
        exact hr (Own M ρ) H2 _ v2 (.list es) y Q _ R2.tr (.inr ⟨a, vs', es, rfl, rfl, g3, g4⟩) (.inl r2) q2 fun v H' d qd sm rr => k d e2 v H' qd (R2.same sm) (s2.trans (same_hid sm)) rr
      | un => rw [e'] at q2; exact q2.elim
      | fr _ => rw [e'] at q2; exact q2.elim
      | dk _ => rw [e'] at q2; exact q2.elim
      | rw _ => rw [e'] at q2; exact q2.elim
    | dk _ => rw [e] at h; exact h.elim
    | rw _ => rw [e] at h; exact h.elim⟩
theorem ve_binR {r : R2} {rv : V2} {ta : VT} {x : Str} {p : Pos} (i : Nat) (hr : OpV X.K r rv) (mk : ∀ {ta tb : TE}, PE X a ta → PE X (.Name x p) tb → PE X e (tOp r ta tb)) (ha : VE X M a ta) (hb : PE X (.Name x p) (tVar i)) : VE X M e (vBinR rv ta i) :=
  ⟨fun F => peI (mk (ha.pe F) hb) fun σ H Q ⟨ev, ρ, Qv, R, h, k⟩ => by
    refine ⟨ev, ρ, _, R, h, fun y e2 v2 H2 q2 R2 s2 r2 => ?_⟩
    cases e : sv e2 i with
    | fr d =>
      rw [e] at q2
      obtain ⟨v, h1, h2⟩ := R2.getFr e
      exact ⟨v, h1, hr (Own M ρ) H2 v2 v y d Q _ R2.tr (.inl r2) (.inl h2) q2 fun v H' d qd sm rr => k d e2 v H' qd (R2.same sm) (s2.trans (same_hid sm)) rr⟩
    | un => rw [e] at q2; exact q2.elim
    | ow ds =>
      rw [e] at q2
      obtain ⟨a, vs, h1, h2, h3, h4⟩ := R2.getOw e
      exact ⟨_, h2, hr (Own M ρ) H2 v2 _ y (.list ds) Q _ R2.tr (.inl r2) (.inr ⟨a, vs, ds, rfl, rfl, h3, h4⟩) q2 fun v H' d qd sm rr => k d e2 v H' qd (R2.same sm) (s2.trans (same_hid sm)) rr⟩
    | dk _ => rw [e] at q2; exact q2.elim
    | rw _ => rw [e] at q2; exact q2.elim⟩
/-- one operand -/
def UnV (K : PySem.W.Frag) (r : V → Hp → VK → Prop) (rv : V1) : Prop := ∀ (O : Addr → Prop) (H : Hp) (x : V) (dx : D) (Q : VK) (Qv : D → Prop), (∀ b, O b → H b ≠ none) → Rp K (hid O H) x dx → rv dx Qv →
  (∀ v H' d, Qv d → Same H H' → Rp K (hid O H') v d → Q v H') → r x H Q
def vUn (rv : V1) (ta : VT) : VT := fun ev Q => ta ev fun x e1 => rv x fun d => Q d e1
theorem ve_un {r : V → Hp → VK → Prop} {rv : V1} {ta : VT} (hr : UnV X.K r rv) (mk : ∀ {ta : TE}, PE X a ta → PE X e (tUn r ta)) (ha : VE X M a ta) : VE X M e (vUn rv ta) :=
  ⟨fun F => peI (mk (ha.pe F)) fun σ H Q ⟨ev, ρ, Qv, R, h, k⟩ => ⟨ev, ρ, _, R, h, fun x e1 v1 H1 q1 R1 s1 r1 =>
    hr (Own M ρ) H1 v1 x Q _ R1.tr r1 q1 fun v H' d qd sm rr => k d e1 v H' qd (R1.same sm) (s1.trans (same_hid sm)) rr⟩⟩
/-- built-ins -/
def CallV (K : PySem.W.Frag) (r : List V → Hp → VK → Prop) (rv : VN) : Prop := ∀ (O : Addr → Prop) (H : Hp) (xs : List V) (ds : List D) (Q : VK) (Qv : D → Prop), (∀ b, O b → H b ≠ none) → RpTs K O H xs ds → rv ds Qv →
  (∀ v H' d, Qv d → Same H H' → Rp K (hid O H') v d → Q v H') → r xs H Q
def vCall (rv : VN) (ta : VTA) : VT := fun ev Q => ta ev fun xs e1 => rv xs fun d => Q d e1
theorem ve_callC {r : List V → Hp → VK → Prop} {rv : VN} {es : List Expr} {ta : VTA} (hr : CallV X.K r rv) (mk : ∀ {ta : TA}, PA X es ta → PE X e (tCB r ta)) (ha : VTs X M es ta) : VE X M e (vCall rv ta) :=
  ⟨fun F => peI (mk (ha.pa F)) fun σ H Q ⟨ev, ρ, Qv, R, h, k⟩ => ⟨ev, ρ, _, R, h, fun x e1 v1 H1 q1 R1 s1 r1 =>
    hr (Own M ρ) H1 v1 x Q _ R1.tr r1 q1 fun v H' d qd sm rr => k d e1 v H' qd (R1.same sm) (s1.trans (same_hid sm)) rr⟩⟩
/-- built-ins that give a new list -/
def CallO (K : PySem.W.Frag) (r : List V → Hp → VK → Prop) (rv : List D → (List D → Prop) → Prop) : Prop := ∀ (O : Addr → Prop) (H : Hp) (xs : List V) (ds : List D) (Q : VK) (Qv : List D → Prop), (∀ b, O b → H b ≠ none) → RpTs K O H xs ds → rv ds Qv →
  (∀ p ys es, Qv es → H p = none → Rps K (hid O H) ys es → Q (.ref p) (upd H p (.lst ys))) → r xs H Q
def vCallO (rv : List D → (List D → Prop) → Prop) (ta : VTA) : VTA := fun ev Q => ta ev fun xs e1 => rv xs fun ds => Q ds e1
theorem vo_callC {r : List V → Hp → VK → Prop} {rv : List D → (List D → Prop) → Prop} {es : List Expr} {ta : VTA} (hr : CallO X.K r rv) (mk : ∀ {ta : TA}, PA X es ta → PE X e (tCB r ta)) (ha : VTs X M es ta) : VO X M e (vCallO rv ta) :=
  ⟨fun F => peI (mk (ha.pa F)) fun σ H Q ⟨ev, ρ, Qv, R, h, k⟩ => ⟨ev, ρ, _, R, h, fun x e1 v1 H1 q1 R1 s1 r1 =>
    hr (Own M ρ) H1 v1 x Q _ R1.tr r1 q1 fun p ys es q n r => by
      have e := rem_upd (o := .lst ys) n
      exact k es e1 p ys _ q (by rw [e]; exact R1) (by rw [e]; exact s1) upd_same (by rw [e]; exact r)⟩⟩
/-- a new list as data -/
def vOf (t : VTA) : VT := fun ev Q => t ev fun ds e1 => Q (.list ds) e1
theorem VO.ve {t : VTA} (h : VO X M e t) : VE X M e (vOf t) := ⟨fun F => peI (h.pe F) fun σ H Q ⟨ev, ρ, Qv, R, q, k⟩ => ⟨ev, ρ, _, R, q, fun ds e1 a vs H' q R' s hl r => by
    have n := R'.nown (a := a) rem_at
    have up : Same (hd M ρ (rem H' a)) (hd M ρ H') := same_hid same_rem
    exact k (.list ds) e1 (.ref a) H' q (R'.same same_rem) (s.trans up) (.lst (hid_some.mpr ⟨n, hl⟩) (r.mono up))⟩⟩

/-! ### displays -/
def vTup (t : VTA) : VT := fun ev Q => t ev fun ds e1 => Q (.tuple ds) e1
theorem ve_tup {es : List Expr} {k : Nat} {t : VTA} (h : VA X M es t) (hl : es.length ≤ sizeLine := by decide) : VE X M (.Tuple es k pos) (vTup t) :=
  ⟨fun F => peI (pe_tup (h.pa F)) fun σ H Q ⟨ev, ρ, Qv, R, q, k⟩ => ⟨ev, ρ, _, R, q, fun ds e1 vs H1 hn q1 R1 s1 r1 => ⟨by rw [r1.len, hn]; exact hl, fun p n => by
    have sm : Same H1 (upd H1 p (.tup vs)) := same_upd n
    refine k _ e1 _ _ q1 (R1.same sm) (s1.trans (same_hid sm)) (.tup (.inl (.inl (hid_some.mpr ⟨R1.nown n, upd_same⟩))) (r1.mono (same_hid sm)))⟩⟩⟩
theorem vo_lst {es : List Expr} {t : VTA} (h : VA X M es t) (hl : es.length ≤ sizeLine := by decide) : VO X M (.List es pos) t :=
  ⟨fun F => peI (pe_lst (h.pa F)) fun σ H Q ⟨ev, ρ, Qv, R, q, k⟩ => ⟨ev, ρ, _, R, q, fun ds e1 vs H1 hn q1 R1 s1 r1 => ⟨by rw [r1.len, hn]; exact hl, fun p n => by
    have e := rem_upd (o := .lst vs) n
    exact k ds e1 p vs _ q1 (by rw [e]; exact R1) (by rw [e]; exact s1) upd_same (by rw [e]; exact r1)⟩⟩⟩
end
end VL

set_option Elab.async false
set_option linter.all false
set_option maxRecDepth 100000
set_option maxHeartbeats 4000000
/-! The value layer, part C: tests, statements, loops, defs. -/
namespace VL
open PySem PySem.Spec PyProof.Rows L2
open Classical

section
variable {X : Cx} {e a b c : Expr} {pos : Pos} {M : Fm}
/-! ### tests -/
/-- a bool as a test -/
def vB (t : VT) : VTB := fun ev Q => t ev fun d e1 => match d with
  | .bool k => Q k e1
  | _ => False
theorem vb_of {t : VT} {tt : TE} (mk : ∀ {te : TE}, PE X e te → PT X e (tB te)) (h : VE X M e t) : VB X M e (vB t) :=
  ⟨fun F => ptI (mk (h.pe F)) fun σ H Q ⟨ev, ρ, Qv, R, q, k⟩ => ⟨ev, ρ, _, R, q, fun d e1 v H1 q1 R1 s1 r1 => by
    cases d with
    | bool z => cases r1; exact ⟨z, rfl, k z e1 H1 q1 R1 s1⟩
    | _ => exact q1.elim⟩⟩
def vTestBin (rv : V2) (ta tb : VT) : VTB := vB (vBin rv ta tb)
/-- a comparison as a test -/
theorem vb_cmp {op : CmpOp} {r : R2} {rv : V2} {ta tb : VT} (ho : OpR X (compareOp op) r) (hr : OpV X.K r rv) (hm : behindInMarks op b = false) (ha : VE X M a ta) (hb : VE X M b tb) : VB X M (.Compare a [op] [b] pos) (vB (vBin rv ta tb)) :=
  ⟨fun F => ptI (pt_cmpR ho (ha.pe F) (hb.pe F) hm) fun σ H Q ⟨ev, ρ, Qv, R, h, k⟩ =>
    ⟨ev, ρ, _, R, h, fun x e1 v1 H1 q1 R1 s1 r1 => ⟨e1, ρ, _, R1, q1, fun y e2 v2 H2 q2 R2 s2 r2 =>
      hr (Own M ρ) H2 v1 v2 x y _ _ R2.tr (.inl (r1.mono s2)) (.inl r2) q2 fun v H' d qd sm rr => by
        cases d with
        | bool z => cases rr; exact ⟨z, rfl, k z e2 H' qd (R2.same sm) ((s1.trans s2).trans (same_hid sm))⟩
        | _ => exact qd.elim⟩⟩⟩
theorem vb_cmpL {op : CmpOp} {r : R2} {rv : V2} {tb : VT} {x : Str} {p : Pos} (i : Nat) (ho : OpR X (compareOp op) r) (hr : OpV X.K r rv) (hm : behindInMarks op b = false) (ha : PE X (.Name x p) (tVar i)) (hb : VE X M b tb) : VB X M (.Compare (.Name x p) [op] [b] pos) (vB (vBinL rv i tb)) :=
  ⟨fun F => ptI (pt_cmpR ho ha (hb.pe F) hm) fun σ H Q ⟨ev, ρ, Qv, R, h, k⟩ => by
    unfold vB vBinL at h
    cases e : sv ev i with
    | fr d =>
      rw [e] at h
      obtain ⟨v, h1, h2⟩ := R.getFr e
      refine ⟨v, h1, ev, ρ, _, R, h, fun y e2 v2 H2 q2 R2 s2 r2 => hr (Own M ρ) H2 v v2 d y _ _ R2.tr (.inl (h2.mono s2)) (.inl r2) q2 fun v H' d qd sm rr => ?_⟩
      cases d with
      | bool z => cases rr; exact ⟨z, rfl, k z e2 H' qd (R2.same sm) (s2.trans (same_hid sm))⟩
      | _ => exact qd.elim
    | un => rw [e] at h; exact h.elim
    | ow ds =>
      rw [e] at h
      obtain ⟨a, vs, h1, h2, h3, h4⟩ := R.getOw e
      refine ⟨_, h2, ev, ρ, _, R, h, fun y e2 v2 H2 q2 R2 s2 r2 => ?_⟩
      cases e' : sv e2 i with
      | ow es =>
        rw [e'] at q2
        obtain ⟨a', vs', g1, g2, g3, g4⟩ := R2.getOw e'
        rw [h1] at g1; cases g1
        refine hr (Own M ρ) H2 _ v2 (.list es) y _ _ R2.tr (.inr ⟨a, vs', es, rfl, rfl, g3, g4⟩) (.inl r2) q2 fun v H' d qd sm rr => ?_
        cases d with
        | bool z => cases rr; exact ⟨z, rfl, k z e2 H' qd (R2.same sm) (s2.trans (same_hid sm))⟩
        | _ => exact qd.elim
      | un => rw [e'] at q2; exact q2.elim
      | fr _ => rw [e'] at q2; exact q2.elim
      | dk _ => rw [e'] at q2; exact q2.elim
      | rw _ => rw [e'] at q2; exact q2.elim
    | dk _ => rw [e] at h; exact h.elim
    | rw _ => rw [e] at h; exact h.elim⟩
theorem vb_cmpR {op : CmpOp} {r : R2} {rv : V2} {ta : VT} {x : Str} {p : Pos} (i : Nat) (ho : OpR X (compareOp op) r) (hr : OpV X.K r rv) (hm : behindInMarks op (.Name x p) = false) (ha : VE X M a ta) (hb : PE X (.Name x p) (tVar i)) : VB X M (.Compare a [op] [.Name x p] pos) (vB (vBinR rv ta i)) :=
  ⟨fun F => ptI (pt_cmpR ho (ha.pe F) hb hm) fun σ H Q ⟨ev, ρ, Qv, R, h, k⟩ => by
    refine ⟨ev, ρ, _, R, h, fun y e2 v2 H2 q2 R2 s2 r2 => ?_⟩
    cases e : sv e2 i with
    | fr d =>
      rw [e] at q2
      obtain ⟨v, h1, h2⟩ := R2.getFr e
      refine ⟨v, h1, hr (Own M ρ) H2 v2 v y d _ _ R2.tr (.inl r2) (.inl h2) q2 fun v H' d qd sm rr => ?_⟩
      cases d with
      | bool z => cases rr; exact ⟨z, rfl, k z e2 H' qd (R2.same sm) (s2.trans (same_hid sm))⟩
      | _ => exact qd.elim
    | un => rw [e] at q2; exact q2.elim
    | ow ds =>
      rw [e] at q2
      obtain ⟨a, vs, h1, h2, h3, h4⟩ := R2.getOw e
      refine ⟨_, h2, hr (Own M ρ) H2 v2 _ y (.list ds) _ _ R2.tr (.inl r2) (.inr ⟨a, vs, ds, rfl, rfl, h3, h4⟩) q2 fun v H' d qd sm rr => ?_⟩
      cases d with
      | bool z => cases rr; exact ⟨z, rfl, k z e2 H' qd (R2.same sm) (s2.trans (same_hid sm))⟩
      | _ => exact qd.elim
    | dk _ => rw [e] at q2; exact q2.elim
    | rw _ => rw [e] at q2; exact q2.elim⟩
/-- a op1 b op2 c -/
def vChain (rv rv' : V2) (ta tb tc : VT) : VT := fun ev Q => ta ev fun x e1 => tb e1 fun y e2 => rv x y fun d => match d with
  | .bool true => tc e2 fun z e3 => rv' y z fun d => Q d e3
  | .bool false => Q (.bool false) e2
  | _ => False
theorem ve_chain {op op' : CmpOp} {r r' : R2} {rv rv' : V2} {ta tb tc : VT} (ho : OpR X (compareOp op) r) (ho' : OpR X (compareOp op') r') (hr : OpV X.K r rv) (hr' : OpV X.K r' rv') (ha : VE X M a ta) (hb : VE X M b tb) (hc : VE X M c tc)
    (hm : lastMarks [op, op'] [b, c] = false := by with_unfolding_all rfl) : VE X M (.Compare a [op, op'] [b, c] pos) (vChain rv rv' ta tb tc) :=
  ⟨fun F => peI (pe_chain ho ho' (ha.pe F) (hb.pe F) (hc.pe F) hm) fun σ H Q ⟨ev, ρ, Qv, R, h, k⟩ =>
    ⟨ev, ρ, _, R, h, fun x e1 v1 H1 q1 R1 s1 r1 => ⟨e1, ρ, _, R1, q1, fun y e2 v2 H2 q2 R2 s2 r2 =>
      hr (Own M ρ) H2 v1 v2 x y _ _ R2.tr (.inl (r1.mono s2)) (.inl r2) q2 fun v H3 d qd sm rr => by
        have R3 := R2.same sm
        have s3 := (s1.trans s2).trans (same_hid sm)
        cases d with
        | bool z =>
          cases rr
          refine ⟨z, rfl, ?_⟩
          cases z with
          | false => exact k _ e2 _ H3 qd R3 s3 (.bl false)
          | true => exact ⟨e2, ρ, _, R3, qd, fun z e3 v3 H4 q4 R4 s4 r4 => hr' (Own M ρ) H4 v2 v3 y z _ _ R4.tr (.inl ((r2.mono (same_hid sm)).mono s4)) (.inl r4) q4 fun v H5 d q5 sm5 r5 => k d e3 v H5 q5 (R4.same sm5) ((s3.trans s4).trans (same_hid sm5)) r5⟩
        | _ => exact qd.elim⟩⟩⟩
theorem vb_chain {op op' : CmpOp} {r r' : R2} {rv rv' : V2} {ta tb tc : VT} (ho : OpR X (compareOp op) r) (ho' : OpR X (compareOp op') r') (hr : OpV X.K r rv) (hr' : OpV X.K r' rv') (ha : VE X M a ta) (hb : VE X M b tb) (hc : VE X M c tc)
    (hm : lastMarks [op, op'] [b, c] = false := by with_unfolding_all rfl) : VB X M (.Compare a [op, op'] [b, c] pos) (vB (vChain rv rv' ta tb tc)) :=
  ⟨fun F => ptI (pt_chain ho ho' (ha.pe F) (hb.pe F) (hc.pe F) hm) fun σ H Q ⟨ev, ρ, Qv, R, h, k⟩ =>
    ⟨ev, ρ, _, R, h, fun x e1 v1 H1 q1 R1 s1 r1 => ⟨e1, ρ, _, R1, q1, fun y e2 v2 H2 q2 R2 s2 r2 =>
      hr (Own M ρ) H2 v1 v2 x y _ _ R2.tr (.inl (r1.mono s2)) (.inl r2) q2 fun v H3 d qd sm rr => by
        have R3 := R2.same sm
        have s3 := (s1.trans s2).trans (same_hid sm)
        cases d with
        | bool z =>
          cases rr
          refine ⟨z, rfl, ?_⟩
          cases z with
          | false => exact ⟨false, rfl, k _ e2 H3 qd R3 s3⟩
          | true => exact ⟨e2, ρ, _, R3, qd, fun z e3 v3 H4 q4 R4 s4 r4 => hr' (Own M ρ) H4 v2 v3 y z _ _ R4.tr (.inl ((r2.mono (same_hid sm)).mono s4)) (.inl r4) q4 fun v H5 d q5 sm5 r5 => by
              cases d with
              | bool w => cases r5; exact ⟨w, rfl, k w e3 H5 q5 (R4.same sm5) ((s3.trans s4).trans (same_hid sm5))⟩
              | _ => exact q5.elim⟩
        | _ => exact qd.elim⟩⟩⟩
/-- the truth of a value -/
def truD (d : D) (Q : Bool → Prop) : Prop := match d with
  | .none => Q false
  | .bool k => Q k
  | .int i => Q (i != 0)
  | .list ds => Q (!ds.isEmpty)
  | .tuple ds => Q (!ds.isEmpty)
  | _ => False
def vTru (t : VT) : VTB := fun ev Q => t ev fun d e1 => truD d fun k => Q k e1
theorem truD_ok {K : PySem.W.Frag} {H : Hp} {v : V} {d : D} {Q : Bool → Prop} (r : Rp K H v d) (q : truD d Q) : ∃ k, TruV K v H k ∧ Q k := by
  cases r with
  | non => exact ⟨_, rfl, q⟩
  | bl b => exact ⟨_, rfl, q⟩
  | int i => exact ⟨_, rfl, q⟩
  | str x => exact q.elim
  | lst h a => exact ⟨_, .inl ⟨_, SqL.of h, rfl⟩, by rw [a.empty]; exact q⟩
  | tup h a => exact ⟨_, .inr (.inl ⟨_, h, rfl⟩), by rw [a.empty]; exact q⟩
theorem vb_tru {t : VT} (ha : VE X M a t) (he : ∀ whole, isTrue a X.env whole = (do let v ← whole; standAt a.pos; holding [v] (truthy v)) := by intro _; rfl) : VB X M a (vTru t) :=
  ⟨fun F => ptI (pt_truth (ha.pe F) he) fun σ H Q ⟨ev, ρ, Qv, R, q, k⟩ => ⟨ev, ρ, _, R, q, fun d e1 v H1 q1 R1 s1 r1 =>
    let ⟨z, h1, h2⟩ := truD_ok (r1.mono same_hid_of) q1
    ⟨z, h1, k z e1 H1 h2 R1 s1⟩⟩⟩
/-- .. of a list that a slot owns -/
def vTruO (i : Nat) : VTB := fun ev Q => match sv ev i with
  | .ow ds => Q (!ds.isEmpty) ev
  | .fr d => truD d fun k => Q k ev
  | _ => False
theorem vb_truO {x : Str} (i : Nat) (ha : PE X (.Name x pos) (tVar i)) (he : ∀ whole, isTrue (.Name x pos) X.env whole = (do let v ← whole; standAt pos; holding [v] (truthy v)) := by intro _; rfl) : VB X M (.Name x pos) (vTruO i) :=
  ⟨fun F => ptI (pt_truth ha he) fun σ H Q ⟨ev, ρ, Qv, R, h, k⟩ => by
    unfold vTruO at h
    cases e : sv ev i with
    | fr d =>
      rw [e] at h
      obtain ⟨v, h1, h2⟩ := R.getFr e
      obtain ⟨z, g1, g2⟩ := truD_ok (h2.mono same_hid_of) h
      exact ⟨v, h1, z, g1, k z ev H g2 R (Same.refl _)⟩
    | un => rw [e] at h; exact h.elim
    | ow ds =>
      rw [e] at h
      obtain ⟨a, vs, h1, h2, h3, h4⟩ := R.getOw e
      exact ⟨_, h2, _, .inl ⟨_, SqL.of h3, rfl⟩, k _ ev H (by rw [h4.empty]; exact h) R (Same.refl _)⟩
    | dk _ => rw [e] at h; exact h.elim
    | rw _ => rw [e] at h; exact h.elim⟩
/-- and, or, not -/
def vAnd (t u : VTB) : VTB := fun ev Q => t ev fun c e1 => match c with
  | true => u e1 Q
  | false => Q false e1
def vOr (t u : VTB) : VTB := fun ev Q => t ev fun c e1 => match c with
  | true => Q true e1
  | false => u e1 Q
def vNot (t : VTB) : VTB := fun ev Q => t ev fun c e1 => Q (!c) e1
structure VW (X : Cx) (M : Fm) (e : Expr) (t : VTB) : Prop where
  pw : ∀ F, PW X e (LB X.K M F t)
theorem pwI {t t' : TT} (h : PW X e t) (k : ∀ σ H Q, t' σ H Q → t σ H Q) : PW X e t' := ⟨fun w pins s σ H Q I q => h.run w pins s σ H Q I (k σ H Q q)⟩
theorem VW.vb {t : VTB} (h : VW X M e t) : VB X M e t := ⟨fun F => (h.pw F).pt⟩
theorem vw_and1 {t : VTB} (h : VB X M a t) : VW X M (.BoolOp .And [a] pos) t := ⟨fun F => pw_and1 (h.pt F)⟩
theorem vw_or1 {t : VTB} (h : VB X M a t) : VW X M (.BoolOp .Or [a] pos) t := ⟨fun F => pw_or1 (h.pt F)⟩
theorem vw_and {t u : VTB} {rest : List Expr} (h : VB X M a t) (h2 : VW X M (.BoolOp .And (b :: rest) pos) u) : VW X M (.BoolOp .And (a :: b :: rest) pos) (vAnd t u) :=
  ⟨fun F => pwI (pw_and (h.pt F) (h2.pw F)) fun σ H Q ⟨ev, ρ, Qv, R, q, k⟩ => ⟨ev, ρ, _, R, q, fun c e1 H1 q1 R1 s1 => by
    cases c with
    | true => exact ⟨e1, ρ, _, R1, q1, fun d e2 H2 q2 R2 s2 => k d e2 H2 q2 R2 (s1.trans s2)⟩
    | false => exact k false e1 H1 q1 R1 s1⟩⟩
theorem vw_or {t u : VTB} {rest : List Expr} (h : VB X M a t) (h2 : VW X M (.BoolOp .Or (b :: rest) pos) u) : VW X M (.BoolOp .Or (a :: b :: rest) pos) (vOr t u) :=
  ⟨fun F => pwI (pw_or (h.pt F) (h2.pw F)) fun σ H Q ⟨ev, ρ, Qv, R, q, k⟩ => ⟨ev, ρ, _, R, q, fun c e1 H1 q1 R1 s1 => by
    cases c with
    | false => exact ⟨e1, ρ, _, R1, q1, fun d e2 H2 q2 R2 s2 => k d e2 H2 q2 R2 (s1.trans s2)⟩
    | true => exact k true e1 H1 q1 R1 s1⟩⟩
theorem vb_not {t : VTB} (h : VB X M a t) : VB X M (.UnaryOp .Not a pos) (vNot t) :=
  ⟨fun F => ptI (pt_not (h.pt F)) fun σ H Q ⟨ev, ρ, Qv, R, q, k⟩ => ⟨ev, ρ, _, R, q, fun c e1 H1 q1 R1 s1 => k _ e1 H1 q1 R1 s1⟩⟩
/-- .. as values, of bools -/
def vAndV (t u : VT) : VT := fun ev Q => t ev fun d e1 => match d with
  | .bool true => u e1 Q
  | .bool false => Q (.bool false) e1
  | _ => False
def vOrV (t u : VT) : VT := fun ev Q => t ev fun d e1 => match d with
  | .bool true => Q (.bool true) e1
  | .bool false => u e1 Q
  | _ => False
def vNotV (t : VT) : VT := fun ev Q => t ev fun d e1 => match d with
  | .bool k => Q (.bool (!k)) e1
  | _ => False
theorem ve_one {op} {t : VT} (h : VE X M a t) : VE X M (.BoolOp op [a] pos) t := ⟨fun F => pe_one (h.pe F)⟩
theorem ve_and {t u : VT} {rest : List Expr} (h : VE X M a t) (h2 : VE X M (.BoolOp .And (b :: rest) pos) u) : VE X M (.BoolOp .And (a :: b :: rest) pos) (vAndV t u) :=
  ⟨fun F => peI (pe_and (h.pe F) (h2.pe F)) fun σ H Q ⟨ev, ρ, Qv, R, q, k⟩ => ⟨ev, ρ, _, R, q, fun d e1 v H1 q1 R1 s1 r1 => by
    cases d with
    | bool z =>
      cases r1
      refine ⟨z, rfl, ?_⟩
      cases z with
      | true => exact ⟨e1, ρ, _, R1, q1, fun d e2 v H2 q2 R2 s2 r2 => k d e2 v H2 q2 R2 (s1.trans s2) r2⟩
      | false => exact k _ e1 _ H1 q1 R1 s1 (.bl false)
    | _ => exact q1.elim⟩⟩
theorem ve_or {t u : VT} {rest : List Expr} (h : VE X M a t) (h2 : VE X M (.BoolOp .Or (b :: rest) pos) u) : VE X M (.BoolOp .Or (a :: b :: rest) pos) (vOrV t u) :=
  ⟨fun F => peI (pe_or (h.pe F) (h2.pe F)) fun σ H Q ⟨ev, ρ, Qv, R, q, k⟩ => ⟨ev, ρ, _, R, q, fun d e1 v H1 q1 R1 s1 r1 => by
    cases d with
    | bool z =>
      cases r1
      refine ⟨z, rfl, ?_⟩
      cases z with
      | false => exact ⟨e1, ρ, _, R1, q1, fun d e2 v H2 q2 R2 s2 r2 => k d e2 v H2 q2 R2 (s1.trans s2) r2⟩
      | true => exact k _ e1 _ H1 q1 R1 s1 (.bl true)
    | _ => exact q1.elim⟩⟩
theorem ve_not {t : VT} (h : VE X M a t) : VE X M (.UnaryOp .Not a pos) (vNotV t) :=
  ⟨fun F => peI (pe_not (h.pe F)) fun σ H Q ⟨ev, ρ, Qv, R, q, k⟩ => ⟨ev, ρ, _, R, q, fun d e1 v H1 q1 R1 s1 r1 => by
    cases d with
    | bool z => cases r1; exact ⟨z, rfl, k _ e1 _ H1 q1 R1 s1 (.bl _)⟩
    | _ => exact q1.elim⟩⟩
/-- a if c else b -/
def vIf (t : VTB) (u w : VT) : VT := fun ev Q => t ev fun c e1 => match c with
  | true => u e1 Q
  | false => w e1 Q
theorem ve_if {t : VTB} {u w : VT} (hc : VB X M c t) (ha : VE X M a u) (hb : VE X M b w) : VE X M (.IfExp c a b pos) (vIf t u w) :=
  ⟨fun F => peI (pe_ifExp (hc.pt F) (ha.pe F) (hb.pe F)) fun σ H Q ⟨ev, ρ, Qv, R, q, k⟩ => ⟨ev, ρ, _, R, q, fun z e1 H1 q1 R1 s1 => by
    cases z with
    | true => exact ⟨e1, ρ, _, R1, q1, fun d e2 v H2 q2 R2 s2 r2 => k d e2 v H2 q2 R2 (s1.trans s2) r2⟩
    | false => exact ⟨e1, ρ, _, R1, q1, fun d e2 v H2 q2 R2 s2 r2 => k d e2 v H2 q2 R2 (s1.trans s2) r2⟩⟩⟩
end
end VL

set_option Elab.async false
set_option linter.all false
set_option maxRecDepth 100000
set_option maxHeartbeats 4000000
/-! The value layer, part D: statements, loops, defs. -/
namespace VL
open PySem PySem.Spec PyProof.Rows L2
open Classical

structure VEnds where
  nx : Ev → Prop
  rt : D → Ev → Prop
  bk : Ev → Prop := fun _ => False
  ct : Ev → Prop := fun _ => False
abbrev VS := VEnds → Ev → Prop
abbrev VG := D → Ev → (Ev → Prop) → Prop
abbrev VGs := List D → Ev → (Ev → Prop) → Prop

section
variable (K : PySem.W.Frag) (M : Fm) (F : Hp)
/-- what the ends by data say of the ends by values -/
structure Post (D' : VEnds) (D : Ends) : Prop where
  nx : ∀ ev σ H ρ, D'.nx ev → Rl K M F ev σ H ρ → D.nx σ H
  rt : ∀ d v ev σ H ρ, D'.rt d ev → Rl K M F ev σ H ρ → Rp K (hd M ρ H) v d → D.rt v H
  bk : ∀ ev σ H ρ, D'.bk ev → Rl K M F ev σ H ρ → D.bk σ H
  ct : ∀ ev σ H ρ, D'.ct ev → Rl K M F ev σ H ρ → D.ct σ H
def LS (t : VS) : TS := fun D σ H => ∃ ev ρ D', Rl K M F ev σ H ρ ∧ t D' ev ∧ Post K M F D' D
/-- fewer owners, but for slots among vs the same -/
def Fewer (vs : List Nat) (ρ' ρ : Nat → Option Addr) : Prop := (∀ j a, ρ' j = some a → ρ j = some a) ∧ ∀ j, j ∉ vs → ρ' j = ρ j
theorem Fewer.refl {vs : List Nat} {ρ : Nat → Option Addr} : Fewer vs ρ ρ := ⟨fun _ _ h => h, fun _ _ => rfl⟩
theorem Fewer.trans {vs : List Nat} {ρ ρ1 ρ2 : Nat → Option Addr} (a : Fewer vs ρ2 ρ1) (b : Fewer vs ρ1 ρ) : Fewer vs ρ2 ρ := ⟨fun j x h => b.1 j x (a.1 j x h), fun j h => (a.2 j h).trans (b.2 j h)⟩
theorem Fewer.put {vs : List Nat} {ρ : Nat → Option Addr} {i : Nat} (h : i ∈ vs) : Fewer vs (put ρ i none) ρ := ⟨fun j a e => by
  unfold VL.put at e; split at e
  · cases e
  · exact e, fun j hj => if_neg fun e => hj (by rw [e]; exact h)⟩
theorem Fewer.eq {vs : List Nat} {ρ ρ' : Nat → Option Addr} (h : Fewer vs ρ' ρ) (n : ∀ i ∈ vs, ρ i = none) : ρ' = ρ := by
  funext j
  by_cases hj : j ∈ vs
  · rw [n j hj]
    cases e : ρ' j with
    | none => rfl
    | some a => have := h.1 j a e; rw [n j hj] at this; cases this
  · exact h.2 j hj
/-- a target; the slots it may set are among vs -/
def LG (vs : List Nat) (g : VG) : TG := fun v σ H Q => ∃ d ev ρ Qv, Rl K M F ev σ H ρ ∧ Rp K (hd M ρ H) v d ∧ g d ev Qv ∧
  ∀ ev' σ' H' ρ', Qv ev' → Rl K M F ev' σ' H' ρ' → Same (hd M ρ H) (hd M ρ' H') → wipe σ' vs = wipe σ vs → Fewer vs ρ' ρ → Q σ' H'
def LGs (vs : List Nat) (g : VGs) : TGs := fun ws σ H Q => ∃ ds ev ρ Qv, Rl K M F ev σ H ρ ∧ Rps K (hd M ρ H) ws ds ∧ g ds ev Qv ∧
  ∀ ev' σ' H' ρ', Qv ev' → Rl K M F ev' σ' H' ρ' → Same (hd M ρ H) (hd M ρ' H') → wipe σ' vs = wipe σ vs → Fewer vs ρ' ρ → Q σ' H'
end
structure VSt (X : Cx) (M : Fm) (s : Stmt) (t : VS) : Prop where
  ps : ∀ F, PS X s (LS X.K M F t)
structure VSs (X : Cx) (M : Fm) (s : List Stmt) (t : VS) : Prop where
  ps : ∀ F, PSs X s (LS X.K M F t)
structure VTg (X : Cx) (M : Fm) (vs : List Nat) (e : Expr) (t : VG) : Prop where
  pg : ∀ F, PG X e (LG X.K M F vs t)
structure VTgs (X : Cx) (M : Fm) (vs : List Nat) (es : List Expr) (t : VGs) : Prop where
  pg : ∀ F, PGs X es (LGs X.K M F vs t)

section
variable {X : Cx} {e a b c : Expr} {pos : Pos} {M : Fm} {st : Stmt} {rest : List Stmt}
theorem psI {s : Stmt} {t t' : TS} (h : PS X s t) (k : ∀ D σ H, t' D σ H → t D σ H) : PS X s t' := ⟨fun pins s σ H D I q => h.run pins s σ H D I (k D σ H q)⟩
theorem pssI {s : List Stmt} {t t' : TS} (h : PSs X s t) (k : ∀ D σ H, t' D σ H → t D σ H) : PSs X s t' := ⟨fun pins s σ H D I q => h.run pins s σ H D I (k D σ H q)⟩
theorem pgI {t t' : TG} (h : PG X e t) (k : ∀ v σ H Q, t' v σ H Q → t v σ H Q) : PG X e t' := ⟨fun pins s σ H v u Q I r q => h.run pins s σ H v u Q I r (k v σ H Q q)⟩
theorem pgsI {es : List Expr} {t t' : TGs} (h : PGs X es t) (k : ∀ v σ H Q, t' v σ H Q → t v σ H Q) : PGs X es t' := ⟨fun pins s σ H v u Q I r q => h.run pins s σ H v u Q I r (k v σ H Q q)⟩

/-! ### blocks -/
def vNext : VS := fun D ev => D.nx ev
def vSeq (t u : VS) : VS := fun D ev => t { D with nx := u D } ev
theorem vs_nil : VSs X M [] vNext := ⟨fun F => pssI pss_nil fun D σ H ⟨ev, ρ, D', R, h, k⟩ => k.nx ev σ H ρ h R⟩
theorem vs_cons {t u : VS} (h1 : VSt X M st t) (h2 : VSs X M rest u) : VSs X M (st :: rest) (vSeq t u) :=
  ⟨fun F => pssI (pss_cons (h1.ps F) (h2.ps F)) fun D σ H ⟨ev, ρ, D', R, h, k⟩ => ⟨ev, ρ, _, R, h, fun e1 σ1 H1 ρ1 q1 R1 => ⟨e1, ρ1, D', R1, q1, k⟩, k.rt, k.bk, k.ct⟩⟩
theorem vs_one {t : VS} (h1 : VSt X M st t) : VSs X M [st] t := ⟨fun F => pss_one (h1.ps F)⟩
def vNever : VS := fun _ _ => False
theorem vs_never : VSt X M st vNever := ⟨fun F => psI ps_never fun D σ H ⟨_, _, _, _, h, _⟩ => h⟩
theorem vss_never {sts : List Stmt} : VSs X M sts vNever := ⟨fun F => pssI pss_never fun D σ H ⟨_, _, _, _, h, _⟩ => h⟩
def vBrk : VS := fun D ev => D.bk ev
def vCnt : VS := fun D ev => D.ct ev
theorem vs_break : VSt X M (.Break pos) vBrk := ⟨fun F => psI ps_break fun D σ H ⟨ev, ρ, D', R, h, k⟩ => k.bk ev σ H ρ h R⟩
theorem vs_cont : VSt X M (.Continue pos) vCnt := ⟨fun F => psI ps_continue fun D σ H ⟨ev, ρ, D', R, h, k⟩ => k.ct ev σ H ρ h R⟩
theorem vs_pass : VSt X M (.Pass pos) vNext := ⟨fun F => psI ps_pass fun D σ H ⟨ev, ρ, D', R, h, k⟩ => k.nx ev σ H ρ h R⟩
def vDrop (t : VT) : VS := fun D ev => t ev fun _ e1 => D.nx e1
theorem vs_expr {t : VT} (h : VE X M e t) (hs : swapsWith e none pos.line X.env = pure false := by rfl) : VSt X M (.Expr e pos) (vDrop t) :=
  ⟨fun F => psI (ps_expr (h.pe F) hs) fun D σ H ⟨ev, ρ, D', R, h, k⟩ => ⟨ev, ρ, _, R, h, fun d e1 v H1 q1 R1 s1 r1 => k.nx e1 σ H1 ρ q1 R1⟩⟩
def vRet (t : VT) : VS := fun D ev => t ev D.rt
theorem vs_ret {t : VT} (h : VE X M e t) : VSt X M (.Return (some e) pos) (vRet t) :=
  ⟨fun F => psI (ps_ret (h.pe F)) fun D σ H ⟨ev, ρ, D', R, h, k⟩ => ⟨ev, ρ, _, R, h, fun d e1 v H1 q1 R1 s1 r1 => k.rt d v e1 σ H1 ρ q1 R1 r1⟩⟩
def vRetN : VS := fun D ev => D.rt .none ev
theorem vs_retN : VSt X M (.Return none pos) vRetN := ⟨fun F => psI ps_retN fun D σ H ⟨ev, ρ, D', R, h, k⟩ => k.rt _ _ ev σ H ρ h R .non⟩
def vIfS (t : VTB) (u w : VS) : VS := fun D ev => t ev fun c e1 => match c with
  | true => u D e1
  | false => w D e1
theorem vs_if {t : VTB} {u w : VS} {bs cs : List Stmt} (hc : VB X M c t) (ha : VSs X M bs u) (hb : VSs X M cs w) : VSt X M (.If c bs cs pos) (vIfS t u w) :=
  ⟨fun F => psI (ps_if (hc.pt F) (ha.ps F) (hb.ps F)) fun D σ H ⟨ev, ρ, D', R, h, k⟩ => ⟨ev, ρ, _, R, h, fun z e1 H1 q1 R1 s1 => by
    cases z with
    | true => exact ⟨e1, ρ, D', R1, q1, k⟩
    | false => exact ⟨e1, ρ, D', R1, q1, k⟩⟩⟩

/-! ### letting a list go -/
def vFz (i : Nat) (t : VS) : VS := fun D ev => match sv ev i with
  | .ow ds => t D (ev.set i (.fr (.list ds)))
  | _ => t D ev
theorem vs_fz (i : Nat) {t : VS} (hb : M.β = none ∨ i ≠ 0) (h : VSt X M st t) : VSt X M st (vFz i t) :=
  ⟨fun F => psI (h.ps F) fun D σ H ⟨ev, ρ, D', R, q, k⟩ => by
    unfold vFz at q
    cases e : sv ev i with
    | ow ds => rw [e] at q; exact ⟨_, _, D', R.frz1 hb e, q, k⟩
    | un => rw [e] at q; exact ⟨ev, ρ, D', R, q, k⟩
    | fr _ => rw [e] at q; exact ⟨ev, ρ, D', R, q, k⟩
    | dk _ => rw [e] at q; exact ⟨ev, ρ, D', R, q, k⟩
    | rw _ => rw [e] at q; exact ⟨ev, ρ, D', R, q, k⟩⟩

/-! ### targets -/
theorem wipe_comm (σ : L2.St) (i : Nat) (o : Option V) (h : i ∈ vs) : wipe (σ.set i o) vs = wipe σ vs := by
  induction vs with
  | nil => exact absurd h (by simp)
  | cons v r ih =>
    unfold wipe
    by_cases e : i ∈ r
    · rw [ih e]
    · have e2 : i = v := by simpa [e] using h
      subst e2
      have key : ∀ r : List Nat, i ∉ r → wipe (σ.set i o) r = (wipe σ r).set i o := by
        intro r
        induction r with
        | nil => intro _; rfl
        | cons w r ih2 =>
          intro hn
          have h1 : i ≠ w := fun z => hn (by simp [z])
          have h2 : i ∉ r := fun z => hn (by simp [z])
          unfold wipe
          rw [ih2 h2, List.set_comm _ _ h1]
      rw [key r e, List.set_set]
def gN (i : Nat) : VG := fun d ev Q => Q (ev.set i (.fr d))
theorem vg_name {vs : List Nat} (i : Nat) {x : Str} (hN : X.N.Nodup) (hi : X.N[i]? = some x) (hx : Loc X.env.scope x) (hb : M.β = none ∨ i ≠ 0) (hv : i ∈ vs) (hf : X.fn x = true ∨ X.env.scope.names.lookup x = some .local := by first | exact .inl rfl | exact .inr rfl | assumption) : VTg X M vs (.Name x pos) (gN i) := by
  refine ⟨fun F => ⟨fun pins s σ H v u Q I r ⟨d, ev, ρ, Qv, R, rr, h, k⟩ => (pg_name hN hi hx hf).run pins s σ H v u Q I r ?_⟩⟩
  have hl : i < ev.length := by rw [R.len, I.len]; exact (List.getElem?_eq_some_iff.mp hi).1
  exact k _ _ H _ h (R.setFr hl hb rr) (same_hid_sub fun b z => own_put_none z) (wipe_comm σ i _ hv) (Fewer.put hv)
def gs0 : VGs := fun ds ev Q => match ds with
  | [] => Q ev
  | _ => False
def gsC (g : VG) (u : VGs) : VGs := fun ds ev Q => match ds with
  | d :: r => g d ev fun e1 => u r e1 Q
  | [] => False
theorem vgs_nil {vs : List Nat} : VTgs X M vs [] gs0 := ⟨fun F => pgsI pgs_nil fun ws σ H Q ⟨ds, ev, ρ, Qv, R, rr, h, k⟩ => by
  cases rr with
  | nil => exact ⟨rfl, k ev σ H ρ h R (Same.refl _) rfl Fewer.refl⟩
  | cons _ _ => exact h.elim⟩
theorem vgs_cons {vs : List Nat} {es : List Expr} {g : VG} {u : VGs} (h1 : VTg X M vs e g) (h2 : VTgs X M vs es u) (hs : (assignEach (e :: es) X.env).map (·.2) = assign e X.env :: (assignEach es X.env).map (·.2) := by rfl) : VTgs X M vs (e :: es) (gsC g u) :=
  ⟨fun F => pgsI (pgs_cons (h1.pg F) (h2.pg F) hs) fun ws σ H Q ⟨ds, ev, ρ, Qv, R, rr, h, k⟩ => by
    cases rr with
    | nil => exact h.elim
    | cons r1 r2 => exact ⟨_, _, rfl, _, ev, ρ, _, R, r1, h, fun e1 σ1 H1 ρ1 q1 R1 s1 w1 f1 => ⟨_, e1, ρ1, _, R1, r2.mono s1, q1, fun e2 σ2 H2 ρ2 q2 R2 s2 w2 f2 => k e2 σ2 H2 ρ2 q2 R2 (s1.trans s2) (w2.trans w1) (f2.trans f1)⟩⟩⟩
def gT (n : Nat) (u : VGs) : VG := fun d ev Q => match d with
  | .tuple ds => ds.length = n ∧ u ds ev Q
  | _ => False
theorem vg_tup {vs : List Nat} {es : List Expr} {k n : Nat} {u : VGs} (hc : X.calm = true) (h : VTgs X M vs es u) (hn : (assignEach es X.env).length = n := by rfl) (hst : (assignEach es X.env).findIdx? (·.1) = none := by rfl) : VTg X M vs (.Tuple es k pos) (gT n u) :=
  ⟨fun F => pgI (pg_tup hc (h.pg F) hn hst) fun v σ H Q ⟨d, ev, ρ, Qv, R, rr, q, k⟩ => by
    cases rr with
    | tup h1 h2 => exact ⟨_, _, rfl, same_seqT same_hid_of h1, by rw [h2.len]; exact q.1, _, ev, ρ, Qv, R, h2, q.2, k⟩
    | _ => exact q.elim⟩
/-- name = value -/
def vSet (i : Nat) (t : VT) : VS := fun D ev => t ev fun d e1 => D.nx (e1.set i (.fr d))
theorem vs_set (i : Nat) {x : Str} {t : VT} {pos' : Pos} (hN : X.N.Nodup) (hi : X.N[i]? = some x) (hx : Loc X.env.scope x) (hb : M.β = none ∨ i ≠ 0) (he : VE X M e t) (hs : swapsWith e (some (.Name x pos')) pos.line X.env = pure false := by rfl) (hf : X.fn x = true ∨ X.env.scope.names.lookup x = some .local := by first | exact .inl rfl | exact .inr rfl | assumption) :
    VSt X M (.Assign [.Name x pos'] e pos) (vSet i t) := by
  refine ⟨fun F => ⟨fun pins s σ H D I ⟨ev, ρ, D', R, h, k⟩ => (ps_set hN hi hx (he.pe F) hs hf).run pins s σ H D I ⟨ev, ρ, _, R, h, fun d e1 v H1 q1 R1 s1 r1 => ?_⟩⟩⟩
  have hl : i < e1.length := by rw [R1.len, I.len]; exact (List.getElem?_eq_some_iff.mp hi).1
  exact k.nx _ _ H1 _ q1 (R1.setFr hl hb r1)
/-- name = a new list, held by this name alone -/
def vSetO (i : Nat) (t : VTA) : VS := fun D ev => t ev fun ds e1 => D.nx (e1.set i (.ow ds))
theorem vs_setO (i : Nat) {x : Str} {t : VTA} {pos' : Pos} (hN : X.N.Nodup) (hi : X.N[i]? = some x) (hx : Loc X.env.scope x) (hb : M.β = none ∨ i ≠ 0) (he : VO X M e t) (hs : swapsWith e (some (.Name x pos')) pos.line X.env = pure false := by rfl) (hf : X.fn x = true ∨ X.env.scope.names.lookup x = some .local := by first | exact .inl rfl | exact .inr rfl | assumption) :
    VSt X M (.Assign [.Name x pos'] e pos) (vSetO i t) := by
  refine ⟨fun F => ⟨fun pins s σ H D I ⟨ev, ρ, D', R, h, k⟩ => (ps_set hN hi hx (he.pe F) hs hf).run pins s σ H D I ⟨ev, ρ, _, R, h, fun d e1 a vs H1 q1 R1 s1 ha r1 => ?_⟩⟩⟩
  have hl : i < e1.length := by rw [R1.len, I.len]; exact (List.getElem?_eq_some_iff.mp hi).1
  exact k.nx _ _ H1 _ q1 (R1.setOw hl hb ha r1)
/-- target = value -/
def vAsg (t : VT) (g : VG) : VS := fun D ev => t ev fun d e1 => g d e1 D.nx
theorem vs_asg {tg : Expr} {t : VT} {g : VG} {vs : List Nat} (he : VE X M e t) (hg : VTg X M vs tg g) (hs : swapsWithSole [tg] e pos.line X.env = pure false := by rfl) (hw : swappedStores [tg] e X.env = pure none := by rfl)
    (h1 : (assignEach [tg] X.env).map (·.2) = [assign tg X.env] := by rfl) : VSt X M (.Assign [tg] e pos) (vAsg t g) :=
  ⟨fun F => psI (ps_asg (he.pe F) (hg.pg F) hs hw h1) fun D σ H ⟨ev, ρ, D', R, h, k⟩ => ⟨ev, ρ, _, R, h, fun d e1 v H1 q1 R1 s1 r1 => ⟨d, e1, ρ, _, R1, r1, q1, fun e2 σ2 H2 ρ2 q2 R2 s2 w2 _ => k.nx e2 σ2 H2 ρ2 q2 R2⟩⟩⟩
/-- a, b = x, y of plain local names -/
def vPar (i j : Nat) (ta tb : VT) : VS := fun D ev => ta ev fun d e1 => tb e1 fun d2 e2 => D.nx ((e2.set i (.fr d)).set j (.fr d2))
theorem vs_par (i j : Nat) {x y : Str} {ta tb : VT} {px py pt : Pos} {kt k2 pt2} (hc : X.calm = true) (hN : X.N.Nodup) (hi : X.N[i]? = some x) (hj : X.N[j]? = some y) (hij : i ≠ j) (hb : M.β = none ∨ (i ≠ 0 ∧ j ≠ 0))
    (hx : X.env.scope.names.lookup x = some .local) (hy : X.env.scope.names.lookup y = some .local) (ha : VE X M a ta) (hb2 : VE X M b tb)
    (hw : swappedStores [.Tuple [.Name x px, .Name y py] kt pt] (.Tuple [a, b] k2 pt2) X.env = pure (some [x, y]))
    (hs : swapsWithSole [.Tuple [.Name x px, .Name y py] kt pt] (.Tuple [a, b] k2 pt2) pos.line X.env = pure false := by rfl)
    (hq : starEach [a, b] X.env = (false, eval a X.env) :: starEach [b] X.env := by rfl) (hq2 : starEach [b] X.env = (false, eval b X.env) :: starEach [] X.env := by rfl) :
    VSt X M (.Assign [.Tuple [.Name x px, .Name y py] kt pt] (.Tuple [a, b] k2 pt2) pos) (vPar i j ta tb) := by
  refine ⟨fun F => ⟨fun pins s σ H D I ⟨ev, ρ, D', R, h, k⟩ => (ps_par hc hN hi hj hij hx hy (pa_cons (ha.pe F) (pa_cons (hb2.pe F) pa_nil hq2) hq) hw hs).run pins s σ H D I ?_⟩⟩
  refine ⟨ev, ρ, _, R, h, fun d e1 v H1 q1 R1 s1 r1 => ⟨e1, ρ, _, R1, q1, fun d2 e2 v2 H2 q2 R2 s2 r2 => ⟨v, v2, rfl, ?_⟩⟩⟩
  have hl : i < e2.length := by rw [R2.len, I.len]; exact (List.getElem?_eq_some_iff.mp hi).1
  have hl2 : j < e2.length := by rw [R2.len, I.len]; exact (List.getElem?_eq_some_iff.mp hj).1
  have R3 := R2.setFr hl (hb.imp id (·.1)) (r1.mono s2)
  have up : Same (hd M ρ H2) (hd M (put ρ i none) H2) := same_hid_sub fun b z => own_put_none z
  exact k.nx _ _ H2 _ q2 (R3.setFr (by simpa using hl2) (hb.imp id (·.2)) (r2.mono up))
/-- name op= e -/
def vAug (rv : V2) (i : Nat) (t : VT) : VS := fun D ev => match sv ev i with
  | .fr x => t ev fun y e1 => rv x y fun d => D.nx (e1.set i (.fr d))
  | _ => False
theorem vs_aug (i : Nat) {x : Str} {t : VT} {op : Operator} {ti : R2} {rv : V2} {pos' : Pos} (hN : X.N.Nodup) (hi : X.N[i]? = some x) (hx : Loc X.env.scope x) (hb : M.β = none ∨ i ≠ 0) (he : VE X M e t) (ho : OpR X (inplaceOp op) ti) (hr : OpV X.K ti rv) (hf : X.fn x = true ∨ X.env.scope.names.lookup x = some .local := by first | exact .inl rfl | exact .inr rfl | assumption) :
    VSt X M (.AugAssign (.Name x pos') op e pos) (vAug rv i t) := by
  refine ⟨fun F => ⟨fun pins s σ H D I ⟨ev, ρ, D', R, h, k⟩ => (ps_aug hN hi hx (he.pe F) (ti := ti) ho hf).run pins s σ H D I ?_⟩⟩
  unfold vAug at h
  cases e0 : sv ev i with
  | fr d0 =>
    rw [e0] at h
    obtain ⟨v, h1, h2⟩ := R.getFr e0
    refine ⟨v, h1, ev, ρ, _, R, h, fun y e1 v1 H1 q1 R1 s1 r1 => hr (Own M ρ) H1 v v1 d0 y _ _ R1.tr (.inl (h2.mono s1)) (.inl r1) q1 fun v2 H2 d qd sm rr => ?_⟩
    have R2 := R1.same sm
    have hl : i < e1.length := by rw [R1.len, I.len]; exact (List.getElem?_eq_some_iff.mp hi).1
    exact k.nx _ _ H2 _ qd (R2.setFr hl hb rr)
  | un => rw [e0] at h; exact h.elim
  | ow _ => rw [e0] at h; exact h.elim
  | dk _ => rw [e0] at h; exact h.elim
  | rw _ => rw [e0] at h; exact h.elim

/-! ### while -/
def wit (c : VTB) (b : VS) (D : VEnds) : Nat → Ev → Prop
  | 0, _ => False
  | n + 1, ev => c ev fun t e1 => match t with
    | true => b { nx := wit c b D n, rt := D.rt, bk := D.nx, ct := wit c b D n } e1
    | false => D.nx e1
def vWhile (c : VTB) (b : VS) : VS := fun D ev => ∃ n, wit c b D n ev
theorem vs_while {body : List Stmt} {tc : VTB} {tb : VS} (hp : PassesOwn (model X.prog X.w) X.A X.env X.xe) (hc : VB X M c tc) (hb : VSs X M body tb) : VSt X M (.While c body [] pos) (vWhile tc tb) :=
  ⟨fun F => psI (ps_while hp (hc.pt F) (hb.ps F)) fun D σ H ⟨ev, ρ, D', R, ⟨n, h⟩, k⟩ => by
    refine ⟨fun m σ H => ∃ ev ρ, Rl X.K M F ev σ H ρ ∧ wit tc tb D' m ev, ⟨n, ev, ρ, R, h⟩, fun m σ H ⟨ev, ρ, R, h⟩ => ?_⟩
    cases m with
    | zero => exact h.elim
    | succ m =>
      refine ⟨ev, ρ, _, R, h, fun t e1 H1 q1 R1 s1 => ?_⟩
      cases t with
      | true =>
        rw [if_pos rfl]
        refine ⟨fun σ H => ∃ ev ρ, Rl X.K M F ev σ H ρ ∧ wit tc tb D' m ev, fun σ' H' w => ⟨m, Nat.lt_succ_self _, w⟩, e1, ρ, _, R1, q1, ?_⟩
        exact ⟨fun ev σ H ρ q R => ⟨ev, ρ, R, q⟩, k.rt, k.nx, fun ev σ H ρ q R => ⟨ev, ρ, R, q⟩⟩
      | false => rw [if_neg Bool.false_ne_true]; exact k.nx e1 σ H1 ρ q1 R1⟩
end

/-! ### what is walked -/
/-- the walk J serves the data xs, wherever what G tells stands -/
def Srv (K : PySem.W.Frag) (G : Hp) (J : It) (xs : List D) : Prop := ∀ H, Same G H → (∀ i x, xs[i]? = some x → J.go i H ∧ ∀ v H3, J.yld i H v H3 → Same H H3 ∧ ∀ O, (∀ b, O b → H b ≠ none) → Same G (hid O H) → Rp K (hid O H3) v x) ∧ J.stop xs.length H
def LW (K : PySem.W.Frag) (M : Fm) (F : Hp) (t : VTA) : TI := fun σ H R => ∃ ev ρ Qv, Rl K M F ev σ H ρ ∧ t ev Qv ∧
  ∀ xs ev' J H', Qv xs ev' → Rl K M F ev' σ H' ρ → Same (hd M ρ H) (hd M ρ H') → Srv K (hd M ρ H') J xs → R J H'
structure VW' (X : Cx) (M : Fm) (tg e : Expr) (t : VTA) : Prop where
  pi : ∀ F, PI X tg e (LW X.K M F t)
section
variable {X : Cx} {e a b c tg : Expr} {pos : Pos} {M : Fm}
theorem piI {t t' : TI} (h : PI X tg e t) (k : ∀ σ H R, t' σ H R → t σ H R) : PI X tg e t' := ⟨fun pins s σ H R I q => h.run pins s σ H R I (k σ H R q)⟩
theorem srv_list {K : PySem.W.Frag} {G : Hp} {a : Addr} {vs : List V} {xs : List D} (h : G a = some (.lst vs)) (r : Rps K G vs xs) : Srv K G (Itl K a) xs := fun H sm => by
  have hs : SqL K H a vs := SqL.of (sm _ _ h)
  refine ⟨fun i x e => ?_, vs, hs, by rw [r.len]; exact Nat.le_refl _⟩
  obtain ⟨v, h1, h2⟩ := r.get e
  refine ⟨⟨vs, v, hs, h1⟩, fun w H3 y => ?_⟩
  obtain ⟨e3, y⟩ := y
  subst e3
  have : v = w := Option.some.inj (h1.symm.trans (y vs hs))
  subst this
  exact ⟨Same.refl _, fun O _ g => h2.mono g⟩
theorem srv_tup {K : PySem.W.Frag} {G : Hp} {a : Addr} {vs : List V} {xs : List D} (h : SqT K G a vs) (r : Rps K G vs xs) : Srv K G (Itt K a) xs := fun H sm => by
  have hs : SqT K H a vs := same_seqT sm h
  refine ⟨fun i x e => ?_, vs, hs, by rw [r.len]; exact Nat.le_refl _⟩
  obtain ⟨v, h1, h2⟩ := r.get e
  refine ⟨⟨vs, v, hs, h1⟩, fun w H3 y => ?_⟩
  obtain ⟨e3, y⟩ := y
  subst e3
  have : v = w := Option.some.inj (h1.symm.trans (y vs hs))
  subst this
  exact ⟨Same.refl _, fun O _ g => h2.mono g⟩
def rngD (lo : Int) (n : Nat) : List D := (List.range n).map fun i => .int (lo + (i : Nat))
theorem srv_rng {K : PySem.W.Frag} {G : Hp} (lo : Int) (n : Nat) : Srv K G (Itr lo n) (rngD lo n) := fun H sm => by
  refine ⟨fun i x e => ?_, by show n ≤ _; simp [rngD]⟩
  have hi : i < n := by
    have := (List.getElem?_eq_some_iff.mp e).1
    simpa [rngD] using this
  have hx : x = .int (lo + (i : Nat)) := by
    simp [rngD, hi] at e
    exact e.symm
  subst hx
  refine ⟨hi, fun w H3 y => ?_⟩
  obtain ⟨e3, y⟩ := y
  subst e3; subst y
  exact ⟨Same.refl _, fun O _ g => .int _⟩
/-- a list -/
def wL (t : VT) : VTA := fun ev Q => t ev fun d e1 => match d with
  | .list xs => Q xs e1
  | _ => False
def wT (t : VT) : VTA := fun ev Q => t ev fun d e1 => match d with
  | .tuple xs => Q xs e1
  | _ => False
theorem vw_list {t : VT} (h : VE X M e t) : VW' X M tg e (wL t) := ⟨fun F => piI (pi_list (h.pe F)) fun σ H R ⟨ev, ρ, Qv, Rr, q, k⟩ => ⟨ev, ρ, _, Rr, q, fun d e1 v H1 q1 R1 s1 r1 => by
  cases r1 with
  | lst h1 h2 => exact ⟨_, rfl, ⟨_, SqL.of (same_hid_of _ _ h1)⟩, k _ e1 _ H1 q1 R1 s1 (srv_list h1 h2)⟩
  | _ => exact q1.elim⟩⟩
theorem vw_tup {t : VT} (h : VE X M e t) : VW' X M tg e (wT t) := ⟨fun F => piI (pi_tup (h.pe F)) fun σ H R ⟨ev, ρ, Qv, Rr, q, k⟩ => ⟨ev, ρ, _, Rr, q, fun d e1 v H1 q1 R1 s1 r1 => by
  cases r1 with
  | tup h1 h2 => exact ⟨_, rfl, ⟨_, same_seqT same_hid_of h1⟩, k _ e1 _ H1 q1 R1 s1 (srv_tup h1 h2)⟩
  | _ => exact q1.elim⟩⟩
def wR1 (t : VT) : VTA := fun ev Q => t ev fun d e1 => match d with
  | .int j => (-(2 ^ 62) ≤ j ∧ j < 2 ^ 62) ∧ Q (rngD 0 j.toNat) e1
  | _ => False
def wR2 (t u : VT) : VTA := fun ev Q => t ev fun d e1 => u e1 fun d2 e2 => match d, d2 with
  | .int i, .int j => (-(2 ^ 62) ≤ i ∧ i < 2 ^ 62 ∧ -(2 ^ 62) ≤ j ∧ j < 2 ^ 62) ∧ Q (rngD i (j - i).toNat) e2
  | _, _ => False
theorem vw_rng1 {t : VT} {p : Pos} (hg : Gl X "range") (hm : X.mg "range" = none) (h : VE X M a t) (hs : starEach [a] X.env = [(false, eval a X.env)] := by rfl) : VW' X M tg (.Call (.Name "range" p) [a] [] pos) (wR1 t) :=
  ⟨fun F => piI (pi_range1 hg hm (pa_cons (h.pe F) pa_nil (by rw [hs] <;> rfl)) hs) fun σ H R ⟨ev, ρ, Qv, Rr, q, k⟩ => ⟨ev, ρ, _, Rr, q, fun d e1 v H1 q1 R1 s1 r1 => by
    cases d with
    | int j => cases r1; exact ⟨j, rfl, q1.1.1, q1.1.2, k _ e1 _ H1 q1.2 R1 s1 (srv_rng 0 _)⟩
    | _ => exact q1.elim⟩⟩
theorem vw_rng2 {t u : VT} {p : Pos} (hg : Gl X "range") (hm : X.mg "range" = none) (h : VE X M a t) (h2 : VE X M b u) (hs : starEach [a, b] X.env = [(false, eval a X.env), (false, eval b X.env)] := by rfl) (hs2 : starEach [b] X.env = [(false, eval b X.env)] := by rfl) : VW' X M tg (.Call (.Name "range" p) [a, b] [] pos) (wR2 t u) :=
  ⟨fun F => piI (pi_range2 hg hm (pa_cons (h.pe F) (pa_cons (h2.pe F) pa_nil (by rw [hs2] <;> rfl)) (by rw [hs, hs2])) hs hs2) fun σ H R ⟨ev, ρ, Qv, Rr, q, k⟩ => ⟨ev, ρ, _, Rr, q, fun d e1 v H1 q1 R1 s1 r1 => ⟨e1, ρ, _, R1, q1, fun d2 e2 v2 H2 q2 R2 s2 r2 => by
    cases d with
    | int i =>
      cases d2 with
      | int j => cases r1; cases r2; exact ⟨i, j, rfl, q2.1, k _ e2 _ H2 q2.2 R2 (s1.trans s2) (srv_rng i _)⟩
      | _ => exact q2.elim
    | _ => exact q2.elim⟩⟩⟩

/-! ### for -/
def vFor (g : VG) (b : VS) (Z : VEnds) : List D → Ev → Prop
  | [], ev => Z.nx ev
  | x :: xs, ev => g x ev fun e1 => b { nx := vFor g b Z xs, rt := Z.rt, bk := Z.nx, ct := vFor g b Z xs } e1
def vForS (t : VTA) (g : VG) (b : VS) : VS := fun D ev => t ev fun xs e1 => vFor g b D xs e1
theorem vs_for {iter : Expr} {body : List Stmt} {t : VTA} {g : VG} {tb : VS} {vs : List Nat} (hp : PassesOwn (model X.prog X.w) X.A X.env X.xe) (hc : X.calm = true) (hi : VW' X M tg iter t) (hg : VTg X M vs tg g) (hb : VSs X M body tb)
    (hs : ∀ x, foldedSetIterable iter X.env x = pure x := by intro _; rfl) : VSt X M (.For tg iter body [] pos) (vForS t g tb) := by
  refine ⟨fun F => ⟨fun pins s σ H D I ⟨ev, ρ, D', R, h, k⟩ => ?_⟩⟩
  -- the frozen part for the loop: all but the owned lists, chosen when the walk has begun
  refine (ps_for (wi := LW X.K M F t) (g := fun v σ H Q => ∃ F', LG X.K M F' vs g v σ H Q) (tb := fun D σ H => ∃ F', LS X.K M F' tb D σ H) hp hc (hi.pi F) ⟨fun pins s σ H v u Q I r ⟨F', q⟩ => (hg.pg F').run pins s σ H v u Q I r q⟩ ⟨fun pins s σ H D I ⟨F', q⟩ => (hb.ps F').run pins s σ H D I q⟩ hs).run pins s σ H D I ?_
  refine ⟨ev, ρ, _, R, h, fun xs e1 J H1 q1 R1 s1 sv1 => ?_⟩
  -- F': the heap at the start without the owned lists
  let F' : Hp := hid (fun b => ∃ i, ρ i = some b) H1
  have hF : Same F F' := fun b o e => hid_some.mpr ⟨(fun ⟨i, z⟩ => by have q := (R1.ofr i b z).1.symm.trans e; cases q), R1.frz b o e⟩
  have RF : Rl X.K M F' e1 σ H1 ρ := { R1 with
    frz := same_hid_of
    ofr := fun i a z => ⟨hid_in ⟨i, z⟩, (R1.ofr i a z).2⟩ }
  have hG : Same (hd M ρ H1) F' := same_hid_sub fun b z => .inr z
  refine ⟨fun i m σ H => i + m = xs.length ∧ ∃ ev ρ, Rl X.K M F' ev σ H ρ ∧ vFor g tb D' (xs.drop i) ev, ⟨xs.length, Nat.zero_add _, e1, ρ, RF, q1⟩, fun i m σ H ⟨hm, ev2, ρ2, R2, q2⟩ => ?_⟩
  have hsm : Same (hd M ρ H1) H := hG.trans R2.frz
  have hsh : Same (hd M ρ H1) (hd M ρ2 H) := fun b o e => by
    have hb' := hG b o e
    refine hid_some.mpr ⟨fun z => ?_, R2.frz b o hb'⟩
    rcases z with z | ⟨j, z⟩
    · exact (hid_some.mp e).1 (.inl z)
    · rw [(R2.ofr j b z).1] at hb'; cases hb'
  obtain ⟨go, stop⟩ := sv1 H hsm
  by_cases hi' : i < xs.length
  · have hx : xs[i]? = some xs[i] := List.getElem?_eq_getElem hi'
    obtain ⟨g1, g2⟩ := go i _ hx
    rw [List.drop_eq_getElem_cons hi'] at q2
    refine .inr ⟨g1, fun σ H => ∃ ev ρ, Rl X.K M F' ev σ H ρ ∧ vFor g tb D' (xs.drop (i + 1)) ev, fun σ' H' w => ⟨m - 1, by omega, by omega, w⟩, fun v H3 y => ?_⟩
    obtain ⟨s3, r3⟩ := g2 v H3 y
    have R3 := R2.same s3
    refine ⟨F', xs[i], ev2, ρ2, _, R3, r3 (Own M ρ2) R2.tr hsh, q2, fun e4 σ4 H4 ρ4 q4 R4 s4 w4 _ => ⟨F', e4, ρ4, _, R4, q4, ?_⟩⟩
    exact ⟨fun ev σ H ρ q R => ⟨ev, ρ, R, q⟩, fun d v ev σ H ρ q R r => k.rt d v ev σ H ρ q (R.weak hF) r, fun ev σ H ρ q R => k.nx ev σ H ρ q (R.weak hF), fun ev σ H ρ q R => ⟨ev, ρ, R, q⟩⟩
  · have e0 : i = xs.length := by omega
    subst e0
    refine .inl ⟨stop, ?_⟩
    rw [List.drop_length] at q2
    exact k.nx ev2 σ H ρ2 q2 (R2.weak hF)
end
end VL

set_option Elab.async false
set_option linter.all false
set_option maxRecDepth 100000
set_option maxHeartbeats 4000000
/-! The value layer, part E: owned lists, comprehensions, defs, calls. -/
namespace VL
open PySem PySem.Spec PyProof.Rows L2
open Classical

section
variable {X : Cx} {e a b c tg : Expr} {pos : Pos} {M : Fm} {st : Stmt} {rest : List Stmt}
/-! ### owned lists -/
theorem own_list {K : PySem.W.Frag} {H : Hp} {a : Addr} {vs : List V} (h : H a = some (.lst vs)) : tyV K "list" (.ref a) H := Or.inl ⟨rfl, _, SqL.of h⟩
def vAppend (i : Nat) (t : VT) : VS := fun D ev => match sv ev i with
  | .ow _ => t ev fun d e1 => match sv e1 i with
    | .ow ds => ds.length < sizeLine ∧ D.nx (e1.set i (.ow (ds ++ [d])))
    | _ => False
  | _ => False
theorem vs_append {x : Str} {p ap cp : Pos} (i : Nat) {t : VT} (hp : PE X (.Name x p) (tVar i)) (he : VE X M e t)
    (mk : ∀ {te : TE}, PE X e te → PS X (.Expr (.Call (.Attribute (.Name x p) "append" ap) [e] [] cp) pos) (tDrop (tBM X.K "list" rAppend (tVar i) (tCons te tNil)))) :
    VSt X M (.Expr (.Call (.Attribute (.Name x p) "append" ap) [e] [] cp) pos) (vAppend i t) :=
  ⟨fun F => psI (mk (he.pe F)) fun D σ H ⟨ev, ρ, D', R, h, k⟩ => by
    unfold vAppend at h
    cases e0 : sv ev i with
    | ow ds =>
      rw [e0] at h
      obtain ⟨a, vs, h1, h2, h3, h4⟩ := R.getOw e0
      refine ⟨_, h2, own_list h3, ev, ρ, _, R, h, fun d e1 v H1 q1 R1 s1 r1 => ?_⟩
      cases e2 : sv e1 i with
      | ow es =>
        rw [e2] at q1
        obtain ⟨a', vs', g1, g2, g3, g4⟩ := R1.getOw e2
        rw [h1] at g1; cases g1
        obtain ⟨R2, _⟩ := R1.chg h1 ⟨_, e2⟩ (g4.app (.one r1))
        exact ⟨a, vs', v, rfl, rfl, g3, by rw [g4.len]; exact q1.1, k.nx _ σ _ ρ q1.2 R2⟩
      | un => rw [e2] at q1; exact q1.elim
      | fr _ => rw [e2] at q1; exact q1.elim
      | dk _ => rw [e2] at q1; exact q1.elim
      | rw _ => rw [e2] at q1; exact q1.elim
    | un => rw [e0] at h; exact h.elim
    | fr _ => rw [e0] at h; exact h.elim
    | dk _ => rw [e0] at h; exact h.elim
    | rw _ => rw [e0] at h; exact h.elim⟩
theorem mk_append {x : Str} {p ap cp : Pos} {i : Nat} (hp : PE X (.Name x p) (tVar i))
    (hbase : attributeBase (.Name x p) "append" X.env (eval (.Name x p) X.env) = eval (.Name x p) X.env := by rfl)
    (hfew : ((backTo cp (starEach [e] X.env)).all (fun x => !x.1) && (backToKw cp (keywordEach [] X.env)).all (fun x => x.1.isSome)
      && decide ([e].length + ([] : List Keyword).length + (if ([] : List Keyword).isEmpty then 0 else 1) < 30)) = true := by rfl)
    (hline : (ap.endLine == cp.line) = true := by rfl) (hs : starEach [e] X.env = (false, eval e X.env) :: starEach [] X.env := by rfl) (hplain : (backTo cp (starEach [] X.env)).any (·.1) = false := by rfl)
    (hsw : swapsWith (.Call (.Attribute (.Name x p) "append" ap) [e] [] cp) none pos.line X.env = pure false := by rfl) {te : TE} (he : PE X e te) :
    PS X (.Expr (.Call (.Attribute (.Name x p) "append" ap) [e] [] cp) pos) (tDrop (tBM X.K "list" rAppend (tVar i) (tCons te tNil))) :=
  ps_expr (pe_bm PySem.F.plainAttrs_list PySem.F.slot_list_append PySem.F.type_list_append mt_append hp (pa_cons he pa_nil hs) hbase hfew hline hs hplain) hsw
/-- x.pop() -/
def vPop (i : Nat) : VT := fun ev Q => match sv ev i with
  | .ow ds => ∃ d, ds[ds.length - 1]? = some d ∧ Q d (ev.set i (.ow ds.dropLast))
  | _ => False
theorem ve_pop {x : Str} {p ap cp : Pos} (i : Nat) (mk : PE X (.Call (.Attribute (.Name x p) "pop" ap) [] [] cp) (tBM0 X.K "list" rPop (tVar i))) : VE X M (.Call (.Attribute (.Name x p) "pop" ap) [] [] cp) (vPop i) :=
  ⟨fun F => peI mk fun σ H Q ⟨ev, ρ, Qv, R, h, k⟩ => by
    unfold vPop at h
    cases e0 : sv ev i with
    | ow ds =>
      rw [e0] at h
      obtain ⟨d, hd', h⟩ := h
      obtain ⟨a, vs, h1, h2, h3, h4⟩ := R.getOw e0
      obtain ⟨v, g1, g2⟩ := h4.get hd'
      obtain ⟨R2, e2⟩ := R.chg h1 ⟨_, e0⟩ h4.dropLast
      refine ⟨_, h2, own_list h3, a, vs, v, rfl, rfl, h3, by rw [h4.len]; exact g1, k d _ v _ h R2 ?_ ?_⟩
      · rw [e2]; exact Same.refl _
      · rw [e2]; exact g2
    | un => rw [e0] at h; exact h.elim
    | fr _ => rw [e0] at h; exact h.elim
    | dk _ => rw [e0] at h; exact h.elim
    | rw _ => rw [e0] at h; exact h.elim⟩
theorem mk_pop {x : Str} {p ap cp : Pos} {i : Nat} (hp : PE X (.Name x p) (tVar i))
    (hbase : attributeBase (.Name x p) "pop" X.env (eval (.Name x p) X.env) = eval (.Name x p) X.env := by rfl) (hline : (ap.endLine == cp.line) = true := by rfl) :
    PE X (.Call (.Attribute (.Name x p) "pop" ap) [] [] cp) (tBM0 X.K "list" rPop (tVar i)) :=
  pe_bm0 PySem.F.plainAttrs_list PySem.F.slot_list_pop PySem.F.type_list_pop mt_pop hp hbase hline
/-- x[k] = .. -/
def gSet (i : Nat) (t : VT) : VG := fun d ev Q => match sv ev i with
  | .ow _ => t ev fun k e1 => match k, sv e1 i with
    | .int k, .ow ds => ∃ j, ixN ds.length k = some j ∧ Q (e1.set i (.ow (ds.set j d)))
    | _, _ => False
  | _ => False
theorem vg_set {vs : List Nat} {x : Str} {p : Pos} (i : Nat) {t : VT} (hp : PE X (.Name x p) (tVar i)) (he : VE X M e t)
    (ha : ∀ v, assign (.Subscript (.Name x p) e pos) X.env v = (do
      let ov ← holding [v] (eval (.Name x p) X.env)
      let iv ← holding [v, ov] (eval e X.env)
      standAt pos
      holding [v, ov, iv] (setItem ov iv v)
      release [v, ov, iv] []) := by intro _; rfl) : VTg X M vs (.Subscript (.Name x p) e pos) (gSet i t) :=
  ⟨fun F => pgI (pg_sub hp (he.pe F) set_list ha) fun v σ H Q ⟨d, ev, ρ, Qv, R, r, h, k⟩ => by
    unfold gSet at h
    cases e0 : sv ev i with
    | ow ds =>
      rw [e0] at h
      obtain ⟨a, us, h1, h2, h3, h4⟩ := R.getOw e0
      refine ⟨_, h2, ev, ρ, _, R, h, fun kd e1 kv H1 q1 R1 s1 r1 => ?_⟩
      cases kd with
      | int z =>
        cases r1
        cases e2 : sv e1 i with
        | ow es =>
          rw [e2] at q1
          obtain ⟨j, hj, q1⟩ := q1
          obtain ⟨a', vs', g1, g2, g3, g4⟩ := R1.getOw e2
          rw [h1] at g1; cases g1
          obtain ⟨R2, e3⟩ := R1.chg h1 ⟨_, e2⟩ (g4.set j (r.mono s1))
          exact ⟨a, vs', z, j, rfl, rfl, g3, by rw [g4.len]; exact hj, k _ σ _ ρ q1 R2 (by rw [e3]; exact s1) rfl Fewer.refl⟩
        | un => rw [e2] at q1; exact q1.elim
        | fr _ => rw [e2] at q1; exact q1.elim
        | dk _ => rw [e2] at q1; exact q1.elim
        | rw _ => rw [e2] at q1; exact q1.elim
      | _ => exact q1.elim
    | un => rw [e0] at h; exact h.elim
    | fr _ => rw [e0] at h; exact h.elim
    | dk _ => rw [e0] at h; exact h.elim
    | rw _ => rw [e0] at h; exact h.elim⟩
/-- a, b, .. = x, a list that is looked at -/
def vUnp (n : Nat) (i : Nat) (u : VGs) : VS := fun D ev => match sv ev i with
  | .ow ds => ds.length = n ∧ u ds ev D.nx
  | .fr (.list ds) => ds.length = n ∧ u ds ev D.nx
  | _ => False
theorem vs_unp {vs : List Nat} {es : List Expr} {x : Str} {p tp : Pos} {k n : Nat} {u : VGs} (i : Nat) (hc : X.calm = true) (hp : PE X (.Name x p) (tVar i)) (h : VTgs X M vs es u)
    (mk : ∀ {t : TGs}, PGs X es t → PG X (.Tuple es k tp) (gUnl X.K n t))
    (hs : swapsWithSole [.Tuple es k tp] (.Name x p) pos.line X.env = pure false := by rfl) (hw : swappedStores [.Tuple es k tp] (.Name x p) X.env = pure none := by rfl)
    (h1 : (assignEach [.Tuple es k tp] X.env).map (·.2) = [assign (.Tuple es k tp) X.env] := by rfl) : VSt X M (.Assign [.Tuple es k tp] (.Name x p) pos) (vUnp n i u) :=
  ⟨fun F => psI (ps_asg hp (mk (h.pg F)) hs hw h1) fun D σ H ⟨ev, ρ, D', R, q, kk⟩ => by
    unfold vUnp at q
    cases e0 : sv ev i with
    | ow ds =>
      rw [e0] at q
      obtain ⟨a, us, h1, h2, h3, h4⟩ := R.getOw e0
      exact ⟨_, h2, a, us, rfl, SqL.of h3, by rw [h4.len]; exact q.1, ds, ev, ρ, _, R, h4, q.2, fun e2 σ2 H2 ρ2 q2 R2 s2 w2 _ => kk.nx e2 σ2 H2 ρ2 q2 R2⟩
    | fr d =>
      rw [e0] at q
      obtain ⟨v, h2, h4⟩ := R.getFr e0
      cases h4 with
      | lst h3 h4 => exact ⟨_, h2, _, _, rfl, SqL.of (same_hid_of _ _ h3), by rw [h4.len]; exact q.1, _, ev, ρ, _, R, h4, q.2, fun e2 σ2 H2 ρ2 q2 R2 s2 w2 _ => kk.nx e2 σ2 H2 ρ2 q2 R2⟩
      | _ => exact q.elim
    | un => rw [e0] at q; exact q.elim
    | dk _ => rw [e0] at q; exact q.elim
    | rw _ => rw [e0] at q; exact q.elim⟩
/-- x += a list -/
def vExt (i : Nat) (t : VT) : VS := fun D ev => match sv ev i with
  | .ow _ => t ev fun d e1 => match d, sv e1 i with
    | .list es, .ow ds => ds.length + es.length ≤ sizeLine ∧ D.nx (e1.set i (.ow (ds ++ es)))
    | _, _ => False
  | _ => False
theorem vs_ext {x : Str} {p : Pos} (i : Nat) {t : VT} (hN : X.N.Nodup) (hi : X.N[i]? = some x) (hx : Loc X.env.scope x) (he : VE X M e t) (hf : X.fn x = true ∨ X.env.scope.names.lookup x = some .local := by first | exact .inl rfl | exact .inr rfl | assumption) :
    VSt X M (.AugAssign (.Name x p) .Add e pos) (vExt i t) :=
  ⟨fun F => psI (ps_aug hN hi hx (he.pe F) (ti := rExt2) iop_ext hf) fun D σ H ⟨ev, ρ, D', R, h, k⟩ => by
    unfold vExt at h
    cases e0 : sv ev i with
    | ow ds0 =>
      rw [e0] at h
      obtain ⟨a, us, h1, h2, h3, h4⟩ := R.getOw e0
      refine ⟨_, h2, ev, ρ, _, R, h, fun d e1 v H1 q1 R1 s1 r1 => ?_⟩
      cases d with
      | list es =>
        cases r1 with
        | lst g3 g4 =>
          cases e2 : sv e1 i with
          | ow ds =>
            rw [e2] at q1
            obtain ⟨a', vs', k1, k2, k3, k4⟩ := R1.getOw e2
            rw [h1] at k1; cases k1
            obtain ⟨R2, e3⟩ := R1.chg h1 ⟨_, e2⟩ (k4.app g4)
            have hset : σ.set i (some (.ref a)) = σ := by
              have := List.getElem?_eq_some_iff.mp h2
              obtain ⟨z1, z2⟩ := this
              rw [← z2]; exact List.set_getElem_self z1
            refine ⟨a, _, vs', _, rfl, rfl, k3, same_hid_of _ _ g3, by rw [k4.len, g4.len]; exact q1.1, ?_⟩
            show D.nx (σ.set i (some (.ref a))) _
            rw [hset]
            exact k.nx _ σ _ ρ q1.2 R2
          | un => rw [e2] at q1; exact q1.elim
          | fr _ => rw [e2] at q1; exact q1.elim
          | dk _ => rw [e2] at q1; exact q1.elim
          | rw _ => rw [e2] at q1; exact q1.elim
      | _ => exact q1.elim
    | un => rw [e0] at h; exact h.elim
    | fr _ => rw [e0] at h; exact h.elim
    | dk _ => rw [e0] at h; exact h.elim
    | rw _ => rw [e0] at h; exact h.elim⟩
end

/-! ### a list that is being made -/
section
variable {K : PySem.W.Frag} {M : Fm} {F : Hp} {ev : Ev} {σ : L2.St} {H : Hp} {ρ : Nat → Option Addr} {a : Addr} {o : HO}
def Fm.add (M : Fm) (a : Addr) : Fm := ⟨fun b => M.B b ∨ b = a, M.β⟩
theorem hd_add : hd (M.add a) ρ H = hd M ρ (rem H a) := by
  funext b
  show hid _ _ b = hid _ _ b
  unfold hid rem Own Fm.add
  by_cases h1 : M.B b <;> by_cases h2 : b = a <;> by_cases h3 : ∃ i, ρ i = some b <;> simp [h1, h2, h3]
theorem Rl.into (R : Rl K M F ev σ (rem H a) ρ) (h : H a = some o) (hno : ∀ vs, o ≠ .tup vs) : Rl K (M.add a) (upd F a o) ev σ H ρ := by
  have na : ∀ {i b}, ρ i = some b → b ≠ a := fun {i b} e z => by
    obtain ⟨vs, q, _⟩ := R.ow i b e
    exact (rem_some.mp q).1 z
  refine ⟨R.len, fun b u e => ?_, fun i b e => ?_, fun b z => ?_, R.inj, R.ex, R.bx, fun i => ?_⟩
  · by_cases hb : b = a
    · rw [hb, upd_same] at e; rw [hb, h]; exact e
    · rw [upd_ne hb] at e; exact (rem_some.mp (R.frz b u e)).2
  · refine ⟨by rw [upd_ne (na e)]; exact (R.ofr i b e).1, fun z => ?_⟩
    rcases z with z | z
    · exact (R.ofr i b e).2 z
    · exact na e z
  · rcases z with z | z
    · exact (R.btr b z).mono same_rem
    · rw [z]; exact ⟨o, h, hno⟩
  · have q := R.sl i
    unfold SlotOk at q ⊢
    rw [hd_add]
    cases e : sv ev i with
    | un => trivial
    | fr d => rw [e] at q; exact q
    | ow ds =>
      rw [e] at q
      obtain ⟨b, vs, h1, h2, h3, h4⟩ := q
      exact ⟨b, vs, h1, h2, (rem_some.mp h3).2, h4⟩
    | dk ds =>
      rw [e] at q
      obtain ⟨b, vs, h1, h2, h3, h4⟩ := q
      exact ⟨b, vs, h1, h2, (rem_some.mp h3).2, h4⟩
    | rw v => rw [e] at q; exact q
theorem Rl.outof (R : Rl K (M.add a) (upd F a o) ev σ H ρ) (hf : F a = none) (hMa : ¬ M.B a) : Rl K M F ev σ (rem H a) ρ ∧ H a = some o := by
  have ha : H a = some o := R.frz a o upd_same
  have na : ∀ {i b}, ρ i = some b → b ≠ a := fun {i b} e z => by
    have := (R.ofr i b e).1
    rw [z, upd_same] at this; cases this
  refine ⟨⟨R.len, fun b u e => ?_, fun i b e => ?_, fun b z => (R.btr b (.inl z)).of_eq (rem_ne (fun y => hMa (by rw [← y]; exact z))), R.inj, R.ex, R.bx, fun i => ?_⟩, ha⟩
  · have hb : b ≠ a := fun z => by rw [z, hf] at e; cases e
    exact rem_some.mpr ⟨hb, R.frz b u (by rw [upd_ne hb]; exact e)⟩
  · obtain ⟨h1, h2⟩ := R.ofr i b e
    rw [upd_ne (na e)] at h1
    exact ⟨h1, fun z => h2 (.inl z)⟩
  · have q := R.sl i
    unfold SlotOk at q ⊢
    rw [hd_add] at q
    cases e : sv ev i with
    | un => trivial
    | fr d => rw [e] at q; exact q
    | ow ds =>
      rw [e] at q
      obtain ⟨b, vs, h1, h2, h3, h4⟩ := q
      exact ⟨b, vs, h1, h2, rem_some.mpr ⟨na h1, h3⟩, h4⟩
    | dk ds =>
      rw [e] at q
      obtain ⟨b, vs, h1, h2, h3, h4⟩ := q
      exact ⟨b, vs, h1, h2, rem_some.mpr ⟨na h1, h3⟩, h4⟩
    | rw v => rw [e] at q; exact q
end

/-! ### comprehensions -/
def wipeE (ev : Ev) : List Nat → Ev
  | [] => ev
  | v :: vs => (wipeE ev vs).set v .un
/-- the block's own slots as they were ahead -/
def back (ev e1 : Ev) : List Nat → Ev
  | [] => e1
  | v :: vs => (back ev e1 vs).set v (sv ev v)
section
variable {K : PySem.W.Frag} {M : Fm} {F : Hp} {ev e1 : Ev} {σ σ1 : L2.St} {H H1 : Hp} {ρ ρ1 : Nat → Option Addr} {vs : List Nat}
theorem wipeE_len (ev : Ev) (vs : List Nat) : (wipeE ev vs).length = ev.length := by
  induction vs with
  | nil => rfl
  | cons v r ih => unfold wipeE; rw [List.length_set, ih]
theorem back_len (ev e1 : Ev) (vs : List Nat) : (back ev e1 vs).length = e1.length := by
  induction vs with
  | nil => rfl
  | cons v r ih => unfold back; rw [List.length_set, ih]
theorem sv_set' (i : Nat) (s : SV) (j : Nat) : sv (ev.set i s) j = if j = i ∧ i < ev.length then s else sv ev j := by
  by_cases h : i < ev.length
  · rw [sv_set h]; simp [h]
  · rw [List.set_eq_of_length_le (Nat.le_of_not_lt h)]; simp [h]
theorem sv_wipeE (j : Nat) : sv (wipeE ev vs) j = if j ∈ vs then .un else sv ev j := by
  induction vs with
  | nil => simp [wipeE]
  | cons v r ih =>
    unfold wipeE
    rw [sv_set', ih, wipeE_len]
    by_cases h1 : j = v
    · subst h1
      by_cases h2 : j < ev.length
      · simp [h2]
      · have : sv ev j = .un := by unfold sv; simp [List.getD, List.getElem?_eq_none (Nat.le_of_not_lt h2)]
        simp [h2, this]
    · simp [h1]
theorem sv_back (j : Nat) (hl : ev.length = e1.length) : sv (back ev e1 vs) j = if j ∈ vs then sv ev j else sv e1 j := by
  induction vs with
  | nil => simp [back]
  | cons v r ih =>
    unfold back
    rw [sv_set', ih, back_len]
    by_cases h1 : j = v
    · subst h1
      by_cases h2 : j < e1.length
      · simp [h2]
      · have e2 : sv e1 j = .un := by unfold sv; simp [List.getD, List.getElem?_eq_none (Nat.le_of_not_lt h2)]
        have e3 : sv ev j = .un := by unfold sv; simp [List.getD, List.getElem?_eq_none (by rw [hl]; exact Nat.le_of_not_lt h2)]
        simp [h2, e2, e3]
    · simp [h1]
theorem wipe_get {σ : L2.St} {j : Nat} (h : j ∉ vs) : (wipe σ vs)[j]? = σ[j]? := by
  induction vs with
  | nil => rfl
  | cons v r ih =>
    have h1 : j ≠ v := fun z => h (by simp [z])
    have h2 : j ∉ r := fun z => h (by simp [z])
    unfold wipe
    rw [List.getElem?_set_ne (Ne.symm h1), ih h2]
/-- into a block: its own slots forgotten -/
theorem Rl.wipe (R : Rl K M F ev σ H ρ) (hn : ∀ i ∈ vs, ρ i = none) : Rl K M F (wipeE ev vs) (L2.wipe σ vs) H ρ := by
  refine ⟨by rw [wipeE_len, L2.wipe_length, R.len], R.frz, R.ofr, R.btr, R.inj, fun j a e => by
    rw [sv_wipeE, if_neg (fun z => by rw [hn j z] at e; cases e)]; exact R.ex j a e, R.bx, fun j => ?_⟩
  rw [sv_wipeE]
  by_cases h : j ∈ vs
  · rw [if_pos h]; trivial
  · rw [if_neg h]
    have q := R.sl j
    unfold SlotOk at q ⊢
    rw [wipe_get h]
    exact q
/-- out of it -/
theorem Rl.back (R : Rl K M F ev σ H ρ) (R1 : Rl K M F e1 σ1 H1 ρ) (s : Same (hd M ρ H) (hd M ρ H1)) (hw : L2.wipe σ1 vs = L2.wipe σ vs) (hn : ∀ i ∈ vs, ρ i = none) : Rl K M F (back ev e1 vs) σ H1 ρ := by
  have hl : ev.length = e1.length := by
    have h1 := congrArg List.length hw
    rw [L2.wipe_length, L2.wipe_length] at h1
    rw [R.len, R1.len, h1]
  refine ⟨by rw [back_len, ← hl, R.len], R1.frz, R1.ofr, R1.btr, R1.inj, fun j a e => by
    rw [sv_back j hl, if_neg (fun z => by rw [hn j z] at e; cases e)]; exact R1.ex j a e, R1.bx, fun j => ?_⟩
  rw [sv_back j hl]
  by_cases h : j ∈ vs
  · rw [if_pos h]
    have q := R.sl j
    unfold SlotOk at q ⊢
    cases e : sv ev j with
    | un => trivial
    | fr d => rw [e] at q; exact ⟨q.1, q.2.imp fun v z => ⟨z.1, z.2.mono s⟩⟩
    | ow ds => rw [e] at q; obtain ⟨a, vs', h1, _⟩ := q; rw [hn j h] at h1; cases h1
    | dk ds => rw [e] at q; obtain ⟨a, vs', h1, _⟩ := q; rw [hn j h] at h1; cases h1
    | rw v => rw [e] at q; exact ⟨q.1, q.2.imp fun a z => ⟨z.1, s.seq z.2⟩⟩
  · rw [if_neg h]
    have q := R1.sl j
    have e : σ[j]? = σ1[j]? := by rw [← wipe_get (vs := vs) (σ := σ) h, ← hw, wipe_get h]
    unfold SlotOk at q ⊢
    rw [e]
    exact q
end
structure VBs (X : Cx) (M : Fm) (ifs : List Expr) (t : VTB) : Prop where
  pt : ∀ F, PTs X ifs (LB X.K M F t)
def vYes : VTB := fun ev Q => Q true ev
/-- a turn: C is what follows with the list so far -/
def vTurn (g : VG) (tt : VTB) (te : VT) (vs : List Nat) (x : D) (ev : Ev) (acc : List D) (C : List D → Ev → Prop) : Prop :=
  g x (wipeE ev vs) fun e1 => tt e1 fun b e2 => match b with
    | true => te e2 fun y e3 => C (acc ++ [y]) (back ev e3 vs)
    | false => C acc (back ev e2 vs)
def vComp (g : VG) (tt : VTB) (te : VT) (vs : List Nat) (Q : List D → Ev → Prop) : List D → Ev → List D → Prop
  | [], ev, acc => Q acc ev
  | x :: xs, ev, acc => vTurn g tt te vs x ev acc fun acc' ev' => vComp g tt te vs Q xs ev' acc'
def noOw (ev : Ev) (vs : List Nat) : Prop := ∀ i ∈ vs, ¬ (sv ev i).own
def vLc (t : VTA) (g : VG) (tt : VTB) (te : VT) (vs : List Nat) : VTA := fun ev Q => t ev fun xs e1 => xs.length ≤ sizeLine ∧ noOw e1 vs ∧ vComp g tt te vs Q xs e1 []
section
variable {X : Cx} {e a b c tg : Expr} {pos : Pos} {M : Fm} {st : Stmt} {rest : List Stmt}
theorem vbs_nil : VBs X M [] vYes := ⟨fun F => ⟨fun pins s σ H Q I ⟨ev, ρ, Qv, R, h, k⟩ => pts_nil.run pins s σ H Q I (k true ev H h R (Same.refl _))⟩⟩
theorem vbs_one {t : VTB} (h : VB X M c t) : VBs X M [c] t := ⟨fun F => pts_one (h.pt F)⟩
theorem noOw_none {K : PySem.W.Frag} {M : Fm} {F : Hp} {ev : Ev} {σ : L2.St} {H : Hp} {ρ : Nat → Option Addr} {vs : List Nat} (R : Rl K M F ev σ H ρ) (h : noOw ev vs) : ∀ i ∈ vs, ρ i = none := fun i hi => by
  cases e : ρ i with
  | none => rfl
  | some a => exact absurd (R.ex i a e) (h i hi)
end
end VL

set_option Elab.async false
set_option linter.all false
set_option maxRecDepth 100000
set_option maxHeartbeats 4000000
/-! The value layer, part F: comprehensions run; defs and calls. -/
namespace VL
open PySem PySem.Spec PyProof.Rows L2
open Classical

theorem wipe_nil_at {σ : L2.St} {vs : List Nat} {i : Nat} (h : i ∈ vs) : (wipe σ vs)[i]? = none ∨ (wipe σ vs)[i]? = some none := by
  induction vs with
  | nil => exact absurd h (by simp)
  | cons v r ih =>
    unfold wipe
    by_cases e : i = v
    · subst e
      by_cases hl : i < (wipe σ r).length
      · exact .inr (List.getElem?_set_self hl)
      · exact .inl (by simp at hl ⊢; exact hl)
    · rw [List.getElem?_set_ne (Ne.symm e)]
      exact ih (by simpa [e] using h)
theorem wipe_idem {σ : L2.St} {vs : List Nat} : wipe (wipe σ vs) vs = wipe σ vs := by
  refine List.ext_getElem? fun i => ?_
  by_cases h : i ∈ vs
  · have h1 := wipe_nil_at (σ := σ) h
    have h2 := wipe_nil_at (σ := wipe σ vs) h
    have l1 : (wipe (wipe σ vs) vs).length = (wipe σ vs).length := wipe_length _ _
    by_cases hi : i < (wipe σ vs).length
    · rw [List.getElem?_eq_getElem hi] at h1 ⊢
      rw [List.getElem?_eq_getElem (by rw [l1]; exact hi)] at h2 ⊢
      rcases h1 with h1 | h1
      · cases h1
      · rcases h2 with h2 | h2
        · cases h2
        · rw [h1, h2]
    · rw [List.getElem?_eq_none (by omega), List.getElem?_eq_none (by omega)]
  · rw [wipe_get h]
theorem wipe_len2 {σ σ' : L2.St} {vs : List Nat} (h : wipe σ' vs = wipe σ vs) : σ'.length = σ.length := by
  have := congrArg List.length h
  rwa [wipe_length, wipe_length] at this

section
variable {X : Cx} {M : Fm} {F : Hp} {tg iter elt : Expr} {t : VTA} {g : VG} {tt : VTB} {te : VT} {vs : List Nat}
theorem lc_read (σ : L2.St) (H : Hp) (Q : VK) (h : LO X.K M F (vLc t g tt te vs) σ H Q) :
    tLc (LW X.K M F t) (fun v σ H Q => ∃ (B : Addr → Prop) (F' : Hp), LG X.K ⟨B, M.β⟩ F' vs g v σ H Q) (fun σ H Q => ∃ (B : Addr → Prop) (F' : Hp), LB X.K ⟨B, M.β⟩ F' tt σ H Q) (fun σ H Q => ∃ (B : Addr → Prop) (F' : Hp), LE X.K ⟨B, M.β⟩ F' te σ H Q) vs σ H Q := by
  obtain ⟨ev, ρ, Qv, R, h, k⟩ := h
  refine ⟨ev, ρ, _, R, h, fun xs e1 J H1 q1 R1 s1 sv1 L nL => ?_⟩
  obtain ⟨hsz, hno, q1⟩ := q1
  let F' : Hp := hid (fun b => ∃ i, ρ i = some b) H1
  have hF : Same F F' := fun b o e => hid_some.mpr ⟨(fun ⟨i, z⟩ => by have q := (R1.ofr i b z).1.symm.trans e; cases q), R1.frz b o e⟩
  have hML : ¬ M.B L := fun z => (R1.btr L z).some nL
  have RF : Rl X.K M F' e1 σ H1 ρ := { R1 with
    frz := same_hid_of
    ofr := fun i a z => ⟨hid_in ⟨i, z⟩, (R1.ofr i a z).2⟩ }
  have hG : Same (hd M ρ H1) F' := same_hid_sub fun b z => .inr z
  have nF : F' L = none := same_hid_of.free nL
  have hn : ∀ i ∈ vs, ρ i = none := noOw_none R1 hno
  let W : Nat → Nat → Hp → Prop := fun i m Hc => i + m = xs.length ∧ ∃ ev acc ds, Rl X.K M F' ev σ (rem Hc L) ρ ∧ Hc L = some (.lst acc) ∧ Rps X.K (hd M ρ (rem Hc L)) acc ds ∧ ds.length ≤ i ∧ vComp g tt te vs Qv (xs.drop i) ev ds
  refine ⟨W, ⟨xs.length, Nat.zero_add _, e1, [], [], ?_, upd_same, .nil, Nat.le_refl _, q1⟩, fun i m Hc ⟨hm, ev2, acc, ds, R2, hL, rs, hlen, q2⟩ => ?_⟩
  · rw [rem_upd nL]; exact RF
  have hsh : Same (hd M ρ H1) (hd M ρ (rem Hc L)) := fun b o e => by
    have hb' := hG b o e
    refine hid_some.mpr ⟨fun z => ?_, R2.frz b o hb'⟩
    rcases z with z | ⟨j, z⟩
    · exact (hid_some.mp e).1 (.inl z)
    · rw [(R2.ofr j b z).1] at hb'; cases hb'
  have hsm : Same (hd M ρ H1) Hc := (hsh.trans same_hid_of).trans same_rem
  obtain ⟨go, stop⟩ := sv1 Hc hsm
  by_cases hi' : i < xs.length
  · have hx : xs[i]? = some xs[i] := List.getElem?_eq_getElem hi'
    obtain ⟨g1, g2⟩ := go i _ hx
    rw [List.drop_eq_getElem_cons hi'] at q2
    refine .inr ⟨g1, fun Hn => W (i + 1) (m - 1) Hn, fun Hn w => ⟨m - 1, by omega, w⟩, fun v H3 y => ?_⟩
    obtain ⟨s3, r3⟩ := g2 v H3 y
    have R3 : Rl X.K (M.add L) (upd F' L (.lst acc)) ev2 σ Hc ρ := R2.into hL (fun _ z => nomatch z)
    have R4 := R3.same s3
    have R5 := R4.wipe hn
    have hO : Same (hd M ρ H1) (hid (Own (M.add L) ρ) Hc) := by
      have : hid (Own (M.add L) ρ) Hc = hd M ρ (rem Hc L) := hd_add
      rw [this]; exact hsh
    have rp := r3 (Own (M.add L) ρ) R3.tr hO
    -- the end of a turn, whatever it kept
    have fin : ∀ (e6 : Ev) (σ4 : L2.St) (H6 : Hp), Rl X.K (M.add L) (upd F' L (.lst acc)) e6 σ4 H6 ρ → Same (hd (M.add L) ρ H3) (hd (M.add L) ρ H6) → wipe σ4 vs = wipe (wipe σ vs) vs →
        Rl X.K M F' (back ev2 e6 vs) σ (rem H6 L) ρ ∧ H6 L = some (.lst acc) ∧ Same (hd M ρ (rem Hc L)) (hd M ρ (rem H6 L)) := fun e6 σ4 H6 R8 s8 w8 => by
      obtain ⟨R9, hl9⟩ := R8.outof nF hML
      have s9 : Same (hd M ρ (rem Hc L)) (hd M ρ (rem H6 L)) := by
        have a1 : Same (hd (M.add L) ρ Hc) (hd (M.add L) ρ H3) := same_hid s3
        have a2 := a1.trans s8
        rwa [hd_add, hd_add] at a2
      exact ⟨R2.back R9 s9 (w8.trans wipe_idem) hn, hl9, s9⟩
    refine ⟨(M.add L).B, _, xs[i], wipeE ev2 vs, ρ, _, R5, rp, q2, fun e4 σ4 H4 ρ4 q4 R6 s4 w4 f4 => ?_⟩
    have e4' : ρ4 = ρ := f4.eq hn
    subst e4'
    refine ⟨w4.trans wipe_idem, (M.add L).B, _, e4, ρ4, _, R6, q4, fun b e5 H5 q5 R7 s5 => ?_⟩
    cases b with
    | true =>
      rw [if_pos rfl]
      refine ⟨(M.add L).B, _, e5, ρ4, _, R7, q5, fun y e6 v6 H6 q6 R8 s6 r6 => ?_⟩
      obtain ⟨R9, hl9, s9⟩ := fin e6 σ4 H6 R8 ((s4.trans s5).trans s6) w4
      refine ⟨acc, hl9, ?_, ?_⟩
      · rw [rs.len]; omega
      · refine ⟨by omega, _, _, ds ++ [y], ?_, upd_same, ?_, by rw [List.length_append, List.length_singleton]; omega, q6⟩
        · rw [rem_upd2]; exact R9
        · rw [rem_upd2]
          refine (rs.mono s9).app (.one ?_)
          have : hd (M.add L) ρ4 H6 = hd M ρ4 (rem H6 L) := hd_add
          rw [← this]; exact r6
    | false =>
      rw [if_neg Bool.false_ne_true]
      obtain ⟨R9, hl9, s9⟩ := fin e5 σ4 H5 R7 (s4.trans s5) w4
      exact ⟨by omega, _, acc, ds, R9, hl9, rs.mono s9, by omega, q5⟩
  · have e0 : i = xs.length := by omega
    subst e0
    refine .inl ⟨stop, ?_⟩
    rw [List.drop_length] at q2
    exact k ds ev2 L acc Hc q2 (R2.weak hF) (s1.trans hsh) hL rs
end
section
variable {X : Cx} {M : Fm} {tg iter elt : Expr} {ifs : List Expr} {scope : Scope} {own : List (Str × Nat)} {pos : Pos} {t : VTA} {g : VG} {tt : VTB} {te : VT}
abbrev gX (K : PySem.W.Frag) (M : Fm) (vs : List Nat) (g : VG) : TG := fun v σ H Q => ∃ (B : Addr → Prop) (F' : Hp), LG K ⟨B, M.β⟩ F' vs g v σ H Q
abbrev tX (K : PySem.W.Frag) (M : Fm) (tt : VTB) : TT := fun σ H Q => ∃ (B : Addr → Prop) (F' : Hp), LB K ⟨B, M.β⟩ F' tt σ H Q
abbrev eX (K : PySem.W.Frag) (M : Fm) (te : VT) : TE := fun σ H Q => ∃ (B : Addr → Prop) (F' : Hp), LE K ⟨B, M.β⟩ F' te σ H Q
theorem pgX {X : Cx} {vs : List Nat} (h : ∀ B, VTg X ⟨B, M.β⟩ vs tg g) : PG X tg (gX X.K M vs g) := ⟨fun pins s' σ H' v u Q I r ⟨B, F', q⟩ => ((h B).pg F').run pins s' σ H' v u Q I r q⟩
theorem ptsX {X : Cx} (h : ∀ B, VBs X ⟨B, M.β⟩ ifs tt) : PTs X ifs (tX X.K M tt) := ⟨fun pins s' σ H' Q I ⟨B, F', q⟩ => ((h B).pt F').run pins s' σ H' Q I q⟩
theorem peX {X : Cx} (h : ∀ B, VE X ⟨B, M.β⟩ elt te) : PE X elt (eX X.K M te) := ⟨fun pins s' σ H' Q I ⟨B, F', q⟩ => ((h B).pe F').run pins s' σ H' Q I q⟩
/-- [elt for tg in iter if ..] -/
theorem vo_lc (hc : X.calm = true) (hN : X.N.Nodup) (hi : VW' X M tg iter t) (ok : BlkOk X.N X.env.scope scope own)
    (hg : ∀ (s : Shared) (H : Hp) (C : Addr) (cl : List (Str × Addr)) (fp : List Addr) (B : Addr → Prop), VTg (X.blk s H scope (compEnvC scope cl C X.env) fp) ⟨B, M.β⟩ (own.map (·.2)) tg g)
    (ht : ∀ (s : Shared) (H : Hp) (C : Addr) (cl : List (Str × Addr)) (fp : List Addr) (B : Addr → Prop), VBs (X.blk s H scope (compEnvC scope cl C X.env) fp) ⟨B, M.β⟩ ifs tt)
    (he : ∀ (s : Shared) (H : Hp) (C : Addr) (cl : List (Str × Addr)) (fp : List Addr) (B : Addr → Prop), VE (X.blk s H scope (compEnvC scope cl C X.env) fp) ⟨B, M.β⟩ elt te)
    (hs : ∀ x, foldedSetIterable iter X.env x = pure x := by intro _; rfl) :
    VO X M (.ListComp elt [⟨tg, iter, ifs, 0⟩] scope pos) (vLc t g tt te (own.map (·.2))) :=
  ⟨fun F => peI (pe_lc (g := gX X.K M (own.map (·.2)) g) (tt := tX X.K M tt) (te := eX X.K M te) hc hN (hi.pi F) ok (fun s H C cl fp => pgX (hg s H C cl fp)) (fun s H C cl fp => ptsX (ht s H C cl fp)) (fun s H C cl fp => peX (he s H C cl fp)) hs) lc_read⟩
/-- y = [..] on one line -/
theorem vs_setLc (i : Nat) {y : Str} {py spos : Pos} (hc : X.calm = true) (hN : X.N.Nodup) (hy : X.N[i]? = some y) (hyl : X.env.scope.names.lookup y = some .local) (hb : M.β = none ∨ i ≠ 0)
    (hsw : swapsWith (.ListComp elt [⟨tg, iter, ifs, 0⟩] scope pos) (some (.Name y py)) spos.line X.env = pure true) (hi : VW' X M tg iter t) (ok : BlkOk X.N X.env.scope scope own)
    (hg : ∀ (s : Shared) (H : Hp) (C : Addr) (cl : List (Str × Addr)) (fp : List Addr) (B : Addr → Prop), VTg (X.blk s H scope (compEnvC scope cl C X.env) fp) ⟨B, M.β⟩ (own.map (·.2)) tg g)
    (ht : ∀ (s : Shared) (H : Hp) (C : Addr) (cl : List (Str × Addr)) (fp : List Addr) (B : Addr → Prop), VBs (X.blk s H scope (compEnvC scope cl C X.env) fp) ⟨B, M.β⟩ ifs tt)
    (he : ∀ (s : Shared) (H : Hp) (C : Addr) (cl : List (Str × Addr)) (fp : List Addr) (B : Addr → Prop), VE (X.blk s H scope (compEnvC scope cl C X.env) fp) ⟨B, M.β⟩ elt te)
    (hs : ∀ x, foldedSetIterable iter X.env x = pure x := by intro _; rfl) :
    VSt X M (.Assign [.Name y py] (.ListComp elt [⟨tg, iter, ifs, 0⟩] scope pos) spos) (vSetO i (vLc t g tt te (own.map (·.2)))) := by
  refine ⟨fun F => ⟨fun pins s σ H D I ⟨ev, ρ, D', R, h, k⟩ => ?_⟩⟩
  have P := ps_setLc (g := gX X.K M (own.map (·.2)) g) (tt := tX X.K M tt) (te := eX X.K M te) hc hN hy hyl hsw (hi.pi F) ok (fun s H C cl fp => pgX (hg s H C cl fp)) (fun s H C cl fp => ptsX (ht s H C cl fp)) (fun s H C cl fp => peX (he s H C cl fp)) hs
  refine P.run pins s σ H D I (lc_read σ H _ ⟨ev, ρ, _, R, h, fun d e1 a vs H1 q1 R1 s1 ha r1 => ?_⟩)
  have hl : i < e1.length := by rw [R1.len, I.len]; exact (List.getElem?_eq_some_iff.mp hy).1
  exact k.nx _ _ H1 _ q1 (R1.setOw hl hb ha r1)
end

/-! ### defs -/
abbrev FnP (K : PySem.W.Frag) (x : Str) (st : Stmt) (f : Addr) (fd : FuncData) : Prop := FunD K x x (defArgs st) (defBody st) (defScope st) [] [] f fd
/-- a promise by data: nothing that stood is changed -/
def LF (K : PySem.W.Frag) (sp : VN) : Sp := fun vs H Q _ => ∃ (B : Addr → Prop) (ds : List D) (Qv : D → Prop), (∀ b, B b → Nt H b) ∧ Rps K (hid B H) vs ds ∧ sp ds Qv ∧
  ∀ d v H', Qv d → Same H H' → Rp K (hid B H') v d → Q v H'
def ev0 (N : List Str) (ds : List D) : Ev := ds.map .fr ++ List.replicate (N.length - ds.length) .un
theorem rl_start {K : PySem.W.Frag} {N : List Str} {B : Addr → Prop} {H : Hp} {vs : List V} {ds : List D} (hB : ∀ b, B b → Nt H b) (r : Rps K (hid B H) vs ds) : Rl K ⟨B, none⟩ H (ev0 N ds) (L2.start N vs) H (fun _ => none) := by
  have hh : hd ⟨B, none⟩ (fun _ => none) H = hid B H := by
    funext b
    show hid _ _ b = _
    unfold hid Own
    simp
  refine ⟨by unfold ev0 L2.start; simp [r.len], Same.refl _, fun i a e => (nomatch e), hB, fun i j a e => (nomatch e), fun i a e => (nomatch e), fun a e => (nomatch e), fun i => ?_⟩
  unfold SlotOk
  rw [hh]
  by_cases hi : i < ds.length
  · have e1 : sv (ev0 N ds) i = .fr ds[i] := by
      unfold sv ev0
      simp [List.getD, hi, List.getElem?_append_left]
    obtain ⟨v, h1, h2⟩ := r.get (List.getElem?_eq_getElem hi)
    rw [e1]
    refine ⟨rfl, v, ?_, h2⟩
    unfold L2.start
    rw [List.getElem?_append_left (by rw [List.length_map, r.len]; exact hi), List.getElem?_map, h1]
    rfl
  · have e1 : sv (ev0 N ds) i = .un := by
      unfold sv ev0
      simp only [List.getD]
      rw [List.getElem?_append_right (by simpa using hi), List.getElem?_replicate]
      split <;> rfl
    rw [e1]
    trivial
section
variable {P : Program} {w : World} {K : PySem.W.Frag} {mg : Str → Option Value} {base : Heap}
theorem fn_ok {x : Str} {st : Stmt} {f : Addr} {fd : FuncData} {N ps : List Str} {k : Nat} {sp : VN} {t : VS} (F : FnP K x st f fd) (S : FnScope N ps (defScope st)) (len : ∀ ds Q, sp ds Q → ds.length = ps.length)
    (hb : ∀ (cdv : Value) (A : Around) (outer : List Env) (s : Shared) (H : Hp) (E : XK) (B : Addr → Prop), Room k (A.deeper (envOfC x (defScope st) s.heap.objs.size f cdv)) →
      VSs (cxOf CX0 P w K mg base N x (defScope st) f cdv A outer s H E).nox ⟨B, none⟩ (defBody st) t)
    (hq : ∀ ds Q, sp ds Q → t { nx := fun _ => Q .none, rt := fun d _ => Q d } (ev0 N ds)) : FnOk P w K mg base CX0 (k + 1) f fd ps (LF K sp) := by
  refine F.ok S (fun vs H Q E ⟨B, ds, Qv, _, r, h, _⟩ => r.len.trans (len ds Qv h)) fun cdv A outer s H vs Q E hr ⟨B, ds, Qv, hB, r, h, post⟩ => ⟨_, PSs.nox ((hb cdv A outer s H E B hr).ps H), ev0 N ds, fun _ => none, _, rl_start hB r, hq ds Qv h, ?_⟩
  have up : ∀ {ρ : Nat → Option Addr} {H' : Hp}, Same (hd ⟨B, none⟩ ρ H') (hid B H') := same_hid_sub fun b z => .inl z
  exact ⟨fun ev σ H' ρ q R => post .none .non H' q R.frz .non, fun d v ev σ H' ρ q R rr => post d v H' q R.frz (rr.mono up), fun ev σ H' ρ q R => q.elim, fun ev σ H' ρ q R => q.elim⟩
end
section
variable {X : Cx} {M : Fm} {x : Str} {f : Addr} {fd : FuncData} {ps : List Str} {k : Nat} {sp : VN} {e : Expr} {es : List Expr} {t : VTA} {p pos : Pos}
theorem own_hid {M : Fm} {ρ : Nat → Option Addr} {H : Hp} : hid (Own M ρ) H = hd M ρ H := rfl
theorem ve_call (G : FnOk X.prog X.w X.K X.mg X.base CX0 k f fd ps (LF X.K sp)) (hr : Room k X.A) (hg : Gl X x) (hm : X.mg x = some (.ref f)) (hk : PySem.W.keepIn X.K (.ref f) = true) (hb : L2.Binds X.K fd ps []) (ha : VA X M (e :: es) t)
    (hdb : (x == ("__debug__" : Str)) = false := by decide) (he : starEach (e :: es) X.env = (false, eval e X.env) :: starEach es X.env := by rfl) (hpl : (backTo pos (starEach es X.env)).any (·.1) = false := by rfl) :
    VE X M (.Call (.Name x p) (e :: es) [] pos) (vCall sp t) :=
  ⟨fun F => peI (pe_call G hr hg hm hk hb .nil pass0 (ha.pa F) hdb he hpl) fun σ H Q ⟨ev, ρ, Qv, R, h, kk⟩ => ⟨ev, ρ, _, R, h, fun ds e1 vs H1 hn q1 R1 s1 r1 =>
    ⟨Own M ρ, ds, _, R1.trN, by rw [List.append_nil]; exact r1, q1, fun d v H' qd sm rr => kk d e1 v H' qd (R1.same sm) (s1.trans (same_hid sm)) rr⟩⟩⟩
theorem ve_call0 (G : FnOk X.prog X.w X.K X.mg X.base CX0 k f fd ps (LF X.K sp)) (hr : Room k X.A) (hg : Gl X x) (hm : X.mg x = some (.ref f)) (hk : PySem.W.keepIn X.K (.ref f) = true) (hb : L2.Binds X.K fd ps [])
    (hdb : (x == ("__debug__" : Str)) = false := by decide) : VE X M (.Call (.Name x p) [] [] pos) (vCall sp vNil) :=
  ⟨fun F => peI (pe_call0 G hr hg hm hk hb .nil pass0 hdb) fun σ H Q ⟨ev, ρ, Qv, R, h, kk⟩ =>
    ⟨Own M ρ, [], _, R.trN, .nil, h, fun d v H' qd sm rr => kk d ev v H' qd (R.same sm) (same_hid sm) rr⟩⟩
end

/-! ### defs that change the list that is their first argument -/
abbrev VIO := List D → List D → (List D → D → Prop) → Prop
def LFio (K : PySem.W.Frag) (sp : VIO) : Sp := fun vs H Q _ => ∃ (B : Addr → Prop) (a : Addr) (us ws : List V) (xs ds : List D) (Qv : List D → D → Prop), vs = .ref a :: ws ∧ (∀ b, B b → Nt H b) ∧ ¬ B a ∧ H a = some (.lst us) ∧
  Rps K (hid B (rem H a)) us xs ∧ Rps K (hid B (rem H a)) ws ds ∧ sp xs ds Qv ∧
  ∀ xs' d v us' H', Qv xs' d → Same (rem H a) H' → H' a = some (.lst us') → Rps K (hid B (rem H' a)) us' xs' → Rp K (hid B (rem H' a)) v d → Q v H'
def ev1 (N : List Str) (xs ds : List D) : Ev := .ow xs :: (ds.map .fr ++ List.replicate (N.length - (ds.length + 1)) .un)
theorem hd_one {B : Addr → Prop} {β : Option Addr} {a : Addr} {H : Hp} {ρ : Nat → Option Addr} (h : ∀ b, (∃ i, ρ i = some b) ↔ b = a) : hd ⟨B, β⟩ ρ H = hid B (rem H a) := by
  funext b
  show hid _ _ b = _
  unfold hid rem Own
  rw [h b]
  by_cases h1 : B b <;> by_cases h2 : b = a <;> simp [h1, h2]
theorem rl_start1 {K : PySem.W.Frag} {N : List Str} {B : Addr → Prop} {H : Hp} {a : Addr} {us ws : List V} {xs ds : List D} (hB : ∀ b, B b → Nt H b) (hBa : ¬ B a) (ha : H a = some (.lst us)) (r : Rps K (hid B (rem H a)) us xs) (r2 : Rps K (hid B (rem H a)) ws ds) :
    Rl K ⟨B, some a⟩ (rem H a) (ev1 N xs ds) (L2.start N (.ref a :: ws)) H (fun i => if i = 0 then some a else none) := by
  have hh : hd ⟨B, some a⟩ (fun i => if i = 0 then some a else none) H = hid B (rem H a) := hd_one fun b => ⟨(fun ⟨i, e⟩ => by
    split at e
    · exact (Option.some.inj e).symm
    · cases e), fun e => ⟨0, by rw [if_pos rfl, e]⟩⟩
  have one : ∀ {i b}, (fun i => if i = 0 then some a else none : Nat → Option Addr) i = some b → i = 0 ∧ b = a := fun {i b} e => by
    dsimp only at e
    split at e
    · next z => exact ⟨z, (Option.some.inj e).symm⟩
    · cases e
  refine ⟨by unfold ev1 L2.start; simp [r2.len], same_rem, fun i b e => ?_, fun b z => ?_, fun i j b e1 e2 => (one e1).1.trans (one e2).1.symm, fun i b e => by rw [(one e).1]; exact True.intro, fun b e => by cases e; exact if_pos rfl, fun i => ?_⟩
  · rw [(one e).2]; exact ⟨rem_at, hBa⟩
  · exact hB b z
  · unfold SlotOk
    rw [hh]
    cases i with
    | zero => exact ⟨a, us, if_pos rfl, rfl, ha, r⟩
    | succ i =>
      by_cases hi : i < ds.length
      · have e1 : sv (ev1 N xs ds) (i + 1) = .fr ds[i] := by
          unfold sv ev1
          simp [List.getD, hi, List.getElem?_append_left]
        obtain ⟨v, h1, h2⟩ := r2.get (List.getElem?_eq_getElem hi)
        rw [e1]
        refine ⟨if_neg (Nat.succ_ne_zero i), v, ?_, h2⟩
        unfold L2.start
        rw [List.getElem?_append_left (by rw [List.length_map, List.length_cons, r2.len]; omega), List.getElem?_map, List.getElem?_cons_succ, h1]
        rfl
      · have e1 : sv (ev1 N xs ds) (i + 1) = .un := by
          unfold sv ev1
          simp only [List.getD, List.getElem?_cons_succ]
          rw [List.getElem?_append_right (by simpa using hi), List.getElem?_replicate]
          split <;> rfl
        rw [e1]
        trivial
section
variable {P : Program} {w : World} {K : PySem.W.Frag} {mg : Str → Option Value} {base : Heap}
/-- what is wanted at the end: the list that slot 0 holds -/
def held (ev : Ev) (Q : List D → Prop) : Prop := match sv ev 0 with
  | .ow xs => Q xs
  | _ => False
def endIO (Q : List D → D → Prop) : VEnds := { nx := fun ev => held ev fun xs => Q xs .none, rt := fun d ev => held ev fun xs => Q xs d }
theorem fn_okIO {x : Str} {st : Stmt} {f : Addr} {fd : FuncData} {N ps : List Str} {k : Nat} {sp : VIO} {t : VS} (F : FnP K x st f fd) (S : FnScope N ps (defScope st)) (len : ∀ xs ds Q, sp xs ds Q → ds.length + 1 = ps.length)
    (hb : ∀ (cdv : Value) (A : Around) (outer : List Env) (s : Shared) (H : Hp) (E : XK) (B : Addr → Prop) (a : Addr), Room k (A.deeper (envOfC x (defScope st) s.heap.objs.size f cdv)) →
      VSs (cxOf CX0 P w K mg base N x (defScope st) f cdv A outer s H E).nox ⟨B, some a⟩ (defBody st) t)
    (hq : ∀ xs ds Q, sp xs ds Q → t (endIO Q) (ev1 N xs ds)) : FnOk P w K mg base CX0 (k + 1) f fd ps (LFio K sp) := by
  refine F.ok S (fun vs H Q E ⟨B, a, us, ws, xs, ds, Qv, e, _, _, _, _, r2, h, _⟩ => by rw [e, List.length_cons, r2.len]; exact len xs ds Qv h) fun cdv A outer s H vs Q E hr ⟨B, a, us, ws, xs, ds, Qv, e, hB, hBa, ha, r, r2, h, post⟩ => ?_
  subst e
  refine ⟨_, PSs.nox ((hb cdv A outer s H E B a hr).ps (rem H a)), ev1 N xs ds, _, _, rl_start1 hB hBa ha r r2, hq xs ds Qv h, ?_⟩
  have key : ∀ {d : D} {v : V} {ev : Ev} {σ : L2.St} {H' : Hp} {ρ : Nat → Option Addr} (q : held ev fun xs => Qv xs d) (R : Rl K ⟨B, some a⟩ (rem H a) ev σ H' ρ) (rr : Rp K (hd ⟨B, some a⟩ ρ H') v d), Q v H' := fun {d v ev σ H' ρ} q R rr => by
    have h0 := R.bx a rfl
    obtain ⟨es, e0⟩ : ∃ es, sv ev 0 = .ow es := by
      unfold held at q
      revert q
      cases sv ev 0 with
      | ow es => exact fun _ => ⟨es, rfl⟩
      | un => exact fun q => q.elim
      | fr _ => exact fun q => q.elim
      | rw _ => exact fun q => q.elim
      | dk _ => exact fun q => q.elim
    unfold held at q
    rw [e0] at q
    obtain ⟨b, us', g1, g2, g3, g4⟩ := R.getOw e0
    rw [h0] at g1; cases g1
    have up : Same (hd ⟨B, some a⟩ ρ H') (hid B (rem H' a)) := fun b o z => by
      obtain ⟨z1, z2⟩ := hid_some.mp z
      exact hid_some.mpr ⟨fun y => z1 (.inl y), rem_some.mpr ⟨fun y => z1 (.inr ⟨0, by rw [y]; exact h0⟩), z2⟩⟩
    exact post es d v us' H' q R.frz g3 (g4.mono up) (rr.mono up)
  exact ⟨fun ev σ H' ρ q R => key (d := .none) (v := .non) q R .non, fun d v ev σ H' ρ q R rr => key q R rr, fun ev σ H' ρ q R => q.elim, fun ev σ H' ρ q R => q.elim⟩
end
section
variable {X : Cx} {M : Fm} {x y : Str} {f : Addr} {fd : FuncData} {ps : List Str} {k : Nat} {sp : VIO} {e : Expr} {es : List Expr} {t : VTA} {p p2 pos : Pos}
def vCallIO (i : Nat) (sp : VIO) (t : VTA) : VT := fun ev Q => match sv ev i with
  | .ow _ => t ev fun ds e1 => match sv e1 i with
    | .ow xs => sp xs ds fun xs' d => Q d (e1.set i (.ow xs'))
    | _ => False
  | _ => False
theorem ve_callIO (i : Nat) (G : FnOk X.prog X.w X.K X.mg X.base CX0 k f fd ps (LFio X.K sp)) (hr : Room k X.A) (hg : Gl X x) (hm : X.mg x = some (.ref f)) (hk : PySem.W.keepIn X.K (.ref f) = true) (hb : L2.Binds X.K fd ps []) (hp : PE X (.Name y p2) (tVar i)) (ha : VA X M es t)
    (hdb : (x == ("__debug__" : Str)) = false := by decide) (he : starEach (.Name y p2 :: es) X.env = (false, eval (.Name y p2) X.env) :: starEach es X.env := by rfl) (hpl : (backTo pos (starEach es X.env)).any (·.1) = false := by rfl) :
    VE X M (.Call (.Name x p) (.Name y p2 :: es) [] pos) (vCallIO i sp t) :=
  ⟨fun F => peI (pe_call G hr hg hm hk hb .nil pass0 (pa_cons hp (ha.pa F) he) hdb he hpl) fun σ H Q ⟨ev, ρ, Qv, R, h, kk⟩ => by
    unfold vCallIO at h
    cases e0 : sv ev i with
    | ow ds0 =>
      rw [e0] at h
      obtain ⟨a, us0, h1, h2, h3, h4⟩ := R.getOw e0
      refine ⟨_, h2, ev, ρ, _, R, h, fun ds e1 vs H1 hn q1 R1 s1 r1 => ?_⟩
      cases e2 : sv e1 i with
      | ow xs =>
        rw [e2] at q1
        obtain ⟨a', us, g1, g2, g3, g4⟩ := R1.getOw e2
        rw [h1] at g1; cases g1
        have hh : ∀ {H' : Hp}, hid (fun b => Own M ρ b ∧ b ≠ a) (rem H' a) = hd M ρ H' := fun {H'} => by
          funext b
          show _ = hid _ _ b
          unfold hid rem
          by_cases z1 : b = a
          · have : Own M ρ b := .inr ⟨i, by rw [z1]; exact h1⟩
            simp [z1] at this ⊢
            exact fun z => absurd this z
          · simp [z1]
        refine ⟨fun b => Own M ρ b ∧ b ≠ a, a, us, vs ++ [], xs, ds, _, rfl, fun b z => R1.trN b z.1, fun z => z.2 rfl, g3, by rw [hh]; exact g4, by rw [hh, List.append_nil]; exact r1, q1, fun xs' d v us' H' qd sm ha' ru rv => ?_⟩
        rw [hh] at ru rv
        have eu : upd H' a (.lst us') = H' := by
          funext b
          by_cases z : b = a
          · rw [z, upd_same, ha']
          · rw [upd_ne z]
        have s2 : Same (hd M ρ H1) (hd M ρ H') := by
          rw [← hh (H' := H1), ← hh (H' := H')]
          exact same_hid fun b o z => by
            obtain ⟨z1, z2⟩ := rem_some.mp z
            exact rem_some.mpr ⟨z1, sm b o z⟩
        have R2 : Rl X.K M F (e1.set i (.ow xs')) σ H' ρ := by
          have hl : i < e1.length := sv_len (by rw [e2]; exact fun z => nomatch z)
          refine ⟨by rw [List.length_set]; exact R1.len, fun b o z => sm b o (rem_some.mpr ⟨(fun y => by rw [y, (R1.ofr i a h1).1] at z; cases z), R1.frz b o z⟩), R1.ofr, fun b z => ((R1.btr b z).of_eq (rem_ne (fun q => (R1.ofr i a h1).2 (by rw [← q]; exact z)))).mono sm, R1.inj, fun j b z => ?_, R1.bx, fun j => ?_⟩
          · rw [sv_set hl]
            by_cases y : j = i
            · rw [if_pos y]; exact True.intro
            · rw [if_neg y]; exact R1.ex j b z
          · rw [sv_set hl]
            by_cases y : j = i
            · rw [if_pos y, y]; exact ⟨a, us', h1, g2, ha', ru⟩
            · rw [if_neg y]
              have q := R1.sl j
              unfold SlotOk at q ⊢
              cases e9 : sv e1 j with
              | un => trivial
              | fr d => rw [e9] at q; exact ⟨q.1, q.2.imp fun v z => ⟨z.1, z.2.mono s2⟩⟩
              | ow ds =>
                rw [e9] at q
                obtain ⟨b, ws, k1, k2, k3, k4⟩ := q
                exact ⟨b, ws, k1, k2, sm _ _ (rem_some.mpr ⟨fun z => y (R1.inj j i b k1 (by rw [z]; exact h1)), k3⟩), k4.mono s2⟩
              | dk ds =>
                rw [e9] at q
                obtain ⟨b, ws, k1, k2, k3, k4⟩ := q
                exact ⟨b, ws, k1, k2, sm _ _ (rem_some.mpr ⟨fun z => y (R1.inj j i b k1 (by rw [z]; exact h1)), k3⟩), k4⟩
              | rw v => rw [e9] at q; exact ⟨q.1, q.2.imp fun a z => ⟨z.1, s2.seq z.2⟩⟩
        exact kk d _ v H' qd R2 (s1.trans s2) rv
      | un => rw [e2] at q1; exact q1.elim
      | fr _ => rw [e2] at q1; exact q1.elim
      | dk _ => rw [e2] at q1; exact q1.elim
      | rw _ => rw [e2] at q1; exact q1.elim
    | un => rw [e0] at h; exact h.elim
    | fr _ => rw [e0] at h; exact h.elim
    | dk _ => rw [e0] at h; exact h.elim
    | rw _ => rw [e0] at h; exact h.elim⟩
end

/-! ### defs whose first argument is the script -/
abbrev VSC := List Int → List D → (D → Prop) → Prop
def LFsc (K : PySem.W.Frag) (sp : VSC) : Sp := fun vs H Q _ => ∃ (B : Addr → Prop) (a : Addr) (ns : List Int) (ws : List V) (ds : List D) (Qv : D → Prop), vs = .ref a :: ws ∧ (∀ b, B b → Nt H b) ∧ SqL K (hid B H) a (ns.map V.int) ∧ Rps K (hid B H) ws ds ∧ sp ns ds Qv ∧
  ∀ d v H', Qv d → Same H H' → Rp K (hid B H') v d → Q v H'
def evS (N : List Str) (ns : List Int) (ds : List D) : Ev := .rw ns :: (ds.map .fr ++ List.replicate (N.length - (ds.length + 1)) .un)
theorem rl_startS {K : PySem.W.Frag} {N : List Str} {B : Addr → Prop} {H : Hp} {a : Addr} {ns : List Int} {ws : List V} {ds : List D} (hB : ∀ b, B b → Nt H b) (hs : SqL K (hid B H) a (ns.map V.int)) (r2 : Rps K (hid B H) ws ds) :
    Rl K ⟨B, none⟩ H (evS N ns ds) (L2.start N (.ref a :: ws)) H (fun _ => none) := by
  have hh : hd ⟨B, none⟩ (fun _ => none) H = hid B H := by
    funext b
    show hid _ _ b = _
    unfold hid Own
    simp
  refine ⟨by unfold evS L2.start; simp [r2.len], Same.refl _, fun i a e => (nomatch e), hB, fun i j a e => (nomatch e), fun i a e => (nomatch e), fun a e => (nomatch e), fun i => ?_⟩
  unfold SlotOk
  rw [hh]
  cases i with
  | zero => exact ⟨rfl, a, rfl, hs⟩
  | succ i =>
    by_cases hi : i < ds.length
    · have e1 : sv (evS N ns ds) (i + 1) = .fr ds[i] := by
        unfold sv evS
        simp [List.getD, hi, List.getElem?_append_left]
      obtain ⟨v, h1, h2⟩ := r2.get (List.getElem?_eq_getElem hi)
      rw [e1]
      refine ⟨rfl, v, ?_, h2⟩
      unfold L2.start
      rw [List.getElem?_append_left (by rw [List.length_map, List.length_cons, r2.len]; omega), List.getElem?_map, List.getElem?_cons_succ, h1]
      rfl
    · have e1 : sv (evS N ns ds) (i + 1) = .un := by
        unfold sv evS
        simp only [List.getD, List.getElem?_cons_succ]
        rw [List.getElem?_append_right (by simpa using hi), List.getElem?_replicate]
        split <;> rfl
      rw [e1]
      trivial
theorem fn_okSC {P : Program} {w : World} {K : PySem.W.Frag} {mg : Str → Option Value} {base : Heap} {x : Str} {st : Stmt} {f : Addr} {fd : FuncData} {N ps : List Str} {k : Nat} {sp : VSC} {t : VS} (F : FnP K x st f fd) (S : FnScope N ps (defScope st)) (len : ∀ ns ds Q, sp ns ds Q → ds.length + 1 = ps.length)
    (hb : ∀ (cdv : Value) (A : Around) (outer : List Env) (s : Shared) (H : Hp) (E : XK) (B : Addr → Prop), Room k (A.deeper (envOfC x (defScope st) s.heap.objs.size f cdv)) →
      VSs (cxOf CX0 P w K mg base N x (defScope st) f cdv A outer s H E).nox ⟨B, none⟩ (defBody st) t)
    (hq : ∀ ns ds Q, sp ns ds Q → t { nx := fun _ => Q .none, rt := fun d _ => Q d } (evS N ns ds)) : FnOk P w K mg base CX0 (k + 1) f fd ps (LFsc K sp) := by
  refine F.ok S (fun vs H Q E ⟨B, a, ns, ws, ds, Qv, e, _, _, r2, h, _⟩ => by rw [e, List.length_cons, r2.len]; exact len ns ds Qv h) fun cdv A outer s H vs Q E hr ⟨B, a, ns, ws, ds, Qv, e, hB, hs, r2, h, post⟩ => ?_
  subst e
  have up : ∀ {ρ : Nat → Option Addr} {H' : Hp}, Same (hd ⟨B, none⟩ ρ H') (hid B H') := same_hid_sub fun b z => .inl z
  exact ⟨_, PSs.nox ((hb cdv A outer s H E B hr).ps H), evS N ns ds, fun _ => none, _, rl_startS hB hs r2, hq ns ds Qv h,
    ⟨fun ev σ H' ρ q R => post .none .non H' q R.frz .non, fun d v ev σ H' ρ q R rr => post d v H' q R.frz (rr.mono up), fun ev σ H' ρ q R => q.elim, fun ev σ H' ρ q R => q.elim⟩⟩
def vCallSC (i : Nat) (sp : VSC) (t : VTA) : VT := fun ev Q => match sv ev i with
  | .rw ns => t ev fun ds e1 => sp ns ds fun d => Q d e1
  | _ => False
theorem ve_callSC {X : Cx} {M : Fm} {x y : Str} {f : Addr} {fd : FuncData} {ps : List Str} {k : Nat} {sp : VSC} {es : List Expr} {t : VTA} {p p2 pos : Pos} (i : Nat) (G : FnOk X.prog X.w X.K X.mg X.base CX0 k f fd ps (LFsc X.K sp)) (hr : Room k X.A) (hg : Gl X x) (hm : X.mg x = some (.ref f)) (hk : PySem.W.keepIn X.K (.ref f) = true) (hb : L2.Binds X.K fd ps []) (hp : PE X (.Name y p2) (tVar i)) (ha : VA X M es t)
    (hdb : (x == ("__debug__" : Str)) = false := by decide) (he : starEach (.Name y p2 :: es) X.env = (false, eval (.Name y p2) X.env) :: starEach es X.env := by rfl) (hpl : (backTo pos (starEach es X.env)).any (·.1) = false := by rfl) :
    VE X M (.Call (.Name x p) (.Name y p2 :: es) [] pos) (vCallSC i sp t) :=
  ⟨fun F => peI (pe_call G hr hg hm hk hb .nil pass0 (pa_cons hp (ha.pa F) he) hdb he hpl) fun σ H Q ⟨ev, ρ, Qv, R, h, kk⟩ => by
    unfold vCallSC at h
    cases e0 : sv ev i with
    | rw ns =>
      rw [e0] at h
      obtain ⟨a, h2, h3⟩ := R.getSc e0
      refine ⟨_, h2, ev, ρ, _, R, h, fun ds e1 vs H1 hn q1 R1 s1 r1 => ?_⟩
      exact ⟨Own M ρ, a, ns, vs ++ [], ds, _, rfl, R1.trN, s1.seq h3, by rw [List.append_nil]; exact r1, q1, fun d v H' qd sm rr => kk d e1 v H' qd (R1.same sm) (s1.trans (same_hid sm)) rr⟩
    | un => rw [e0] at h; exact h.elim
    | fr _ => rw [e0] at h; exact h.elim
    | dk _ => rw [e0] at h; exact h.elim
    | ow _ => rw [e0] at h; exact h.elim⟩
/-- _law_cell, a cell of the script or 0 -/
def sp__law_cell : VSC := fun ns ds Q => match ds with
  | [.int k] => 0 ≤ k ∧ Q (.int (cellOf ns k.toNat))
  | _ => False
theorem fn_cell {P : Program} {w : World} {K : PySem.W.Frag} {mg : Str → Option Value} {base : Heap} {f : Addr} {fd : FuncData} {k : Nat} (G : FnOk P w K mg base CX0 k f fd ["script", "k"] (spCell K)) : FnOk P w K mg base CX0 k f fd ["script", "k"] (LFsc K sp__law_cell) :=
  G.imp fun vs H Q E ⟨B, a, ns, ws, ds, Qv, e, hB, hs, r2, h, post⟩ => by
    subst e
    unfold sp__law_cell at h
    split at h
    · next k =>
      cases r2 with
      | cons r1 r2 =>
        cases r2
        cases r1
        refine ⟨a, ns, k.toNat, by rw [Int.toNat_of_nonneg h.1], same_hid_of.seq hs, post _ _ H h.2 (Same.refl _) (.int _)⟩
    · exact h.elim

/-! ### a def that stands -/
structure Cal (P : Program) (w : World) (K : PySem.W.Frag) (mg : Str → Option Value) (base : Heap) (k : Nat) (x : Str) (ps : List Str) (sp : Sp) (f : Addr) (fd : FuncData) : Prop where
  ok : FnOk P w K mg base CX0 k f fd ps sp
  b : L2.Binds K fd ps []
  kp : PySem.W.keepIn K (.ref f) = true
  m : mg x = some (.ref f)
/-- a name that may be looked at -/
theorem vt_lookP {X : Cx} {M : Fm} {x : Str} {pos : Pos} (i : Nat) (hp : PE X (.Name x pos) (tVar i)) (hs : starEach [.Name x pos] X.env = (false, eval (.Name x pos) X.env) :: starEach [] X.env := by rfl) : VTs X M [.Name x pos] (vLookA i) := ⟨fun F => paI (pa_cons hp pa_nil hs) fun σ H Q ⟨ev, ρ, Qv, R, h, k⟩ => by
  unfold vLookA at h
  cases e : sv ev i with
  | fr d =>
    rw [e] at h
    obtain ⟨v, h1, h2⟩ := R.getFr e
    exact ⟨v, h1, k _ ev _ H h R (Same.refl _) (.cons (.inl h2) .nil)⟩
  | un => rw [e] at h; exact h.elim
  | ow ds =>
    rw [e] at h
    obtain ⟨a, vs, h1, h2, h3, h4⟩ := R.getOw e
    exact ⟨_, h2, k _ ev _ H h R (Same.refl _) (.cons (.inr ⟨a, vs, ds, rfl, rfl, h3, h4⟩) .nil)⟩
  | dk _ => rw [e] at h; exact h.elim
  | rw _ => rw [e] at h; exact h.elim⟩
/-- a, b, c = x, y, z of plain local names -/
def vPar3 (i j l : Nat) (ta tb tc : VT) : VS := fun D ev => ta ev fun d e1 => tb e1 fun d2 e2 => tc e2 fun d3 e3 => D.nx (((e3.set i (.fr d)).set j (.fr d2)).set l (.fr d3))
theorem vs_par3 {X : Cx} {M : Fm} {a b c : Expr} {pos : Pos} (i j l : Nat) {x y z : Str} {ta tb tc : VT} {px py pz pt : Pos} {kt k2 pt2} (hc : X.calm = true) (hN : X.N.Nodup) (hi : X.N[i]? = some x) (hj : X.N[j]? = some y) (hl : X.N[l]? = some z) (hij : i ≠ j) (hil : i ≠ l) (hjl : j ≠ l) (hb : M.β = none ∨ (i ≠ 0 ∧ j ≠ 0 ∧ l ≠ 0))
    (hx : X.env.scope.names.lookup x = some .local) (hy : X.env.scope.names.lookup y = some .local) (hz : X.env.scope.names.lookup z = some .local) (ha : VE X M a ta) (hb2 : VE X M b tb) (hc2 : VE X M c tc)
    (hw : swappedStores [.Tuple [.Name x px, .Name y py, .Name z pz] kt pt] (.Tuple [a, b, c] k2 pt2) X.env = pure (some [x, y, z]))
    (hs : swapsWithSole [.Tuple [.Name x px, .Name y py, .Name z pz] kt pt] (.Tuple [a, b, c] k2 pt2) pos.line X.env = pure false := by rfl)
    (hq : starEach [a, b, c] X.env = (false, eval a X.env) :: starEach [b, c] X.env := by rfl) (hq2 : starEach [b, c] X.env = (false, eval b X.env) :: starEach [c] X.env := by rfl) (hq3 : starEach [c] X.env = (false, eval c X.env) :: starEach [] X.env := by rfl) :
    VSt X M (.Assign [.Tuple [.Name x px, .Name y py, .Name z pz] kt pt] (.Tuple [a, b, c] k2 pt2) pos) (vPar3 i j l ta tb tc) := by
  refine ⟨fun F => ⟨fun pins s σ H D I ⟨ev, ρ, D', R, h, k⟩ => (ps_par3 hc hN hi hj hl hij hil hjl hx hy hz (pa_cons (ha.pe F) (pa_cons (hb2.pe F) (pa_cons (hc2.pe F) pa_nil hq3) hq2) hq) hw hs).run pins s σ H D I ?_⟩⟩
  refine ⟨ev, ρ, _, R, h, fun d e1 v H1 q1 R1 s1 r1 => ⟨e1, ρ, _, R1, q1, fun d2 e2 v2 H2 q2 R2 s2 r2 => ⟨e2, ρ, _, R2, q2, fun d3 e3 v3 H3 q3 R3 s3 r3 => ⟨v, v2, v3, rfl, ?_⟩⟩⟩⟩
  have l1 : i < e3.length := by rw [R3.len, I.len]; exact (List.getElem?_eq_some_iff.mp hi).1
  have l2 : j < e3.length := by rw [R3.len, I.len]; exact (List.getElem?_eq_some_iff.mp hj).1
  have l3 : l < e3.length := by rw [R3.len, I.len]; exact (List.getElem?_eq_some_iff.mp hl).1
  have up : ∀ {ρ' : Nat → Option Addr} (i : Nat), Same (hd M ρ' H3) (hd M (put ρ' i none) H3) := fun {ρ'} i => same_hid_sub fun b z => own_put_none z
  have R4 := R3.setFr l1 (hb.imp id (·.1)) ((r1.mono s2).mono s3)
  have R5 := R4.setFr (by simpa using l2) (hb.imp id (·.2.1)) ((r2.mono s3).mono (up i))
  exact k.nx _ _ H3 _ q3 (R5.setFr (by simpa using l3) (hb.imp id (·.2.2)) ((r3.mono (up i)).mono (up j)))
end VL

set_option Elab.async false
set_option linter.all false
set_option maxRecDepth 100000
set_option maxHeartbeats 4000000
/-! The value layer, part G: operators and built-ins by data. -/
namespace VL
open PySem PySem.Spec PyProof.Rows L2
open Classical

section
variable {K : PySem.W.Frag} {O : Addr → Prop} {H H' : Hp} {v : V} {vs : List V} {i : Int} {b : Bool} {ds : List D} {d : D}
theorem rt_int (h : RpT K O H v (.int i)) : v = .int i := by
  rcases h with h | ⟨_, _, _, _, e, _⟩
  · cases h; rfl
  · cases e
theorem rt_bl (h : RpT K O H v (.bool b)) : v = .bl b := by
  rcases h with h | ⟨_, _, _, _, e, _⟩
  · cases h; rfl
  · cases e
theorem rt_non (h : RpT K O H v .none) : v = .non := by
  rcases h with h | ⟨_, _, _, _, e, _⟩
  · cases h; rfl
  · cases e
theorem rt_lst (h : RpT K O H v (.list ds)) : ∃ a xs, v = .ref a ∧ H a = some (.lst xs) ∧ Rps K (hid O H) xs ds := by
  rcases h with h | ⟨a, xs, es, e1, e2, h1, h2⟩
  · cases h with
    | lst h1 h2 => exact ⟨_, _, rfl, same_hid_of _ _ h1, h2⟩
  · cases e2; exact ⟨a, xs, e1, h1, h2⟩
theorem rt_tup (h : RpT K O H v (.tuple ds)) : ∃ a xs, v = .ref a ∧ SqT K (hid O H) a xs ∧ Rps K (hid O H) xs ds := by
  rcases h with h | ⟨_, _, _, _, e, _⟩
  · cases h with
    | tup h1 h2 => exact ⟨_, _, rfl, h1, h2⟩
  · cases e
theorem rt_dp (h : RpT K O H v d) : Dp K H v d := by
  rcases h with h | ⟨a, xs, es, rfl, rfl, h1, h2⟩
  · exact (h.mono same_hid_of).dp
  · exact .lst (SqL.of h1) (h2.mono same_hid_of).dp
/-- a new object that the hidden ones do not meet -/
theorem hid_new {p : Addr} {o : HO} (tr : ∀ b, O b → H b ≠ none) (n : H p = none) : hid O (upd H p o) p = some o := hid_some.mpr ⟨fun z => tr p z n, upd_same⟩
theorem new_tup {p : Addr} (tr : ∀ b, O b → H b ≠ none) (n : H p = none) (r : Rps K (hid O H) vs ds) : Rp K (hid O (upd H p (.tup vs))) (.ref p) (.tuple ds) := .tup (.inl (.inl (hid_new tr n))) (r.mono (same_hid (same_upd n)))
theorem new_lst {p : Addr} (tr : ∀ b, O b → H b ≠ none) (n : H p = none) (r : Rps K (hid O H) vs ds) : Rp K (hid O (upd H p (.lst vs))) (.ref p) (.list ds) := .lst (hid_new tr n) (r.mono (same_hid (same_upd n)))
end

/-! ### arithmetic -/
def mulOk (i j : Int) : Prop := (-18446744073709551616 < i ∧ i < 18446744073709551616) ∨ (-18446744073709551616 < j ∧ j < 18446744073709551616) ∨ CMulX i j
def divOk (j : Int) : Prop := j ≠ 0 ∧ ((-18446744073709551616 < j ∧ j < 18446744073709551616) ∨ j.natAbs.log2 < 9000)
def shlOk (i j : Int) : Prop := 0 ≤ j ∧ j ≤ 1000000 ∧ (-18446744073709551616 < i ∧ i < 18446744073709551616)
theorem mulOk.ok {i j : Int} (h : mulOk i j) : IntMulOk i j := by
  rcases h with h | h | h
  · exact CMul.ok (.inl (by have e : (2 : Int) ^ 64 = 18446744073709551616 := by decide
                            rw [e]; exact h))
  · exact CMul.ok (.inr (by have e : (2 : Int) ^ 64 = 18446744073709551616 := by decide
                            rw [e]; exact h))
  · exact h.ok
theorem divOk.log {j : Int} (h : divOk j) : j.natAbs.log2 < 9000 := by
  rcases h.2 with h1 | h1
  · have h2 : j.natAbs < 2 ^ 64 := by
      have e : (2 : Nat) ^ 64 = 18446744073709551616 := by decide
      rw [e]; omega
    have := PySem.Flt.log2_lt_of (by decide : 0 < 64) h2
    omega
  · exact h1
section
variable {X : Cx}
theorem op_mulV : OpR X (binaryOp .Mult) (rI mulOk fun i j => .int (i * j)) := opI fun _ _ _ _ _ _ _ hc q => mul_int q hc.ok
theorem op_fdivV : OpR X (binaryOp .FloorDiv) (rI (fun _ j => divOk j) fun i j => .int (i.fdiv j)) := opI fun _ _ _ _ _ _ _ hc q => floordiv_int hc.1 q (.inl (PyProof.noPylong_of_log2 hc.log))
theorem op_modV : OpR X (binaryOp .Mod) (rI (fun _ j => j ≠ 0) fun i j => .int (i.fmod j)) := op_modN
theorem iop_mulV : OpR X (inplaceOp .Mult) (rI mulOk fun i j => .int (i * j)) := opI fun _ _ _ _ _ _ _ hc q => imul_int q hc.ok
theorem iop_fdivV : OpR X (inplaceOp .FloorDiv) (rI (fun _ j => divOk j) fun i j => .int (i.fdiv j)) := opI fun _ _ _ _ _ _ _ hc q => ifloordiv_int hc.1 q (.inl (PyProof.noPylong_of_log2 hc.log))
theorem shl64 {i j : Int} (h : shlOk i j) : i.natAbs < 2 ^ 64 := by
  have h2 := h.2.2
  have e : (2 : Nat) ^ 64 = 18446744073709551616 := by decide
  rw [e]; omega
theorem op_shlV : OpR X (binaryOp .LShift) (rI shlOk fun i j => .int (i * 2 ^ j.toNat)) := opI fun _ _ _ _ _ _ _ hc q => lshift_int_small hc.1 hc.2.1 (shl64 hc) q
theorem op_powV : OpR X (binaryOp .Pow) (rI shlOk fun i j => .int (i ^ j.toNat)) := opI fun _ _ _ _ _ _ _ hc q => pow_int_small hc.1 hc.2.1 (shl64 hc) q
end
/-- two ints -/
def d2 (C : Int → Int → Prop) (g : Int → Int → D) : V2 := fun x y Q => match x, y with
  | .int i, .int j => C i j ∧ Q (g i j)
  | _, _ => False
def d20 (g : Int → Int → D) : V2 := fun x y Q => match x, y with
  | .int i, .int j => Q (g i j)
  | _, _ => False
section
variable {K : PySem.W.Frag}
theorem ov_I {C : Int → Int → Prop} {g : Int → Int → Int} : OpV K (rI C fun i j => .int (g i j)) (d2 C fun i j => .int (g i j)) := fun O H x y dx dy Q Qv tr rx ry h k => by
  cases dx with
  | int i =>
    cases dy with
    | int j => exact ⟨i, j, rt_int rx, rt_int ry, h.1, k _ H _ h.2 (Same.refl _) (.int _)⟩
    | _ => exact h.elim
  | _ => exact h.elim
theorem ov_I0 {g : Int → Int → Int} : OpV K (rI0 fun i j => .int (g i j)) (d20 fun i j => .int (g i j)) := fun O H x y dx dy Q Qv tr rx ry h k => by
  cases dx with
  | int i =>
    cases dy with
    | int j => exact ⟨i, j, rt_int rx, rt_int ry, k _ H _ h (Same.refl _) (.int _)⟩
    | _ => exact h.elim
  | _ => exact h.elim
theorem ov_B0 {g : Int → Int → Bool} : OpV K (rI0 fun i j => .bl (g i j)) (d20 fun i j => .bool (g i j)) := fun O H x y dx dy Q Qv tr rx ry h k => by
  cases dx with
  | int i =>
    cases dy with
    | int j => exact ⟨i, j, rt_int rx, rt_int ry, k _ H _ h (Same.refl _) (.bl _)⟩
    | _ => exact h.elim
  | _ => exact h.elim
theorem OpV.or {r r' : R2} {rv rv' : V2} (h : OpV K r rv) (h' : OpV K r' rv') : OpV K (fun x y H Q => r x y H Q ∨ r' x y H Q) (fun x y Q => rv x y Q ∨ rv' x y Q) := fun O H x y dx dy Q Qv tr rx ry q k => by
  rcases q with q | q
  · exact .inl (h O H x y dx dy Q Qv tr rx ry q k)
  · exact .inr (h' O H x y dx dy Q Qv tr rx ry q k)
theorem OpV.imp {r : R2} {rv rv' : V2} (h : OpV K r rv) (k : ∀ x y Q, rv' x y Q → rv x y Q) : OpV K r rv' := fun O H x y dx dy Q Qv tr rx ry q kk => h O H x y dx dy Q Qv tr rx ry (k _ _ _ q) kk
/-- tuples joined -/
def dCatT : V2 := fun x y Q => match x, y with
  | .tuple a, .tuple b => a.length + b.length ≤ sizeLine ∧ Q (.tuple (a ++ b))
  | _, _ => False
theorem ov_catT : OpV K (rCatA K) dCatT := fun O H x y dx dy Q Qv tr rx ry h k => by
  cases dx with
  | tuple a =>
    cases dy with
    | tuple b =>
      obtain ⟨p, xs, rfl, hp, r1⟩ := rt_tup rx
      obtain ⟨q, ys, rfl, hq, r2⟩ := rt_tup ry
      refine ⟨p, q, xs, ys, rfl, rfl, same_seqT same_hid_of hp, same_seqT same_hid_of hq, by rw [r1.len, r2.len]; exact h.1, fun e => ?_, fun e e2 => ?_, fun e e2 l n => ?_⟩
      · have ea : a = [] := r1.nil_iff.mp e
        subst ea
        exact k _ H _ h.2 (Same.refl _) (.tup hq r2)
      · have eb : b = [] := r2.nil_iff.mp e2
        subst eb
        have h2 := h.2
        rw [List.append_nil] at h2
        exact k _ H _ h2 (Same.refl _) (.tup hp r1)
      · exact k _ _ _ h.2 (same_upd n) (new_tup tr n (r1.app r2))
    | _ => exact h.elim
  | _ => exact h.elim
/-- lists joined: a new list -/
def dCat : V2 := fun x y Q => match x, y with
  | .list a, .list b => a.length + b.length ≤ sizeLine ∧ Q (.list (a ++ b))
  | _, _ => False
theorem ov_cat : OpV K rCat dCat := fun O H x y dx dy Q Qv tr rx ry h k => by
  cases dx with
  | list a =>
    cases dy with
    | list b =>
      obtain ⟨p, xs, rfl, hp, r1⟩ := rt_lst rx
      obtain ⟨q, ys, rfl, hq, r2⟩ := rt_lst ry
      exact ⟨p, q, xs, ys, rfl, rfl, hp, hq, by rw [r1.len, r2.len]; exact h.1, fun l n => k _ _ _ h.2 (same_upd n) (new_lst tr n (r1.app r2))⟩
    | _ => exact h.elim
  | _ => exact h.elim
/-- x + y -/
def dAdd : V2 := fun x y Q => match x, y with
  | .int i, .int j => Q (.int (i + j))
  | .tuple a, .tuple b => a.length + b.length ≤ sizeLine ∧ Q (.tuple (a ++ b))
  | .list a, .list b => a.length + b.length ≤ sizeLine ∧ Q (.list (a ++ b))
  | _, _ => False
abbrev rAddA (K : PySem.W.Frag) : R2 := fun x y H Q => rI0 (fun i j => .int (i + j)) x y H Q ∨ (rCatA K x y H Q ∨ rCat x y H Q)
theorem ov_add : OpV K (rAddA K) dAdd := (ov_I0.or (ov_catT.or ov_cat)).imp fun x y Q h => by
  unfold dAdd at h
  cases x <;> cases y <;> first | exact h.elim | exact .inl h | exact .inr (.inl h) | exact .inr (.inr h)
/-- x * y -/
def dMul : V2 := fun x y Q => match x, y with
  | .int i, .int j => mulOk i j ∧ Q (.int (i * j))
  | .tuple a, .int k => (a ≠ [] ∧ 2 ≤ k ∧ k ≤ 1000 ∧ a.length ≤ 1000) ∧ Q (.tuple (List.replicate k.toNat a).flatten)
  | _, _ => False
abbrev rMulA (K : PySem.W.Frag) : R2 := fun x y H Q => rI mulOk (fun i j => .int (i * j)) x y H Q ∨ rRepT K x y H Q
theorem ov_mul : OpV K (rMulA K) dMul := fun O H x y dx dy Q Qv tr rx ry h k => by
  cases dx with
  | int i =>
    cases dy with
    | int j => exact .inl ⟨i, j, rt_int rx, rt_int ry, h.1, k _ H _ h.2 (Same.refl _) (.int _)⟩
    | _ => exact h.elim
  | tuple a =>
    cases dy with
    | int j =>
      obtain ⟨p, xs, rfl, hp, r1⟩ := rt_tup rx
      obtain ⟨⟨h1, h2, h3, h4⟩, h5⟩ := h
      exact .inr ⟨p, j, xs, rfl, rt_int ry, same_seqT same_hid_of hp, fun z => h1 (r1.nil_iff.mp z), h2, h3, by rw [r1.len]; exact h4, fun l n => k _ _ _ h5 (same_upd n) (new_tup tr n (r1.flatten _))⟩
    | _ => exact h.elim
  | _ => exact h.elim
/-! ### comparisons -/
def dEq : V2 := fun x y Q => match x, y with
  | .int i, .int j => Q (.bool (decide (i = j)))
  | x, y => (SeqAt.shaped x = true ∧ SeqAt.shaped y = true) ∧ Q (.bool (PyData.eqv x y))
def dNe : V2 := fun x y Q => match x, y with
  | .int i, .int j => Q (.bool (!decide (i = j)))
  | x, y => (SeqAt.shaped x = true ∧ SeqAt.shaped y = true) ∧ Q (.bool (!PyData.eqv x y))
theorem shaped_int (i : Int) : SeqAt.shaped (.int i) = true := by simp [SeqAt.shaped, PyData.canLay0, PyData.depth]
theorem eqv_int (i j : Int) : PyData.eqv (.int i) (.int j) = decide (i = j) := by
  rw [PyData.eqv, Bool.beq_eq_decide_eq]
theorem ov_eq : OpV K (rEqD K) dEq := fun O H x y dx dy Q Qv tr rx ry h k => by
  have go : SeqAt.shaped dx = true ∧ SeqAt.shaped dy = true ∧ Qv (.bool (PyData.eqv dx dy)) := by
    unfold dEq at h
    split at h
    · exact ⟨shaped_int _, shaped_int _, by rw [eqv_int]; exact h⟩
    · exact ⟨h.1.1, h.1.2, h.2⟩
  exact ⟨dx, dy, rt_dp rx, rt_dp ry, go.1, go.2.1, k _ H _ go.2.2 (Same.refl _) (.bl _)⟩
theorem ov_ne : OpV K (rNeD K) dNe := fun O H x y dx dy Q Qv tr rx ry h k => by
  have go : SeqAt.shaped dx = true ∧ SeqAt.shaped dy = true ∧ Qv (.bool (!PyData.eqv dx dy)) := by
    unfold dNe at h
    split at h
    · exact ⟨shaped_int _, shaped_int _, by rw [eqv_int]; exact h⟩
    · exact ⟨h.1.1, h.1.2, h.2⟩
  exact ⟨dx, dy, rt_dp rx, rt_dp ry, go.1, go.2.1, k _ H _ go.2.2 (Same.refl _) (.bl _)⟩
/-- is -/
def isN : D → Bool
  | .none => true
  | _ => false
def dIsN : V2 := fun x y Q => match y with
  | .none => Q (.bool (isN x))
  | _ => False
def dNotN : V2 := fun x y Q => match y with
  | .none => Q (.bool (!isN x))
  | _ => False
theorem rp_isN {H : Hp} {O : Addr → Prop} {v : V} {d : D} (h : RpT K O H v d) : decide (v = .non) = isN d := by
  rcases h with h | ⟨a, xs, ds, rfl, rfl, _, _⟩
  · cases h <;> simp [isN]
  · simp [isN]
abbrev rIsN : R2 := fun x y H Q => y = .non ∧ Q (.bl (decide (x = .non))) H
abbrev rNotN : R2 := fun x y H Q => y = .non ∧ Q (.bl (!decide (x = .non))) H
theorem ov_isN : OpV K rIsN dIsN := fun O H x y dx dy Q Qv tr rx ry h k => by
  cases dy with
  | none => exact ⟨rt_non ry, by rw [rp_isN rx]; exact k _ H _ h (Same.refl _) (.bl _)⟩
  | _ => exact h.elim
theorem ov_notN : OpV K rNotN dNotN := fun O H x y dx dy Q Qv tr rx ry h k => by
  cases dy with
  | none => exact ⟨rt_non ry, by rw [rp_isN rx]; exact k _ H _ h (Same.refl _) (.bl _)⟩
  | _ => exact h.elim
def dIsB : V2 := fun x y Q => match x, y with
  | .bool a, .bool b => Q (.bool (decide (a = b)))
  | _, _ => False
def dNotB : V2 := fun x y Q => match x, y with
  | .bool a, .bool b => Q (.bool (!decide (a = b)))
  | _, _ => False
theorem ov_isB : OpV K rIsB dIsB := fun O H x y dx dy Q Qv tr rx ry h k => by
  cases dx with
  | bool a =>
    cases dy with
    | bool b => exact ⟨a, b, rt_bl rx, rt_bl ry, k _ H _ h (Same.refl _) (.bl _)⟩
    | _ => exact h.elim
  | _ => exact h.elim
theorem ov_notB : OpV K rNotB dNotB := fun O H x y dx dy Q Qv tr rx ry h k => by
  cases dx with
  | bool a =>
    cases dy with
    | bool b => exact ⟨a, b, rt_bl rx, rt_bl ry, k _ H _ h (Same.refl _) (.bl _)⟩
    | _ => exact h.elim
  | _ => exact h.elim
/-! ### in -/
/-- an int in a tuple of ints; any data in a list of data -/
def dInI (neg : Bool) : V2 := fun x y Q => match x, y with
  | .int i, .tuple ds => ∃ ns : List Int, ds = ns.map .int ∧ Q (.bool (if neg then !decide (i ∈ ns) else decide (i ∈ ns)))
  | x, .list ds => (SeqAt.shaped x = true ∧ SeqAt.shaped (.list ds) = true) ∧ Q (.bool (if neg then !ds.any fun z => PyData.eqv z x else ds.any fun z => PyData.eqv z x))
  | _, _ => False
theorem inV_ints (i : Int) (ns : List Int) : inV (.int i) (ns.map V.int) = decide (i ∈ ns) := by
  unfold inV
  rw [List.any_map, Bool.eq_iff_iff, List.any_eq_true, decide_eq_true_eq]
  constructor
  · rintro ⟨x, h1, h2⟩
    have : eqV (.int x) (.int i) = (x == i) := rfl
    have e : x = i := by simpa [this] using h2
    exact e ▸ h1
  · intro h
    exact ⟨i, h, by show eqV (.int i) (.int i) = true; simp [eqV]⟩
theorem flat_ints (ns : List Int) : (ns.map V.int).all flatV = true := by
  induction ns with
  | nil => rfl
  | cons n ns ih => rw [List.map_cons, List.all_cons, ih]; rfl
theorem ov_in : OpV K (fun x y H Q => rIn K false x y H Q ∨ rInD K x y H Q) (dInI false) := fun O H x y dx dy Q Qv tr rx ry h k => by
  cases dy with
  | tuple ds =>
    cases dx with
    | int i =>
      obtain ⟨ns, rfl, q⟩ := h
      obtain ⟨p, xs, rfl, hp, r1⟩ := rt_tup ry
      have e := r1.ints
      subst e
      have := rt_int rx
      subst this
      refine .inl ⟨p, _, rfl, .inr (same_seqT same_hid_of hp), rfl, flat_ints ns, ?_⟩
      rw [inV_ints]
      exact k _ H _ q (Same.refl _) (.bl _)
    | _ => exact h.elim
  | list ds =>
    have h' : (SeqAt.shaped dx = true ∧ SeqAt.shaped (.list ds) = true) ∧ Qv (.bool (ds.any fun z => PyData.eqv z dx)) := by
      unfold dInI at h; cases dx <;> exact h
    exact .inr ⟨dx, ds, rt_dp rx, rt_dp ry, h'.1.1, h'.1.2, k _ H _ h'.2 (Same.refl _) (.bl _)⟩
  | _ => cases dx <;> exact h.elim
theorem ov_notIn : OpV K (fun x y H Q => rIn K true x y H Q ∨ rNotInD K x y H Q) (dInI true) := fun O H x y dx dy Q Qv tr rx ry h k => by
  cases dy with
  | tuple ds =>
    cases dx with
    | int i =>
      obtain ⟨ns, rfl, q⟩ := h
      obtain ⟨p, xs, rfl, hp, r1⟩ := rt_tup ry
      have e := r1.ints
      subst e
      have := rt_int rx
      subst this
      refine .inl ⟨p, _, rfl, .inr (same_seqT same_hid_of hp), rfl, flat_ints ns, ?_⟩
      rw [inV_ints]
      exact k _ H _ q (Same.refl _) (.bl _)
    | _ => exact h.elim
  | list ds =>
    have h' : (SeqAt.shaped dx = true ∧ SeqAt.shaped (.list ds) = true) ∧ Qv (.bool (!ds.any fun z => PyData.eqv z dx)) := by
      unfold dInI at h; cases dx <;> exact h
    exact .inr ⟨dx, ds, rt_dp rx, rt_dp ry, h'.1.1, h'.1.2, k _ H _ h'.2 (Same.refl _) (.bl _)⟩
  | _ => cases dx <;> exact h.elim
/-! ### items and slices -/
def dIx : V2 := fun x y Q => match x, y with
  | .list ds, .int i => match atI ds i with
    | some d => Q d
    | none => False
  | .tuple ds, .int i => match atI ds i with
    | some d => Q d
    | none => False
  | _, _ => False
theorem Rps.at {H : Hp} {vs : List V} {ds : List D} {i : Int} {d : D} (r : Rps K H vs ds) (e : atI ds i = some d) : ∃ v, atI vs i = some v ∧ Rp K H v d := by
  unfold atI at e ⊢
  rw [r.len]
  cases q : ixN ds.length i with
  | none => rw [q] at e; cases e
  | some j => rw [q] at e; exact r.get e
abbrev rIxA (K : PySem.W.Frag) : R2 := fun x y H Q => rIxL K x y H Q ∨ rIxT K x y H Q
theorem ov_ix : OpV K (rIxA K) dIx := fun O H x y dx dy Q Qv tr rx ry h k => by
  cases dx with
  | list ds =>
    cases dy with
    | int i =>
      obtain ⟨p, xs, rfl, hp, r1⟩ := rt_lst rx
      unfold dIx at h
      dsimp only at h
      cases e : atI ds i with
      | none => rw [e] at h; exact h.elim
      | some d =>
        rw [e] at h
        obtain ⟨v, h1, h2⟩ := r1.at e
        exact .inl ⟨p, xs, i, v, rfl, rt_int ry, SqL.of hp, h1, k _ H _ h (Same.refl _) h2⟩
    | _ => exact h.elim
  | tuple ds =>
    cases dy with
    | int i =>
      obtain ⟨p, xs, rfl, hp, r1⟩ := rt_tup rx
      unfold dIx at h
      dsimp only at h
      cases e : atI ds i with
      | none => rw [e] at h; exact h.elim
      | some d =>
        rw [e] at h
        obtain ⟨v, h1, h2⟩ := r1.at e
        exact .inr ⟨p, xs, i, v, rfl, rt_int ry, same_seqT same_hid_of hp, h1, k _ H _ h (Same.refl _) h2⟩
    | _ => exact h.elim
  | _ => exact h.elim
end
end VL

set_option Elab.async false
set_option linter.all false
set_option maxRecDepth 100000
set_option maxHeartbeats 4000000
/-! The value layer, part H: built-in calls, slices. -/
theorem L2.Room.units65 {k : Nat} {A : PySem.Around} (r : L2.Room k A) : A.units + 65 < PySem.cLine := by have := r.un; omega
namespace VL
open PySem PySem.Spec PyProof.Rows L2
open Classical

section
variable {K : PySem.W.Frag} {O : Addr → Prop} {H : Hp} {vs : List V} {d d2 : D}
theorem rts1 (h : RpTs K O H vs [d]) : ∃ v, vs = [v] ∧ RpT K O H v d := by
  cases h with
  | cons h1 h2 => cases h2; exact ⟨_, rfl, h1⟩
theorem rts2 (h : RpTs K O H vs [d, d2]) : ∃ v w, vs = [v, w] ∧ RpT K O H v d ∧ RpT K O H w d2 := by
  cases h with
  | cons h1 h2 =>
    cases h2 with
    | cons h2 h3 => cases h3; exact ⟨_, _, rfl, h1, h2⟩
/-- len -/
def cLen : VN := fun ds Q => match ds with
  | [.list xs] => Q (.int xs.length)
  | [.tuple xs] => Q (.int xs.length)
  | _ => False
abbrev rLenQ (K : PySem.W.Frag) : List V → Hp → VK → Prop := fun xs H Q => ∃ p ys, xs = [.ref p] ∧ (SqL K H p ys ∨ SqT K H p ys) ∧ Q (.int ys.length) H
theorem cv_len : CallV K (rLenQ K) cLen := fun O H xs ds Q Qv tr r h k => by
  unfold cLen at h
  split at h
  · obtain ⟨v, rfl, r1⟩ := rts1 r
    obtain ⟨a, ys, rfl, h1, h2⟩ := rt_lst r1
    exact ⟨a, ys, rfl, .inl (SqL.of h1), by rw [h2.len]; exact k _ H _ h (Same.refl _) (.int _)⟩
  · obtain ⟨v, rfl, r1⟩ := rts1 r
    obtain ⟨a, ys, rfl, h1, h2⟩ := rt_tup r1
    exact ⟨a, ys, rfl, .inr (same_seqT same_hid_of h1), by rw [h2.len]; exact k _ H _ h (Same.refl _) (.int _)⟩
  · exact h.elim
/-- abs -/
def cAbs : VN := fun ds Q => match ds with
  | [.int i] => Q (.int (if i < 0 then -i else i))
  | _ => False
abbrev rAbsQ : List V → Hp → VK → Prop := fun xs H Q => ∃ i, xs = [.int i] ∧ Q (.int (if i < 0 then -i else i)) H
theorem cv_abs : CallV K rAbsQ cAbs := fun O H xs ds Q Qv tr r h k => by
  unfold cAbs at h
  split at h
  · obtain ⟨v, rfl, r1⟩ := rts1 r
    obtain rfl := rt_int r1
    exact ⟨_, rfl, k _ H _ h (Same.refl _) (.int _)⟩
  · exact h.elim
/-- max, min of two -/
def cMax2 : VN := fun ds Q => match ds with
  | [.int i, .int j] => Q (.int (if j > i then j else i))
  | _ => False
def cMin2 : VN := fun ds Q => match ds with
  | [.int i, .int j] => Q (.int (if j < i then j else i))
  | _ => False
abbrev rMax2Q : List V → Hp → VK → Prop := fun xs H Q => ∃ i j, xs = [.int i, .int j] ∧ Q (.int (if j > i then j else i)) H
abbrev rMin2Q : List V → Hp → VK → Prop := fun xs H Q => ∃ i j, xs = [.int i, .int j] ∧ Q (.int (if j < i then j else i)) H
theorem cv_max2 : CallV K rMax2Q cMax2 := fun O H xs ds Q Qv tr r h k => by
  unfold cMax2 at h
  split at h
  · obtain ⟨v, w, rfl, r1, r2⟩ := rts2 r
    obtain rfl := rt_int r1
    obtain rfl := rt_int r2
    exact ⟨_, _, rfl, k _ H _ h (Same.refl _) (.int _)⟩
  · exact h.elim
theorem cv_min2 : CallV K rMin2Q cMin2 := fun O H xs ds Q Qv tr r h k => by
  unfold cMin2 at h
  split at h
  · obtain ⟨v, w, rfl, r1, r2⟩ := rts2 r
    obtain rfl := rt_int r1
    obtain rfl := rt_int r2
    exact ⟨_, _, rfl, k _ H _ h (Same.refl _) (.int _)⟩
  · exact h.elim
/-- int(x) -/
def cInt : VN := fun ds Q => match ds with
  | [.int i] => Q (.int i)
  | [.bool b] => Q (.int (if b then 1 else 0))
  | _ => False
abbrev rIntQ : List V → Hp → VK → Prop := fun xs H Q => (∃ i, xs = [.int i] ∧ Q (.int i) H) ∨ ∃ k, xs = [.bl k] ∧ Q (.int (if k then 1 else 0)) H
theorem cv_int : CallV K rIntQ cInt := fun O H xs ds Q Qv tr r h k => by
  unfold cInt at h
  split at h
  · obtain ⟨v, rfl, r1⟩ := rts1 r
    obtain rfl := rt_int r1
    exact .inl ⟨_, rfl, k _ H _ h (Same.refl _) (.int _)⟩
  · obtain ⟨v, rfl, r1⟩ := rts1 r
    obtain rfl := rt_bl r1
    exact .inr ⟨_, rfl, k _ H _ h (Same.refl _) (.int _)⟩
  · exact h.elim
/-- tuple(x) -/
def cTup : VN := fun ds Q => match ds with
  | [.list xs] => Q (.tuple xs)
  | [.tuple xs] => Q (.tuple xs)
  | _ => False
abbrev rTupQ (K : PySem.W.Frag) : List V → Hp → VK → Prop := fun xs H Q => ∃ p ys, xs = [.ref p] ∧ ((SqL K H p ys ∧ ∀ l, H l = none → Q (.ref l) (upd H l (.tup ys))) ∨ (SqT K H p ys ∧ Q (.ref p) H))
theorem cv_tup : CallV K (rTupQ K) cTup := fun O H xs ds Q Qv tr r h k => by
  unfold cTup at h
  split at h
  · obtain ⟨v, rfl, r1⟩ := rts1 r
    obtain ⟨a, ys, rfl, h1, h2⟩ := rt_lst r1
    exact ⟨a, ys, rfl, .inl ⟨SqL.of h1, fun l n => k _ _ _ h (same_upd n) (new_tup tr n h2)⟩⟩
  · obtain ⟨v, rfl, r1⟩ := rts1 r
    obtain ⟨a, ys, rfl, h1, h2⟩ := rt_tup r1
    exact ⟨a, ys, rfl, .inr ⟨same_seqT same_hid_of h1, k _ H _ h (Same.refl _) (.tup h1 h2)⟩⟩
  · exact h.elim
/-- list(x): new -/
def cLst : List D → (List D → Prop) → Prop := fun ds Q => match ds with
  | [.list xs] => Q xs
  | [.tuple xs] => Q xs
  | _ => False
abbrev rLstQ (K : PySem.W.Frag) : List V → Hp → VK → Prop := fun xs H Q => ∃ p ys, xs = [.ref p] ∧ (SqL K H p ys ∨ SqT K H p ys) ∧ ∀ l, H l = none → Q (.ref l) (upd H l (.lst ys))
theorem co_lst : CallO K (rLstQ K) cLst := fun O H xs ds Q Qv tr r h k => by
  unfold cLst at h
  split at h
  · obtain ⟨v, rfl, r1⟩ := rts1 r
    obtain ⟨a, ys, rfl, h1, h2⟩ := rt_lst r1
    exact ⟨a, ys, rfl, .inl (SqL.of h1), fun l n => k l ys _ h n h2⟩
  · obtain ⟨v, rfl, r1⟩ := rts1 r
    obtain ⟨a, ys, rfl, h1, h2⟩ := rt_tup r1
    exact ⟨a, ys, rfl, .inr (same_seqT same_hid_of h1), fun l n => k l ys _ h n h2⟩
  · exact h.elim
/-- sum, all, any of a list -/
def intsOf : List D → Option (List Int)
  | [] => some []
  | .int i :: r => (intsOf r).map (i :: ·)
  | _ :: _ => none
theorem intsOf_map (ns : List Int) : intsOf (ns.map .int) = some ns := by
  induction ns with
  | nil => rfl
  | cons n ns ih => simp [intsOf, ih]
theorem intsOf_eq : ∀ {ds : List D} {ns : List Int}, intsOf ds = some ns → ds = ns.map .int
  | [], ns, h => by cases h; rfl
  | .int i :: r, ns, h => by
    unfold intsOf at h
    cases e : intsOf r with
    | none => rw [e] at h; cases h
    | some ms => rw [e] at h; cases h; rw [intsOf_eq e]; rfl
  | .none :: _, _, h => by cases h
  | .bool _ :: _, _, h => by cases h
  | .str _ :: _, _, h => by cases h
  | .list _ :: _, _, h => by cases h
  | .tuple _ :: _, _, h => by cases h
  | .dict _ :: _, _, h => by cases h
def boolsOf : List D → Option (List Bool)
  | [] => some []
  | .bool i :: r => (boolsOf r).map (i :: ·)
  | _ :: _ => none
theorem boolsOf_map (ns : List Bool) : boolsOf (ns.map .bool) = some ns := by
  induction ns with
  | nil => rfl
  | cons n ns ih => simp [boolsOf, ih]
theorem boolsOf_eq : ∀ {ds : List D} {ns : List Bool}, boolsOf ds = some ns → ds = ns.map .bool
  | [], ns, h => by cases h; rfl
  | .bool i :: r, ns, h => by
    unfold boolsOf at h
    cases e : boolsOf r with
    | none => rw [e] at h; cases h
    | some ms => rw [e] at h; cases h; rw [boolsOf_eq e]; rfl
  | .none :: _, _, h => by cases h
  | .int _ :: _, _, h => by cases h
  | .str _ :: _, _, h => by cases h
  | .list _ :: _, _, h => by cases h
  | .tuple _ :: _, _, h => by cases h
  | .dict _ :: _, _, h => by cases h
def cSum : VN := fun ds Q => match ds with
  | [.list xs] => match intsOf xs with
    | some ns => Q (.int ns.sum)
    | none => False
  | _ => False
theorem cv_sum : CallV K (rSum K) cSum := fun O H xs ds Q Qv tr r h k => by
  unfold cSum at h
  split at h
  · next ys =>
    cases e : intsOf ys with
    | none => rw [e] at h; exact h.elim
    | some ns =>
      rw [e] at h
      have e2 := intsOf_eq e
      subst e2
      obtain ⟨v, rfl, r1⟩ := rts1 r
      obtain ⟨a, ys, rfl, h1, h2⟩ := rt_lst r1
      have e := h2.ints
      subst e
      exact ⟨a, ns, rfl, SqL.of h1, k _ H _ h (Same.refl _) (.int _)⟩
  · exact h.elim
def cAll : VN := fun ds Q => match ds with
  | [.list xs] => match boolsOf xs with
    | some ns => Q (.bool (ns.all id))
    | none => False
  | _ => False
theorem cv_all : CallV K (rAll K) cAll := fun O H xs ds Q Qv tr r h k => by
  unfold cAll at h
  split at h
  · next ys =>
    cases e : boolsOf ys with
    | none => rw [e] at h; exact h.elim
    | some ns =>
      rw [e] at h
      have e2 := boolsOf_eq e
      subst e2
      obtain ⟨v, rfl, r1⟩ := rts1 r
      obtain ⟨a, ys, rfl, h1, h2⟩ := rt_lst r1
      have e := h2.bools
      subst e
      exact ⟨a, ns, rfl, SqL.of h1, k _ H _ h (Same.refl _) (.bl _)⟩
  · exact h.elim
def cAny : VN := fun ds Q => match ds with
  | [.list xs] => match boolsOf xs with
    | some ns => Q (.bool (ns.any id))
    | none => False
  | _ => False
theorem cv_any : CallV K (rAny K) cAny := fun O H xs ds Q Qv tr r h k => by
  unfold cAny at h
  split at h
  · next ys =>
    cases e : boolsOf ys with
    | none => rw [e] at h; exact h.elim
    | some ns =>
      rw [e] at h
      have e2 := boolsOf_eq e
      subst e2
      obtain ⟨v, rfl, r1⟩ := rts1 r
      obtain ⟨a, ys, rfl, h1, h2⟩ := rt_lst r1
      have e := h2.bools
      subst e
      exact ⟨a, ns, rfl, SqL.of h1, k _ H _ h (Same.refl _) (.bl _)⟩
  · exact h.elim
/-- -x -/
def dNeg : V1 := fun x Q => match x with
  | .int i => Q (.int (-i))
  | _ => False
theorem uv_neg : UnV K (rU fun i => .int (-i)) dNeg := fun O H x dx Q Qv tr r h k => by
  cases dx with
  | int i => cases r; exact ⟨i, rfl, k _ H _ h (Same.refl _) (.int _)⟩
  | _ => exact h.elim
end
section
variable {X : Cx} {e a b c tg : Expr} {pos : Pos} {M : Fm}
/-! ### slices -/
abbrev VP := Ev → (Option Int → Ev → Prop) → Prop
def LP (K : PySem.W.Frag) (M : Fm) (F : Hp) (t : VP) : TO := fun σ H Q => ∃ ev ρ Qv, Rl K M F ev σ H ρ ∧ t ev Qv ∧
  ∀ o ev' H', Qv o ev' → Rl K M F ev' σ H' ρ → Same (hd M ρ H) (hd M ρ H') → Q o H'
structure VPt (X : Cx) (M : Fm) (e : Option Expr) (t : VP) : Prop where
  po : ∀ F, PO X e (LP X.K M F t)
theorem poI {e : Option Expr} {t t' : TO} (h : PO X e t) (k : ∀ σ H Q, t' σ H Q → t σ H Q) : PO X e t' := ⟨fun pins s σ H Q I q => h.run pins s σ H Q I (k σ H Q q)⟩
def vP0 : VP := fun ev Q => Q none ev
def vP1 (t : VT) : VP := fun ev Q => t ev fun d e1 => match d with
  | .int i => Q (some i) e1
  | _ => False
theorem vp_none : VPt X M none vP0 := ⟨fun F => poI po_none fun σ H Q ⟨ev, ρ, Qv, R, h, k⟩ => k none ev H h R (Same.refl _)⟩
theorem vp_some {t : VT} (h : VE X M e t) : VPt X M (some e) (vP1 t) := ⟨fun F => poI (po_some (h.pe F)) fun σ H Q ⟨ev, ρ, Qv, R, h, k⟩ => ⟨ev, ρ, _, R, h, fun d e1 v H1 q1 R1 s1 r1 => by
  cases d with
  | int i => cases r1; exact ⟨i, rfl, k _ e1 H1 q1 R1 s1⟩
  | _ => exact q1.elim⟩⟩
def cutD (xs : List D) (lo hi : Option Int) : List D := (xs.drop (HT.sIx xs.length 0 lo)).take (HT.sIx xs.length xs.length hi - HT.sIx xs.length 0 lo)
theorem Rps.cut {K : PySem.W.Frag} {H : Hp} {vs : List V} {ds : List D} (r : Rps K H vs ds) (lo hi : Option Int) : Rps K H (cutV vs lo hi) (cutD ds lo hi) := by
  unfold cutV cutD
  rw [r.len]
  exact (r.drop _).take _
def dSl (x : D) (lo hi : Option Int) (Q : D → Prop) : Prop := match x with
  | .list ds => Q (.list (cutD ds lo hi))
  | .tuple ds => Q (.tuple (cutD ds lo hi))
  | _ => False
abbrev rSlQ (K : PySem.W.Frag) : V → Option Int → Option Int → Hp → VK → Prop := fun x lo hi H Q => rSlL K x lo hi H Q ∨ rSlA K x lo hi H Q
theorem sl_ok {K : PySem.W.Frag} {O : Addr → Prop} {H : Hp} {x : V} {dx : D} {lo hi : Option Int} {Q : VK} {Qv : D → Prop} (tr : ∀ b, O b → H b ≠ none) (r : RpT K O H x dx) (h : dSl dx lo hi Qv)
    (k : ∀ v H' d, Qv d → Same H H' → Rp K (hid O H') v d → Q v H') : rSlQ K x lo hi H Q := by
  cases dx with
  | list ds =>
    obtain ⟨a, ys, rfl, h1, h2⟩ := rt_lst r
    exact .inl ⟨a, ys, rfl, SqL.of h1, fun p n => k _ _ _ h (same_upd n) (new_lst tr n (h2.cut lo hi))⟩
  | tuple ds =>
    obtain ⟨a, ys, rfl, h1, h2⟩ := rt_tup r
    refine .inr ⟨a, ys, rfl, same_seqT same_hid_of h1, fun z => ?_, fun z p n => k _ _ _ h (same_upd n) (new_tup tr n (h2.cut lo hi))⟩
    have e : cutD ds lo hi = ds := by
      rw [h2.len] at z
      unfold cutD
      rw [z.1, z.2]
      simp
    have h' : Qv (.tuple (cutD ds lo hi)) := h
    rw [e] at h'
    exact k _ H _ h' (Same.refl _) (.tup h1 h2)
  | _ => exact h.elim
def vSl (t : VT) (l u : VP) : VT := fun ev Q => t ev fun d e1 => l e1 fun lo e2 => u e2 fun hi e3 => dSl d lo hi fun d => Q d e3
def vSlL (i : Nat) (l u : VP) : VT := fun ev Q => match sv ev i with
  | .fr d => l ev fun lo e2 => u e2 fun hi e3 => dSl d lo hi fun d => Q d e3
  | .ow _ => l ev fun lo e2 => u e2 fun hi e3 => match sv e3 i with
    | .ow ds => dSl (.list ds) lo hi fun d => Q d e3
    | _ => False
  | _ => False
theorem ve_slice {lo hi : Option Expr} {p2 : Pos} {t : VT} {l u : VP} (he : VE X M e t) (hl : VPt X M lo l) (hu : VPt X M hi u) : VE X M (.Subscript e (.Slice lo hi none p2) pos) (vSl t l u) :=
  ⟨fun F => peI (pe_slice (r := rSlQ X.K) (sl_list.or sl_tupA) (he.pe F) (hl.po F) (hu.po F)) fun σ H Q ⟨ev, ρ, Qv, R, h, k⟩ => ⟨ev, ρ, _, R, h, fun d e1 v H1 q1 R1 s1 r1 => ⟨e1, ρ, _, R1, q1, fun o e2 H2 q2 R2 s2 => ⟨e2, ρ, _, R2, q2, fun o3 e3 H3 q3 R3 s3 =>
    sl_ok (O := Own M ρ) R3.tr (.inl ((r1.mono s2).mono s3)) q3 fun v H' d qd sm rr => k d e3 v H' qd (R3.same sm) (((s1.trans s2).trans s3).trans (same_hid sm)) rr⟩⟩⟩⟩
theorem ve_sliceL {lo hi : Option Expr} {p p2 : Pos} {x : Str} {l u : VP} (i : Nat) (hp : PE X (.Name x p) (tVar i)) (hl : VPt X M lo l) (hu : VPt X M hi u) : VE X M (.Subscript (.Name x p) (.Slice lo hi none p2) pos) (vSlL i l u) :=
  ⟨fun F => peI (pe_slice (r := rSlQ X.K) (sl_list.or sl_tupA) hp (hl.po F) (hu.po F)) fun σ H Q ⟨ev, ρ, Qv, R, h, k⟩ => by
    unfold vSlL at h
    cases e0 : sv ev i with
    | fr d =>
      rw [e0] at h
      obtain ⟨v, h1, h2⟩ := R.getFr e0
      exact ⟨v, h1, ev, ρ, _, R, h, fun o e2 H2 q2 R2 s2 => ⟨e2, ρ, _, R2, q2, fun o3 e3 H3 q3 R3 s3 =>
        sl_ok (O := Own M ρ) R3.tr (.inl ((h2.mono s2).mono s3)) q3 fun v H' d qd sm rr => k d e3 v H' qd (R3.same sm) ((s2.trans s3).trans (same_hid sm)) rr⟩⟩
    | ow ds0 =>
      rw [e0] at h
      obtain ⟨a, us, h1, h2, h3, h4⟩ := R.getOw e0
      refine ⟨_, h2, ev, ρ, _, R, h, fun o e2 H2 q2 R2 s2 => ⟨e2, ρ, _, R2, q2, fun o3 e3 H3 q3 R3 s3 => ?_⟩⟩
      cases e9 : sv e3 i with
      | ow ds =>
        rw [e9] at q3
        obtain ⟨a', us', g1, g2, g3, g4⟩ := R3.getOw e9
        rw [h1] at g1; cases g1
        exact sl_ok (O := Own M ρ) R3.tr (.inr ⟨a, us', ds, rfl, rfl, g3, g4⟩) q3 fun v H' d qd sm rr => k d e3 v H' qd (R3.same sm) ((s2.trans s3).trans (same_hid sm)) rr
      | un => rw [e9] at q3; exact q3.elim
      | fr _ => rw [e9] at q3; exact q3.elim
      | dk _ => rw [e9] at q3; exact q3.elim
      | rw _ => rw [e9] at q3; exact q3.elim
    | un => rw [e0] at h; exact h.elim
    | dk _ => rw [e0] at h; exact h.elim
    | rw _ => rw [e0] at h; exact h.elim⟩
/-- xs[::-1], a new list -/
def vRevL (t : VT) : VTA := fun ev Q => t ev fun d e1 => match d with
  | .list ds => Q ds.reverse e1
  | _ => False
theorem vo_rev {k : Nat} {p1 p2 p3 : Pos} {t : VT} (he : VE X M e t) : VO X M (.Subscript e (.Slice none none (some (.UnaryOp .USub (.Constant (.int 1) k p1) p2)) p3) pos) (vRevL t) :=
  ⟨fun F => peI (pe_revL (he.pe F)) fun σ H Q ⟨ev, ρ, Qv, R, h, kk⟩ => ⟨ev, ρ, _, R, h, fun d e1 v H1 q1 R1 s1 r1 => by
    cases d with
    | list ds =>
      obtain ⟨a, ys, rfl, h1, h2⟩ := rt_lst (O := Own M ρ) (.inl r1)
      refine ⟨a, ys, rfl, SqL.of h1, fun p n => ?_⟩
      have e := rem_upd (o := .lst ys.reverse) n
      exact kk _ e1 p _ _ q1 (by rw [e]; exact R1) (by rw [e]; exact s1) upd_same (by rw [e]; exact h2.rev)
    | _ => exact q1.elim⟩⟩
/-- .. of a list that a slot holds -/
def vRevLL (i : Nat) : VTA := fun ev Q => match sv ev i with
  | .fr (.list ds) => Q ds.reverse ev
  | .ow ds => Q ds.reverse ev
  | _ => False
theorem vo_revL {k : Nat} {p p1 p2 p3 : Pos} {x : Str} (i : Nat) (hp : PE X (.Name x p) (tVar i)) : VO X M (.Subscript (.Name x p) (.Slice none none (some (.UnaryOp .USub (.Constant (.int 1) k p1) p2)) p3) pos) (vRevLL i) :=
  ⟨fun F => peI (pe_revL hp) fun σ H Q ⟨ev, ρ, Qv, R, h, kk⟩ => by
    unfold vRevLL at h
    cases e0 : sv ev i with
    | fr d =>
      rw [e0] at h
      cases d with
      | list ds =>
        obtain ⟨v, h1, h2⟩ := R.getFr e0
        obtain ⟨a, ys, rfl, h3, h4⟩ := rt_lst (O := Own M ρ) (.inl h2)
        refine ⟨_, h1, a, ys, rfl, SqL.of h3, fun p n => ?_⟩
        have e := rem_upd (o := .lst ys.reverse) n
        exact kk _ ev p _ _ h (by rw [e]; exact R) (by rw [e]; exact Same.refl _) upd_same (by rw [e]; exact h4.rev)
      | _ => exact h.elim
    | ow ds =>
      rw [e0] at h
      obtain ⟨a, ys, h1, h2, h3, h4⟩ := R.getOw e0
      refine ⟨_, h2, a, ys, rfl, SqL.of h3, fun p n => ?_⟩
      have e := rem_upd (o := .lst ys.reverse) n
      exact kk _ ev p _ _ h (by rw [e]; exact R) (by rw [e]; exact Same.refl _) upd_same (by rw [e]; exact h4.rev)
    | un => rw [e0] at h; exact h.elim
    | dk _ => rw [e0] at h; exact h.elim
    | rw _ => rw [e0] at h; exact h.elim⟩
/-- a list joined to a list, for a name of its own -/
def vCatO (t : VT) : VTA := fun ev Q => t ev fun d e1 => match d with
  | .list ds => Q ds e1
  | _ => False
/-- n.bit_length() -/
def vBits (t : VT) : VT := fun ev Q => t ev fun d e1 => match d with
  | .int i => Q (.int (Builtin.Int.intBits i : Nat)) e1
  | _ => False
theorem ve_bits {t : VT} {p : Pos} (mk : ∀ {te : TE}, PE X e te → PE X (.Call (.Attribute e "bit_length" p) [] [] pos) (tBits te)) (he : VE X M e t) : VE X M (.Call (.Attribute e "bit_length" p) [] [] pos) (vBits t) :=
  ⟨fun F => peI (mk (he.pe F)) fun σ H Q ⟨ev, ρ, Qv, R, h, k⟩ => ⟨ev, ρ, _, R, h, fun d e1 v H1 q1 R1 s1 r1 => by
    cases d with
    | int i => cases r1; exact ⟨i, rfl, k _ e1 _ H1 q1 R1 s1 (.int _)⟩
    | _ => exact q1.elim⟩⟩
end
end VL

set_option Elab.async false
set_option linter.all false
set_option maxRecDepth 100000
set_option maxHeartbeats 4000000
/-! The value layer, part X: the program's own exception. -/
namespace VX
open PySem PySem.Spec PyProof.Rows PySem.W PySem.Calls
/-- ValueError's __init__ bound to e, called -/
theorem mw_call {prog : Program} {w : World} {A : Around} {E : Value → Shared → Prop} {h : Heap} {g : Array GenState} {d : Drawn} {t : Nat} {os : OsState} {nm q : Str} {C N : Addr} {bs bm : List Value} {hdct : Bool} {sn : List Str} {sub : List Value} {ab : Bool} {col : Option Bool} {dd : Option Addr} {k0 k1 k2 k3 k5 : Option Value}
    {u e t0 : Addr} {rest : List Value} {Q : Value → Shared → Prop} (hC : h.get? C = some (excClassObj nm q C N bs bm hdct sn sub ab col dd k0 k1 k2 k3 k5 "ValueError.__new__")) (he : h.get? e = some (excObj C t0 none .none))
    (hu : h.get? u = some (kxs_mw "ValueError.__init__" e)) (hz : rest.length ≤ sizeLine)
    (hq : ∀ h' t1, (∀ b o, b ≠ e → h.get? b = some o → h'.get? b = some o) → h'.get? e = some (excObj C t1 none .none) → Q .none ⟨h', g, d, t, os⟩) :
    wpAny (model prog w) A (call (.ref u) rest) Q E ⟨h, g, d, t, os⟩ := by
  refine wpAny_call (codeAny_of_tree ?_)
  show wpAny _ A.in1 (callAny (.ref u) ⟨rest, []⟩) _ _ _
  simp only [callAny]
  refine wpAny_bind (wpAny_load hu ?_)
  simp only [kxs_mw, show (Value.type "method-wrapper" == Value.type "method" || Value.type "method-wrapper" == Value.type "builtin_function_or_method" || Value.type "method-wrapper" == Value.type "method-wrapper") = true by decide, if_true]
  refine KFB.if_so (by decide) ?_
  refine wpAny_bind (check_bound_init F.excBase_ValueError.toExcCallFacts hC he rfl ?_)
  refine wpAny_bind (wpAny_pure (wpAny_pure ?_))
  refine ⟨plainId_quiet F.excBase_ValueError.init.plain _, codeAny_builtin F.excBase_ValueError.initEntry ?_⟩
  exact exc_init_tree (cls := .ref C) (t0 := t0) (dv := none) (c2 := .none) (c3 := .none) (b4 := .bool false) he hz fun h' k e' _ => hq h' _ k e'
/-- C's __init__(self, f): super().__init__(f); self.f = f -/
theorem su_init {prog : Program} {w : World} {A : Around} {R : Result → Shared → Prop} {hp : Heap} {g : Array GenState} {dr : Drawn} {tk : Nat} {os : OsState} {K : Frag} {mg mb : Str → Option Value} {C fI cc cda x t0 : Addr} {q f : Str} {params : Arguments} {body : List Stmt} {scope : Scope}
    {dV kV doc pm ct oc ccl cl : Value} {an od cdd cld : Option Addr} {osl ccs csl : Array (Option Value)} {vs : Array Value} {file : Str} {tf : Tok} {u : Value} {ar : Arg} {p0 p1 p2 p3 p4 p5 p6 p7 p8 p9 : Pos}
    (hr : A.depth < recursionLimit) (X : K.In hp) (G : hp.Ns mainGlobals mg) (hs : mg "super" = none) (B : hp.Ns builtinsNs mb) (hb : mb "super" = some (.type "super")) (lim : hp.NoLimit) (T : L2.OexC K C) (hno : findIn K (.ref C) f = some none)
    (lk : K.lookup fI = some ⟨oc, od, .func (ksFn "__init__" q params body scope dV kV doc pm an (.ref cda) ct cc), osl⟩) (hcd : codeIn K (.ref cda) q = true)
    (hbody : body = [.Expr (.Call (.Attribute (.Call (.Name "super" p0) [] [] p1) "__init__" p2) [.Name f p3] [] p4) p5, .Assign [.Attribute (.Name "self" p6) f p7] (.Name f p8) p9])
    (pl : Env → Sem Bool) (hE : ∀ L, eval (.Call (.Attribute (.Call (.Name "super" p0) [] [] p1) "__init__" p2) [.Name f p3] [] p4) (ksEnv q scope L fI (.ref cda) cc) = (do
        let ov ← attributeBase (.Call (.Name "super" p0) [] [] p1) "__init__" (ksEnv q scope L fI (.ref cda) cc) (eval (.Call (.Name "super" p0) [] [] p1) (ksEnv q scope L fI (.ref cda) cc))
        standAt p2.atName
        let (fn, first) ← holding [ov] (getMethod ov "__init__" (pl (ksEnv q scope L fI (.ref cda) cc)))
        callWith p4 fn first (backTo p4 (starEach [.Name f p3] (ksEnv q scope L fI (.ref cda) cc))) []))
    (hI : ∀ L, interactive (ksEnv q scope L fI (.ref cda) cc) = false) (hS1 : ∀ L, swapsWith (.Call (.Attribute (.Call (.Name "super" p0) [] [] p1) "__init__" p2) [.Name f p3] [] p4) none p5.line (ksEnv q scope L fI (.ref cda) cc) = pure false)
    (hS2 : ∀ L, swapsWith (.Name f p8) (some (.Attribute (.Name "self" p6) f p7)) p9.line (ksEnv q scope L fI (.ref cda) cc) = pure false)
    (hSE : ∀ L, starEach [.Name f p3] (ksEnv q scope L fI (.ref cda) cc) = (false, eval (.Name f p3) (ksEnv q scope L fI (.ref cda) cc)) :: starEach [] (ksEnv q scope L fI (.ref cda) cc))
    (hbind : ∀ s, BindsTo s (ksFn "__init__" q params body scope dV kV doc pm an (.ref cda) ct cc) ⟨[.ref x, u], []⟩ [("self", .ref x), (f, u)])
    (hks : scope.names.lookup ("super" : Str) = some .globalImplicit) (hkc : scope.names.lookup ("__class__" : Str) = some .free) (hka : scope.names.lookup ("self" : Str) = some .local) (hkf : scope.names.lookup f = some .local) (hk : scope.kind = .function)
    (hco : scope.isCoroutine = false) (hgen : scope.isGenerator = false) (hcell : ∀ y ∈ scope.names, y.2 ≠ .cell) (hf1 : f ≠ "self") (hfd : (f == ("__debug__" : Str)) = false)
    (hpar : (params.posonlyargs ++ params.args).head? = some ar) (har : ar.arg = "self") (hcode : K.lookup cda = some ⟨ccl, cdd, .fields vs, ccs⟩) (hvs : vs[2]? = some (.str file tf)) (hfile : ((prog.main.file : Str) == file) = true)
    (hcel : K.lookup cc = some ⟨cl, cld, .cell (some (.ref C)), csl⟩) (hth : nsIn K cStatics "thirdparty.any" = some none) (hsup : ks_superIn K C C "__init__" = some (some (.builtin "ValueError.__init__"))) (hve : subIn K (.ref C) (.type "ValueError") = some true)
    (htop : (prog.main.scope.names.lookup ("super" : Str)).isSome = false)
    (hx : hp.get? x = some (excObj C t0 none .none)) (hxK : K.lookup x = none)
    (hq : ∀ h' tk' dx t1, (∀ b o, b ≠ x → hp.get? b = some o → h'.get? b = some o) → hp.objs.size ≤ dx → dx ≠ x → h'.get? x = some (excObj C t1 (some dx) .none) → h'.Ns1 dx (fun y => if y = f then some u else none) → R (.ok (.ret .none)) ⟨h', g, dr, tk', os⟩) :
    codeAny (model prog w) A (.call (.ref fI) ⟨[.ref x, u], []⟩) R ⟨hp, g, dr, tk, os⟩ := by
  obtain ⟨nm, qn, N, bs, bm, sn, sub, ab, col, dd, k0, k1, k2, k3, k5, hC, hbm⟩ := T.cls
  have hcl : clsIn K C = some { name := nm, bases := bs, mro := .ref C :: bm, ns := N, qualname := qn, hasDict := true, slotNames := sn, subclasses := sub, abstract := ab, collection := col, hasDel := false } := by unfold clsIn; rw [hC] <;> rfl
  refine ks_codeAny_call_defAt (fd := ksFn "__init__" q params body scope dV kV doc pm an (.ref cda) ct cc) (body := body) (binds := [("self", .ref x), (f, u)]) hr (X _ _ lk) rfl lim (codeRec_of X hcd) rfl (hbind _) hcell (fun y hy => ?_) (fun h₁ hns k1 => ?_) hco hgen hk
  · rcases List.mem_cons.mp hy with rfl | hy
    · exact hka
    · rcases List.mem_cons.mp hy with rfl | hy
      · exact hkf
      · cases hy
  subst hbody
  have hms : (fun y => List.lookup y ([(("self" : Str), Value.ref x), (f, u)] : List (Str × Value)).reverse) ("self" : Str) = some (Value.ref x) := by
    have e : (("self" : Str) == f) = false := beq_eq_false_iff_ne.mpr (Ne.symm hf1)
    simp [List.lookup, e]
  have hmf : (fun y => List.lookup y ([(("self" : Str), Value.ref x), (f, u)] : List (Str × Value)).reverse) f = some u := by
    simp [List.lookup]
  have hxs : x ≠ hp.objs.size := Nat.ne_of_lt (Heap.lt_size hx)
  refine ks_wpAt_execs_cons (ks_wpAt_Expr_any (ks_wpAt_MethodCall (pl := pl _) ?_ (hE _)) (hI _) (hS1 _))
  -- super()
  have X1 : K.In h₁ := X.keeps k1
  have hx1 : h₁.get? x = some (excObj C t0 none .none) := k1 _ _ hx
  have G1 : h₁.Ns mainGlobals mg := G.keeps k1
  have B1 : h₁.Ns builtinsNs mb := B.keeps k1
  refine ks_wpAt_super_base (env := ksEnv q scope hp.objs.size fI (.ref cda) cc) hks hkc (by decide) rfl (X1 _ _ lk) rfl hpar rfl (X1 _ _ hcode) rfl hvs hfile htop ?_
  refine ks_loadName_global hk hks (loadGlobal_builtin (env := ksEnv q scope hp.objs.size fI (.ref cda) cc) G1 hs B1 hb ⟨rfl, ?_⟩)
  refine wpAny_loadName_free hk hkc rfl ⟨_, X1 _ _ hcel, rfl⟩ ?_
  rw [har]
  refine wpAny_loadName_local hk hka hns hms ?_
  refine ks_wpAny_isType_cls (X1 _ _ hC) rfl ⟨rfl, ?_⟩
  have hmro : mroIn K C (.ref C) = some true := by unfold mroIn; rw [hcl]; simp
  have hne : x ≠ C := fun z => by
    have z1 := X1 _ _ hC
    rw [← z, hx1] at z1
    cases z1
  refine ks_wpAny_call_super (X1 _ _ hC) rfl hx1 rfl (fun c z => by cases z) (looks_mroIn X1 hmro) (fun h2 e2 k2 => ?_)
  -- .__init__
  have X2 : K.In h2 := X1.keeps k2
  have hx2 := k2 _ _ hx1
  have hsup' : alongIn K "__init__" (((Value.ref C :: bm).dropWhile (· != .ref C)).drop 1) = some (some (.builtin "ValueError.__init__")) := by
    have z := hsup
    unfold ks_superIn at z
    rw [hcl] at z
    exact z
  have I2 : InstAt h2 x (excObj C t0 none .none) C none := ⟨hx2, rfl, rfl, trivial⟩
  refine kxs_getMethod kxs_ValueError (l₀ := .ref C :: bm) e2 (looks_opaque X2 hth) ?_ rfl X2 hsup' (I2.type.andThen (looks_subIn X2 hve)) hne (by decide) ?_
  · exact fun A Q E s k qq => wpAny_bind ((looks_clsIn X2 hcl) A _ E s k (wpAny_pure qq))
  -- the call
  have k3 : ∀ b o, h2.get? b = some o → (h2.push (kxs_mw "ValueError.__init__" x)).get? b = some o := fun b o e => Heap.get?_push_of_some _ e
  have hmw : (h2.push (kxs_mw "ValueError.__init__" x)).get? h2.objs.size = some (kxs_mw "ValueError.__init__" x) := Heap.get?_push_size _ rfl
  show wpAny _ _ (callWith p4 (Value.ref h2.objs.size) [] (backTo p4 (starEach [.Name f p3] (ksEnv q scope hp.objs.size fI (.ref cda) cc))) []) _ _ _
  rw [hSE]
  refine kxs_callWith (i := "ValueError.__init__") (x := x) rfl (evalArgs_plain ?_)
  have hns3 : (h2.push (kxs_mw "ValueError.__init__" x)).Ns hp.objs.size _ := (hns.at' fun o e => k2 _ _ e).at' fun o e => k3 _ _ e
  refine Calls.spliced_cons (wpAny_Name (wpAny_loadName_local hk hkf hns3 hmf ?_) hfd)
  refine Calls.spliced_nil ⟨hmw, ?_⟩
  have hC3 := k3 _ _ (k2 _ _ (X1 _ _ hC))
  refine mw_call hC3 (k3 _ _ hx2) hmw (by rw [sizeLine_eq]; simp) fun h4 t1 k4 hx4 => ?_
  -- self.f = f
  have hLx : hp.objs.size ≠ x := Ne.symm hxs
  have hns4 : h4.Ns hp.objs.size _ := hns3.at' fun o e => k4 _ _ hLx e
  have hCx : C ≠ x := Ne.symm hne
  have kk : ∀ b o, b ≠ x → hp.get? b = some o → h4.get? b = some o := fun b o n e => k4 b o n (k3 b o (k2 b o (k1 b o e)))
  have X4 : K.In h4 := fun b o e => kk b o (fun z => by
    rw [z, hxK] at e
    cases e) (X _ _ e)
  refine ks_wpAt_execs_cons (ks_wpAt_Assign_Attr ?_ (hS2 _))
  refine PySem.wpAt_of_wpAny (wpAny_Name (wpAny_loadName_local hk hkf hns4 hmf ?_) hfd)
  refine wpAny_Name (wpAny_loadName_local hk hka hns4 hms ?_) (by decide)
  refine set_plain X4 (ox := excObj C t1 none .none) (od := none) ⟨hx4, rfl, rfl, trivial⟩ T.sa ?_
  refine PySem.HandSPX.exc_osa X4 hx4 hcl (show PySem.HandSPX.refsVE (.ref C :: bm) = true from hbm) rfl hno (fun h5 tk5 dx k5 dn dne hx5 hn5 => ?_)
  have sz : hp.objs.size ≤ h4.objs.size := by
    obtain ⟨o, _, _, e, _⟩ := hns4
    exact Nat.le_of_lt (Heap.lt_size e)
  refine PySem.wpAt_of_wpAny ?_
  show wpAny _ _ (pure Flow.next) _ _ _
  exact wpAny_pure (hq h5 tk5 dx t1 (fun b o n e => k5 b o n (kk b o n e)) (Nat.le_trans sz dn) dne hx5 hn5)
end VX

set_option Elab.async false
set_option linter.all false
set_option maxRecDepth 100000
set_option maxHeartbeats 4000000
/-! The value layer, part Y: the head: what the own exception's class is. -/
namespace VX
open PySem PySem.Spec PyProof.Rows PySem.W PySem.Calls L2
abbrev btI : Str × Option Str := ("BadTable", some "__init__")
/-- BadTable's __init__ as data -/
structure InitD where
  qual : Str
  params : Arguments
  body : List Stmt
  scope : Scope
abbrev InW : Type := Option (Str × Str × Arguments × FuncBody × Scope × Addr × List Str × Addr × Value)
def InitD.val (d : InitD) : InW := some ("__init__", d.qual, d.params, .stmts d.body, d.scope, mainGlobals, ["__class__"], builtinsNs, .none)
def initW (K : Frag) : InW := match K.lookup (He.fAd K btI) with
  | some ⟨_, _, .func fd, _⟩ => some (fd.name, fd.qualname, fd.params, fd.body, fd.scope, fd.globals, fd.closure.map (·.1), fd.builtins, fd.defaults)
  | _ => none
def clsB (K : Frag) (C : Addr) : Bool := match K.lookup C with
  | some ⟨.type c, _, .cls cd, sl⟩ => (match cd.mro, sl.toList with
    | .ref C' :: bm, [_, _, _, _, some (.builtin n), _] => decide (c = "type") && (decide (C' = C) && (decide (n = "ValueError.__new__") && (!cd.hasDel && (cd.hasDict && PySem.HandSPX.refsVE bm))))
    | _, _ => false)
  | _ => false
theorem clsB_ok {K : Frag} {C : Addr} (h : clsB K C = true) : ∃ nm q N bs bm sn sub ab col dd k0 k1 k2 k3 k5, K.lookup C = some (excClassObj nm q C N bs bm true sn sub ab col dd k0 k1 k2 k3 k5 "ValueError.__new__") ∧ PySem.HandSPX.refsVE bm = true := by
  unfold clsB at h
  split at h
  · rename_i c dd cd sl ho
    split at h
    · rename_i C' bm a0 a1 a2 a3 n a5 hm hs
      simp only [Bool.and_eq_true, decide_eq_true_eq, Bool.not_eq_true'] at h
      obtain ⟨h1, h2, h3, h4, h5, h6⟩ := h
      obtain ⟨nm, bs, mro, ns, qn, hd, sn, sub, ab, col, del⟩ := cd
      dsimp only at hm h4 h5
      subst h1 h2 h3 h4 h5 hm
      have es : sl = #[a0, a1, a2, a3, some (.builtin "ValueError.__new__"), a5] := by
        rw [← Array.toArray_toList (xs := sl), hs] <;> rfl
      subst es
      exact ⟨_, _, _, _, _, _, _, _, _, _, _, _, _, _, _, ho, h6⟩
    · cases h
  · cases h
/-- the text's file, the cell, the code object -/
def linkB (K : Frag) (main : Str) (C fI : Addr) : Bool := match K.lookup fI with
  | some ⟨_, _, .func fd, _⟩ => (match fd.code with
    | .ref cda => codeIn K fd.code fd.qualname && (match K.lookup cda with
      | some ⟨_, _, .fields vs, _⟩ => (match (vs[2]? : Option Value) with
        | some (.str file _) => decide (main = file)
        | _ => false)
      | _ => false)
    | _ => false) && (match fd.closure with
    | [p] => (match K.lookup p.2 with
      | some ⟨_, _, .cell (some (.ref D)), _⟩ => decide (D = C)
      | _ => false)
    | _ => false)
  | _ => false
abbrev C_ (K : Frag) : Addr := He.ga K "BadTable"
abbrev fI_ (K : Frag) : Addr := He.fAd K btI
def sayB (main : Str) (K : Frag) : Bool :=
  clsB K (C_ K) && (linkB K main (C_ K) (fI_ K) && (decide (findIn K (.ref (C_ K)) "__setattr__" = some (some (.builtin "object.__setattr__"))) && (decide (subIn K (.ref (C_ K)) (.type "BaseException") = some true) &&
  (decide (typeIn K (.ref (C_ K)) = some (.type "type")) && (keepIn K (.ref (C_ K)) && (decide (findIn K (.ref (C_ K)) "__init__" = some (some (.ref (fI_ K)))) && (decide (typeIn K (.ref (fI_ K)) = some (.type "function")) &&
  (decide (nsIn K cStatics "thirdparty.any" = some none) && (decide (ks_superIn K (C_ K) (C_ K) "__init__" = some (some (.builtin "ValueError.__init__"))) && (decide (subIn K (.ref (C_ K)) (.type "ValueError") = some true) &&
  (xfB K (C_ K) && (decide (findIn K (.ref (C_ K)) "reason" = some none) && (decide (exmOne K (.ref (C_ K)) (.ref (C_ K)) = some true) && decide (nsIn K mainGlobals "super" = some none))))))))))))))
/-- all that is said -/
structure Says (main : Str) (d : InitD) (K : Frag) : Prop where
  T : OexC K (C_ K)
  xf : XfC K (C_ K)
  nf : findIn K (.ref (C_ K)) "reason" = some none
  exm : exmOne K (.ref (C_ K)) (.ref (C_ K)) = some true
  iC : findIn K (.ref (C_ K)) "__init__" = some (some (.ref (fI_ K)))
  tI : typeIn K (.ref (fI_ K)) = some (.type "function")
  th : nsIn K cStatics "thirdparty.any" = some none
  su : ks_superIn K (C_ K) (C_ K) "__init__" = some (some (.builtin "ValueError.__init__"))
  ve : subIn K (.ref (C_ K)) (.type "ValueError") = some true
  ns : nsIn K mainGlobals "super" = some none
  fn : ∃ oc od kV doc pm an cda ct cc osl, K.lookup (fI_ K) = some ⟨oc, od, .func (ksFn "__init__" d.qual d.params d.body d.scope .none kV doc pm an (.ref cda) ct cc), osl⟩ ∧ codeIn K (.ref cda) d.qual = true ∧
    (∃ ccl cdd vs ccs file tf, K.lookup cda = some ⟨ccl, cdd, .fields vs, ccs⟩ ∧ vs[2]? = some (.str file tf) ∧ main = file) ∧ ∃ cl cld csl, K.lookup cc = some ⟨cl, cld, .cell (some (.ref (C_ K))), csl⟩
theorem says_of {main : Str} {d : InitD} {K : Frag} (hw : initW K = d.val) (hb : sayB main K = true) : Says main d K := by
  unfold sayB at hb
  simp only [Bool.and_eq_true, decide_eq_true_eq] at hb
  obtain ⟨b1, b2, b3, b4, b5, b6, b7, b8, b9, b10, b11, b12, b13, b14, b15⟩ := hb
  refine ⟨⟨clsB_ok b1, b3, b4, b5, b6⟩, xfB_ok b12, b13, b14, b7, b8, b9, b10, b11, b15, ?_⟩
  unfold initW at hw
  unfold linkB at b2
  unfold fI_
  cases hl : K.lookup (He.fAd K btI) with
  | none => rw [hl] at hw; cases hw
  | some o =>
    obtain ⟨oc, od, dt, osl⟩ := o
    rw [show K.lookup (fI_ K) = _ from hl] at b2
    rw [hl] at hw
    cases dt with
    | func fd =>
      obtain ⟨n1, n2, n3, n4, n5, n6, n7, n8, n9, n10, n11, n12, n13, n14, n15⟩ := fd
      have e : (some (n1, n2, n3, n4, n5, n6, n7.map (·.1), n15, n8) : InW) = some (("__init__" : Str), d.qual, d.params, .stmts d.body, d.scope, mainGlobals, [("__class__" : Str)], builtinsNs, .none) := hw
      simp only [Option.some.injEq, Prod.mk.injEq] at e
      obtain ⟨h1, h2, h3, h4, h5, h6, h7, h8, h9⟩ := e
      subst h1 h2 h3 h4 h5 h6 h8 h9
      obtain ⟨q1, q2⟩ := Bool.and_eq_true_iff.mp b2
      dsimp only at q1 q2
      match n7, h7, q2 with
      | [(nm, cc)], h7, q2 =>
        have en : nm = "__class__" := by simpa using h7
        subst en
        dsimp only at q2
        split at q1
        · rename_i cda
          obtain ⟨q3, q4⟩ := Bool.and_eq_true_iff.mp q1
          split at q4
          · rename_i ccl cdd vs ccs hk
            split at q4
            · rename_i file tf hv
              split at q2
              · rename_i cl cld D csl hcl
                have eD : D = C_ K := of_decide_eq_true q2
                subst eD
                exact ⟨oc, od, n9, n10, n11, n12, cda, n14, cc, osl, rfl, q3, ⟨ccl, cdd, vs, ccs, file, tf, hk, hv, of_decide_eq_true q4⟩, cl, cld, csl, hcl⟩
              · cases q2
            · cases q4
          · cases q4
        · cases q1
    | _ => cases hw
end VX

set_option Elab.async false
set_option linter.all false
set_option maxRecDepth 100000
set_option maxHeartbeats 4000000
/-! The value layer, part Z: BadTable(reason) made. -/
namespace VX
open PySem PySem.Spec PyProof.Rows PySem.W PySem.Calls L2
/-- what the text of __init__ must be -/
structure InitOk (P : Program) (d : InitD) : Prop where
  ex : ∃ (p0 p1 p2 p3 p4 p5 p6 p7 p8 p9 : Pos) (pl : Env → Sem Bool) (ar : Arg),
    d.body = [.Expr (.Call (.Attribute (.Call (.Name "super" p0) [] [] p1) "__init__" p2) [.Name "reason" p3] [] p4) p5, .Assign [.Attribute (.Name "self" p6) "reason" p7] (.Name "reason" p8) p9] ∧
    (∀ (fI cda cc L : Addr), eval (.Call (.Attribute (.Call (.Name "super" p0) [] [] p1) "__init__" p2) [.Name "reason" p3] [] p4) (ksEnv d.qual d.scope L fI (.ref cda) cc) = (do
        let ov ← attributeBase (.Call (.Name "super" p0) [] [] p1) "__init__" (ksEnv d.qual d.scope L fI (.ref cda) cc) (eval (.Call (.Name "super" p0) [] [] p1) (ksEnv d.qual d.scope L fI (.ref cda) cc))
        standAt p2.atName
        let (fn, first) ← holding [ov] (getMethod ov "__init__" (pl (ksEnv d.qual d.scope L fI (.ref cda) cc)))
        callWith p4 fn first (backTo p4 (starEach [.Name "reason" p3] (ksEnv d.qual d.scope L fI (.ref cda) cc))) [])) ∧
    (∀ (fI cda cc L : Addr), interactive (ksEnv d.qual d.scope L fI (.ref cda) cc) = false ∧ swapsWith (.Call (.Attribute (.Call (.Name "super" p0) [] [] p1) "__init__" p2) [.Name "reason" p3] [] p4) none p5.line (ksEnv d.qual d.scope L fI (.ref cda) cc) = pure false ∧
      swapsWith (.Name "reason" p8) (some (.Attribute (.Name "self" p6) "reason" p7)) p9.line (ksEnv d.qual d.scope L fI (.ref cda) cc) = pure false ∧
      starEach [.Name "reason" p3] (ksEnv d.qual d.scope L fI (.ref cda) cc) = (false, eval (.Name "reason" p3) (ksEnv d.qual d.scope L fI (.ref cda) cc)) :: starEach [] (ksEnv d.qual d.scope L fI (.ref cda) cc)) ∧
    (d.params.posonlyargs ++ d.params.args).head? = some ar ∧ ar.arg = "self"
  bind : ∀ (kV doc pm : Value) (an : Option Addr) (cda cc : Addr) (ct x u : Value), bindArgs (ksFn "__init__" d.qual d.params d.body d.scope .none kV doc pm an (.ref cda) ct cc) ⟨[x, u], []⟩ = pure ([(("self" : Str), x), (("reason" : Str), u)] : List (Str × Value))
  ks : d.scope.names.lookup ("super" : Str) = some .globalImplicit
  kc : d.scope.names.lookup ("__class__" : Str) = some .free
  ka : d.scope.names.lookup ("self" : Str) = some .local
  kf : d.scope.names.lookup ("reason" : Str) = some .local
  kind : d.scope.kind = .function
  co : d.scope.isCoroutine = false
  gen : d.scope.isGenerator = false
  cell : ∀ y ∈ d.scope.names, y.2 ≠ .cell
  top : (P.main.scope.names.lookup ("super" : Str)).isSome = false
/-- C(e) where C keeps its one argument as reason -/
def tMkB (C : Addr) (ta : TA) : L2.St → Hp → XK → Prop := fun σ H Q => ta σ H fun vs H1 => ∃ v, vs = [v] ∧ ∀ d, H1 d = none → Q (.ref C) (some d) (upd H1 d (.xd [("reason", v)]))
theorem pmk_bad {X : Cx} {d : InitD} {e : Expr} {ta : TA} {k : Nat} {p pos : Pos} (S : Says X.prog.main.file d X.K) (D : InitOk X.prog d) (hr : Room (k + 1) X.A) (hg : Gl X "BadTable") (hm : X.mg "BadTable" = some (.ref (C_ X.K))) (ha : PA X [e] ta)
    (he : starEach [e] X.env = (false, eval e X.env) :: starEach [] X.env := by rfl) : PMk X (.Call (.Name "BadTable" p) [e] [] pos) (tMkB (C_ X.K) ta) := by
  intro pins s σ H Q I h
  have T := S.T
  obtain ⟨nm, q, N, bs, bm, sn, sub, ab, col, dd, k0, k1, k2, k3, k5, hC, hbm⟩ := T.cls
  refine wpAny_Call_Name_kw (ld_glob I hg hm ?_ (by decide))
  refine PySem.W.callWith_K (h₀ := X.base) I.ok.mod.kin T.kC (thn (ha.run pos pins s σ H _ I h) fun us s1 ⟨vs, H1, I1, r1, v, ev, q1⟩ => ⟨I1.kIn, ?_⟩) he (by rfl)
  show wpAny _ _ (call (.ref (C_ X.K)) us) _ _ _
  subst ev
  obtain ⟨u, rfl, ru⟩ : ∃ u, us = [u] ∧ RelV v u := by
    cases r1 with
    | cons a b => cases b; exact ⟨_, rfl, a⟩
  obtain ⟨hp, g, dr, tk, os⟩ := s1
  have kk : ∀ b o, hp.get? b = some o → ((hp.push (PySem.W.kdv_tup [u])).push (PySem.HandSPX.excO (C_ X.K) hp.objs.size)).get? b = some o := fun b o e => Heap.get?_push_of_some _ (Heap.get?_push_of_some _ e)
  have hget : ((hp.push (PySem.W.kdv_tup [u])).push (PySem.HandSPX.excO (C_ X.K) hp.objs.size)).get? (hp.objs.size + 1) = some (PySem.HandSPX.excO (C_ X.K) hp.objs.size) := by heap_get
  have K1 : X.K.In hp := I1.kIn
  refine wpAny_call (PySem.HandSPX.call_own F.excBase_ValueError (fun Y => PySem.HandSPX.refsVE_contains Y bm hbm) (K1 _ _ hC) (PySem.W.looks_findIn K1 S.iC) (fun self => PySem.W.bind_fn K1 self S.tI) (by rw [sizeLine_eq]; simp) ?_)
  obtain ⟨p0, p1, p2, p3, p4, p5, p6, p7, p8, p9, pl, ar, hbody, hE, hX, hpar, har⟩ := D.ex
  obtain ⟨oc, od, kV, doc, pm, an, cda, ct, cc, osl, lk, hcd, ⟨ccl, cdd, fvs, ccs, file, tf, hcode, hvs, hfile⟩, cl, cld, csl, hcel⟩ := S.fn
  obtain ⟨mb, hB1, hB2⟩ := I1.ok.mod.blt
  have G1 : hp.Ns mainGlobals X.mg := I1.mod.glob.keeps I1.bk
  have B1 : hp.Ns builtinsNs mb := hB1.keeps I1.bk
  have hKx : X.K.lookup (hp.objs.size + 1) = none := by
    cases z : X.K.lookup (hp.objs.size + 1) with
    | none => rfl
    | some o =>
      have y := Heap.lt_size (K1 _ _ z)
      exact absurd y (Nat.not_lt.mpr (Nat.le_succ _))
  have hsup : X.mg "super" = none := PySem.W.mg_none_of K1 G1 S.ns
  refine su_init (C := C_ X.K) (f := "reason") (hr.make (C_ X.K) [u] []).depth (K1.keeps kk) (G1.keeps kk) hsup (B1.keeps kk) ((hB2 _ (by decide)).trans (by first | kernel_rfl | rfl)) (I1.nolimit.keeps kk) T S.nf lk hcd hbody pl (hE _ _ _) (fun L => (hX _ _ _ L).1) (fun L => (hX _ _ _ L).2.1) (fun L => (hX _ _ _ L).2.2.1) (fun L => (hX _ _ _ L).2.2.2)
    (fun s => BindsTo.of_eq (D.bind _ _ _ _ _ _ _ _ _)) D.ks D.kc D.ka D.kf D.kind D.co D.gen D.cell (by decide) (by decide) hpar har hcode hvs (by rw [hfile]; exact beq_self_eq_true _) hcel S.th S.su S.ve D.top hget hKx ?_
  intro h' tk' dx t1 kp sz dne hx' hn'
  refine ⟨rfl, ?_⟩
  -- the exception is let go
  have hsd : hp.objs.size ≤ dx := Nat.le_trans (by rw [Heap.size_push, Heap.size_push]; omega) sz
  obtain ⟨Gh, g1, g2⟩ := restrict h' fun b => decide (b ≠ hp.objs.size + 1)
  have gk : ∀ b, b ≠ hp.objs.size + 1 → Gh.get? b = h'.get? b := fun b hb => g1 b (decide_eq_true hb)
  have ge : Gh.get? (hp.objs.size + 1) = none := g2 _ (by simp)
  have rel : ∀ f, RelO (([("reason", v)] : List (Str × V)).lookup f) (if f = "reason" then some u else none) := relO_put (fs := []) (mA := fun _ => none) ru fun g => True.intro
  have J : Inv X pins σ (upd H1 dx (.xd [("reason", v)])) ⟨Gh, g, dr, tk', os⟩ := I1.laid (t' := tk') (a := dx) (o := .xd [("reason", v)]) (h' := Gh) (fun b o e => by
    have hb : b ≠ hp.objs.size + 1 := Nat.ne_of_lt (Nat.lt_succ_of_lt (Heap.lt_size e))
    rw [gk b hb]
    exact kp b o hb (kk b o e)) hsd ⟨_, hn'.at fun o y => (gk dx dne).trans y, rel⟩
  have hq := q1 dx (I1.hok.fresh hsd)
  exact ⟨hp.objs.size + 1, _, _, ⟨Gh, g, dr, tk', os⟩, _, .ref (C_ X.K), some dx, rfl, J, fun b o e => by
    by_cases hb : b = hp.objs.size + 1
    · rw [hb, ge] at e; cases e
    · exact (gk b hb).symm.trans e, ge, hx', ⟨rfl, rfl⟩, rfl, rfl, by rw [upd_ne (Ne.symm dne)]; exact I1.hok.fresh (Nat.le_succ _), rfl, I1.bare, raises_own T.exC T.tyC, hq⟩
end VX

set_option Elab.async false
set_option linter.all false
set_option maxRecDepth 100000
set_option maxHeartbeats 4000000
/-! The value layer, part R: what is raised, and told. -/
namespace VX
open PySem PySem.Spec PyProof.Rows L2 LamX
/-! ### _law_reason -/
def TReason (C : Addr) : (XK → Hp → VK → Prop) → Hp → VK → Prop := fun tl H Q =>
  tl (fun cls d H' => ∃ (r : Str) (dx : Addr), cls = .ref C ∧ d = some dx ∧ H' dx = some (.xd [("reason", .str r)]) ∧ Q (.str r) H') H (fun _ H' => Q .non H')
theorem takes_len {X : Cx} {W : WX} (tk : Takes X W) : Takes X (fun cls d σ H => σ.length = X.N.length → W cls d σ H) := fun u s' ⟨a, B, sI, pins, σ, H, cls, d, e, I, nb, up, sky, na, os, ag, w⟩ =>
  tk u s' ⟨a, B, sI, pins, σ, H, cls, d, e, I, nb, up, sky, na, os, ag, w I.len⟩
theorem reason_gives {X : Cx} {Ng : List Str} {sg : Scope} {g : Addr} {cdg : Value} {q : Str} {C : Addr} {j : Nat} {p1 p2 p3 p4 p5 p6 p7 p8 p9 p10 p11 : Pos} (T : XfC X.K C) (hnf : PySem.W.findIn X.K (.ref C) "reason" = some none) (hex : PySem.W.exmOne X.K (.ref C) (.ref C) = some true)
    (hge : sg.names.lookup ("BadTable" : Str) = some .globalImplicit) (hme : X.mg "BadTable" = some (.ref C)) (hN : Ng.Nodup) (h0 : Ng[0]? = some ("call" : Str)) (h1 : Ng[1]? = some ("e" : Str)) (hl : Ng.length = 2) (hke : sg.names.lookup ("e" : Str) = some .local)
    (hsw : ∀ (X : Cx), swapsWith (.Call (.Name "call" p1) [] [] p2) none p3.line X.env = pure false := by intro _; rfl) :
    GivesTo X Ng "_law_reason" sg g cdg [.Try [.Expr (.Call (.Name "call" p1) [] [] p2) p3] [.ExceptHandler (some (.Name "BadTable" p4)) (some "e") [.Return (some (.Attribute (.Name "e" p5) "reason" p6)) p7] p8] [] [] p9, .Return (some (.Constant .none j p10)) p11] "call" q (TReason C) := by
  intro f c' s H Q tl act hc h
  have hgl : Gl (cxOf C8.CX0 X.prog X.w X.K X.mg X.base Ng "_law_reason" sg g cdg X.A X.stack s H C8.E0).nox "BadTable" := hge
  have es : L2.start Ng [V.ref f] = [some (.ref f), none] := by
    unfold L2.start
    simp [hl]
  refine ⟨_, pss_cons (ps_try_as (X := (cxOf C8.CX0 X.prog X.w X.K X.mg X.base Ng "_law_reason" sg g cdg X.A X.stack s H C8.E0).nox) (c := .ref C) (i := 1)
      (tb := fun W D σ H => ∃ Ech : XK, (∀ cls d σ' H', σ'.length = Ng.length → Ech cls d H' → W cls d σ' H') ∧ σ[0]? = some (some (.ref f)) ∧ H c' = some (CodeO c' q) ∧ tl Ech H (fun _ H1 => D.nx σ H1))
      rfl rfl hN h1 hke ⟨hgl, by decide, .inl hme⟩ takes0 (fun W pn xe tk _ => ?_) (fun a oe cls d pn hz hf => pss_one (ps_ret (pe_xf T hnf hz hf (pe_var (i := 1) (by exact h1) (.inl hke) (by decide) (by decide)))))) (pss_one (ps_ret pe_non)), ?_⟩
  · refine ⟨fun pins s' σ H' D I h' => ?_⟩
    obtain ⟨Ech, hW, g1, g2, g3⟩ := h'
    have hp := act _ pn xe Ech p1 p2 (takes_len tk) (fun cls d σ' H' e hlen => hW cls d σ' H' hlen e)
    have hq := pss_one (ps_expr (pos := p3) hp (hsw _))
    exact hq.run pins s' σ H' D I ⟨g1, g2, g3⟩
  · refine ⟨fun cls d H' => ∃ (r : Str) (dx : Addr), cls = .ref C ∧ d = some dx ∧ H' dx = some (.xd [("reason", .str r)]) ∧ Q (.str r) H', fun cls d σ' H' hlen ⟨r, dx, e1, e2, e3, e4⟩ => ?_, by rw [es]; rfl, hc, h⟩
    subst e1
    subst e2
    refine ⟨true, hex, fun _ a _ => ?_, fun z => by cases z⟩
    refine ⟨.ref a, ?_, rfl, rfl, dx, _, .str r, rfl, e3, by simp [List.lookup], e4⟩
    rw [List.getElem?_set_self (by rw [hlen, hl]; omega)]
end VX

set_option Elab.async false
set_option linter.all false
set_option maxRecDepth 100000
set_option maxHeartbeats 4000000
/-! The value layer, part S: defs that raise, lambdas told. -/
namespace VL
open PySem PySem.Spec PyProof.Rows L2 LamX
open Classical
abbrev VNX := List D → (D → Prop) → (Str → Prop) → Prop
abbrev VTX := (Str → Prop) → VT
abbrev VSX := (Str → Prop) → VS
/-- what is wanted of a raise: all of F still stands -/
def XOk (C : Addr) (E : XK) (F : Hp) (Rv : Str → Prop) : Prop := ∀ (r : Str) (dx : Addr) (H' : Hp), Rv r → Same F H' → H' dx = some (.xd [("reason", .str r)]) → E (.ref C) (some dx) H'
theorem XOk.mono {C : Addr} {E : XK} {F F' : Hp} {Rv : Str → Prop} (x : XOk C E F Rv) (s : Same F F') : XOk C E F' Rv := fun r dx H' a b c => x r dx H' a (s.trans b) c
def LFx (K : PySem.W.Frag) (C : Addr) (sp : VNX) : Sp := fun vs H Q E => ∃ (B : Addr → Prop) (ds : List D) (Qv : D → Prop) (Rv : Str → Prop), (∀ b, B b → Nt H b) ∧ Rps K (hid B H) vs ds ∧ sp ds Qv Rv ∧
  (∀ d v H', Qv d → Same H H' → Rp K (hid B H') v d → Q v H') ∧ XOk C E H Rv
section
variable (K : PySem.W.Frag) (M : Fm) (C : Addr) (E : XK)
def LEx (t : VTX) : TE := fun σ H Q => ∃ F ev ρ Qv Rv, Rl K M F ev σ H ρ ∧ t Rv ev Qv ∧ XOk C E F Rv ∧
  ∀ d ev' v H', Qv d ev' → Rl K M F ev' σ H' ρ → Same (hd M ρ H) (hd M ρ H') → Rp K (hd M ρ H') v d → Q v H'
def LSx (t : VSX) : TS := fun D σ H => ∃ F ev ρ D' Rv, Rl K M F ev σ H ρ ∧ t Rv D' ev ∧ XOk C E F Rv ∧ Post K M F D' D
end
section
variable {X : Cx} {M : Fm} {C : Addr} {E : XK} {e c : Expr} {st : Stmt} {rest bs cs : List Stmt} {pos : Pos}
theorem pex_of {t : VT} (h : VE X M e t) : PE X e (LEx X.K M C E fun _ => t) := ⟨fun pins s σ H Q I ⟨F, ev, ρ, Qv, Rv, R, q, x, k⟩ => (h.pe F).run pins s σ H Q I ⟨ev, ρ, Qv, R, q, k⟩⟩
theorem psx_of {t : VS} (h : VSt X M st t) : PS X st (LSx X.K M C E fun _ => t) := ⟨fun pins s σ H D I ⟨F, ev, ρ, D', Rv, R, q, x, k⟩ => (h.ps F).run pins s σ H D I ⟨ev, ρ, D', R, q, k⟩⟩
theorem pssx_of {t : VS} (h : VSs X M rest t) : PSs X rest (LSx X.K M C E fun _ => t) := ⟨fun pins s σ H D I ⟨F, ev, ρ, D', Rv, R, q, x, k⟩ => (h.ps F).run pins s σ H D I ⟨ev, ρ, D', R, q, k⟩⟩
def vxSeq (t u : VSX) : VSX := fun Rv => vSeq (t Rv) (u Rv)
theorem pssx_cons {t u : VSX} (h1 : PS X st (LSx X.K M C E t)) (h2 : PSs X rest (LSx X.K M C E u)) : PSs X (st :: rest) (LSx X.K M C E (vxSeq t u)) :=
  pssI (pss_cons h1 h2) fun D σ H ⟨F, ev, ρ, D', Rv, R, q, x, k⟩ => ⟨F, ev, ρ, _, Rv, R, q, x, fun e1 σ1 H1 ρ1 q1 R1 => ⟨F, e1, ρ1, D', Rv, R1, q1, x, k⟩, k.rt, k.bk, k.ct⟩
theorem pssx_one {t : VSX} (h1 : PS X st (LSx X.K M C E t)) : PSs X [st] (LSx X.K M C E t) := pss_one h1
def vxIf (t : VTB) (u w : VSX) : VSX := fun Rv => vIfS t (u Rv) (w Rv)
theorem ptx {t : VTB} (hc : VB X M c t) : PT X c (fun σ H Q => ∃ F, LB X.K M F t σ H Q) := ⟨fun pins s σ H Q I ⟨F, h⟩ => (hc.pt F).run pins s σ H Q I h⟩
theorem psx_if {t : VTB} {u w : VSX} (hc : VB X M c t) (ha : PSs X bs (LSx X.K M C E u)) (hb : PSs X cs (LSx X.K M C E w)) : PS X (.If c bs cs pos) (LSx X.K M C E (vxIf t u w)) :=
  psI (ps_if (ptx hc) ha hb) fun D σ H ⟨F, ev, ρ, D', Rv, R, q, x, k⟩ => ⟨F, ev, ρ, _, R, q, fun z e1 H1 q1 R1 s1 => by
    cases z with
    | true => exact ⟨F, e1, ρ, D', Rv, R1, q1, x, k⟩
    | false => exact ⟨F, e1, ρ, D', Rv, R1, q1, x, k⟩⟩
def vxRaise (r : Str) : VSX := fun Rv _ _ => Rv r
theorem psx_raise {d : VX.InitD} {r : Str} {j k : Nat} {p p2 p3 : Pos} (hc : X.calm = true) (tk : Takes X (fun cls d _ H => E cls d H)) (S : VX.Says X.prog.main.file d X.K) (D : VX.InitOk X.prog d) (hr : Room (k + 1) X.A) (hg : Gl X "BadTable") (hm : X.mg "BadTable" = some (.ref (VX.C_ X.K)))
    (he : starEach [.Constant (.str r) j p2] X.env = (false, eval (.Constant (.str r) j p2) X.env) :: starEach [] X.env := by rfl) :
    PS X (.Raise (some (.Call (.Name "BadTable" p) [.Constant (.str r) j p2] [] p3)) none pos) (LSx X.K M (VX.C_ X.K) E (vxRaise r)) :=
  psI (ps_raise hc tk (VX.pmk_bad S D hr hg hm (pa_cons pe_str pa_nil he) he)) fun D σ H ⟨F, ev, ρ, D', Rv, R, q, x, k⟩ => ⟨_, rfl, fun d hd => x r d _ q (R.frz.trans (same_upd hd)) upd_same⟩
def vxRet (t : VTX) : VSX := fun Rv D ev => t Rv ev D.rt
theorem psx_ret {t : VTX} (h : PE X e (LEx X.K M C E t)) : PS X (.Return (some e) pos) (LSx X.K M C E (vxRet t)) :=
  psI (ps_ret h) fun D σ H ⟨F, ev, ρ, D', Rv, R, q, x, k⟩ => ⟨F, ev, ρ, _, Rv, R, q, x, fun d e1 v H1 q1 R1 s1 r1 => k.rt d v e1 σ H1 ρ q1 R1 r1⟩
def vxAsg (t : VTX) (g : VG) : VSX := fun Rv D ev => t Rv ev fun d e1 => g d e1 D.nx
theorem ptg {vs : List Nat} {g : VG} (hg : VTg X M vs e g) : PG X e (fun v σ H Q => ∃ F, LG X.K M F vs g v σ H Q) := ⟨fun pins s σ H v u Q I r ⟨F, q⟩ => (hg.pg F).run pins s σ H v u Q I r q⟩
theorem psx_asg {tg : Expr} {t : VTX} {g : VG} {vs : List Nat} (he : PE X e (LEx X.K M C E t)) (hg : VTg X M vs tg g) (hs : swapsWithSole [tg] e pos.line X.env = pure false := by rfl) (hw : swappedStores [tg] e X.env = pure none := by rfl)
    (h1 : (assignEach [tg] X.env).map (·.2) = [assign tg X.env] := by rfl) : PS X (.Assign [tg] e pos) (LSx X.K M C E (vxAsg t g)) :=
  psI (ps_asg he (ptg hg) hs hw h1) fun D σ H ⟨F, ev, ρ, D', Rv, R, h, x, k⟩ => ⟨F, ev, ρ, _, Rv, R, h, x, fun d e1 v H1 q1 R1 s1 r1 => ⟨F, d, e1, ρ, _, R1, r1, q1, fun e2 σ2 H2 ρ2 q2 R2 s2 w2 _ => k.nx e2 σ2 H2 ρ2 q2 R2⟩⟩
def vxCall (sp : VNX) (ta : VTA) : VTX := fun Rv ev Q => ta ev fun ds e1 => sp ds (fun d => Q d e1) Rv
theorem pex_call {x : Str} {f : Addr} {fd : FuncData} {ps : List Str} {k : Nat} {sp : VNX} {es : List Expr} {t : VTA} {p : Pos} (G : FnOk X.prog X.w X.K X.mg X.base (L2.CX X.prog X.w) k f fd ps (LFx X.K C sp)) (tk : Takes X (fun cls d _ H => E cls d H)) (hr : Room k X.A) (hg : Gl X x) (hm : X.mg x = some (.ref f)) (hk : PySem.W.keepIn X.K (.ref f) = true) (hb : L2.Binds X.K fd ps []) (ha : VA X M (e :: es) t)
    (hdb : (x == ("__debug__" : Str)) = false := by decide) (he : starEach (e :: es) X.env = (false, eval e X.env) :: starEach es X.env := by rfl) (hpl : (backTo pos (starEach es X.env)).any (·.1) = false := by rfl) :
    PE X (.Call (.Name x p) (e :: es) [] pos) (LEx X.K M C E (vxCall sp t)) :=
  ⟨fun pins s σ H Q I ⟨F, ev, ρ, Qv, Rv, R, h, x, kk⟩ => (pe_call G hr hg hm hk hb .nil (passes_call tk fun _ _ _ _ z => z) (ha.pa F) hdb he hpl).run pins s σ H Q I ⟨ev, ρ, _, R, h, fun ds e1 vs H1 hn q1 R1 s1 r1 =>
    ⟨Own M ρ, ds, _, Rv, R1.trN, by rw [List.append_nil]; exact r1, q1, fun d v H' qd sm rr => kk d e1 v H' qd (R1.same sm) (s1.trans (same_hid sm)) rr, x.mono R1.frz⟩⟩⟩
end
theorem fn_okX {P : Program} {w : World} {K : PySem.W.Frag} {mg : Str → Option Value} {base : Heap} {C : Addr} {x : Str} {st : Stmt} {f : Addr} {fd : FuncData} {N ps : List Str} {k : Nat} {sp : VNX} {t : VSX} (F : FnP K x st f fd) (S : FnScope N ps (defScope st)) (len : ∀ ds Q Rv, sp ds Q Rv → ds.length = ps.length)
    (hb : ∀ (cdv : Value) (A : Around) (outer : List Env) (s : Shared) (H : Hp) (E : XK) (B : Addr → Prop), Room k (A.deeper (envOfC x (defScope st) s.heap.objs.size f cdv)) →
      PSs (cxOf (L2.CX P w) P w K mg base N x (defScope st) f cdv A outer s H E) (defBody st) (LSx K ⟨B, none⟩ C E t))
    (hq : ∀ ds Q Rv, sp ds Q Rv → t Rv { nx := fun _ => Q .none, rt := fun d _ => Q d } (ev0 N ds)) : FnOk P w K mg base (L2.CX P w) (k + 1) f fd ps (LFx K C sp) := by
  refine F.ok S (fun vs H Q E ⟨B, ds, Qv, Rv, _, r, h, _⟩ => r.len.trans (len ds Qv Rv h)) fun cdv A outer s H vs Q E hr ⟨B, ds, Qv, Rv, hB, r, h, post, xp⟩ => ⟨_, hb cdv A outer s H E B hr, H, ev0 N ds, fun _ => none, _, Rv, rl_start hB r, hq ds Qv Rv h, xp, ?_⟩
  have up : ∀ {ρ : Nat → Option Addr} {H' : Hp}, Same (hd ⟨B, none⟩ ρ H') (hid B H') := same_hid_sub fun b z => .inl z
  exact ⟨fun ev σ H' ρ q R => post .none .non H' q R.frz .non, fun d v ev σ H' ρ q R rr => post d v H' q R.frz (rr.mono up), fun ev σ H' ρ q R => q.elim, fun ev σ H' ρ q R => q.elim⟩
end VL

set_option Elab.async false
set_option linter.all false
set_option maxRecDepth 100000
set_option maxHeartbeats 4000000
/-! The value layer, part T: the law's own def: lambdas, the end. -/
namespace VL
open PySem PySem.Spec PyProof.Rows L2 LamX
open Classical
abbrev TT' := List (Addr × Str)
/-- all but tables are kept -/
theorem same_seqTN {K : PySem.W.Frag} {H H' : Hp} {a : Addr} {xs : List V} (e : ExtN H H') (h : SqT K H a xs) : SqT K H' a xs := by
  rcases h with (h | ⟨o, h⟩) | h
  · exact .inl (.inl (e _ _ h fun _ z => nomatch z))
  · exact .inl (.inr ⟨o, e _ _ h fun _ z => nomatch z⟩)
  · exact .inr h
mutual
theorem Rp.monoN {K : PySem.W.Frag} {H H' : Hp} (e : ExtN H H') : ∀ {v : V} {d : D}, Rp K H v d → Rp K H' v d
  | _, _, .non => .non
  | _, _, .bl b => .bl b
  | _, _, .int i => .int i
  | _, _, .str x => .str x
  | _, _, .lst h a => .lst (e _ _ h fun _ z => nomatch z) (Rps.monoN e a)
  | _, _, .tup h a => .tup (same_seqTN e h) (Rps.monoN e a)
theorem Rps.monoN {K : PySem.W.Frag} {H H' : Hp} (e : ExtN H H') : ∀ {vs : List V} {ds : List D}, Rps K H vs ds → Rps K H' vs ds
  | _, _, .nil => .nil
  | _, _, .cons h t => .cons (Rp.monoN e h) (Rps.monoN e t)
end
theorem seqLN {K : PySem.W.Frag} {H H' : Hp} {a : Addr} {xs : List V} (e : ExtN H H') (h : SqL K H a xs) : SqL K H' a xs := by
  rcases h with (h | ⟨o, h⟩) | h
  · exact .inl (.inl (e _ _ h fun _ z => nomatch z))
  · exact .inl (.inr ⟨o, e _ _ h fun _ z => nomatch z⟩)
  · exact .inr h
theorem extN_hid {O : Addr → Prop} {H H' : Hp} (e : ExtN H H') : ExtN (hid O H) (hid O H') := fun b o h n =>
  let ⟨h1, h2⟩ := hid_some.mp h; hid_some.mpr ⟨h1, e b o h2 n⟩
/-- what no slot owns -/
noncomputable def unowned (ρ : Nat → Option Addr) (H : Hp) : Hp := hid (fun b => ∃ i, ρ i = some b) H
/-- the slots that own a list are forgotten -/
def dropS : SV → SV
  | .ow _ => .un
  | .dk _ => .un
  | s => s
def dropOw (ev : Ev) : Ev := ev.map dropS
theorem sv_dropOw (ev : Ev) (i : Nat) : sv (dropOw ev) i = dropS (sv ev i) := by
  unfold sv dropOw
  simp only [List.getD, List.getElem?_map]
  cases ev[i]? <;> rfl
section
variable {K : PySem.W.Frag} {M : Fm} {F : Hp} {ev : Ev} {σ : L2.St} {H H' : Hp} {ρ : Nat → Option Addr} {T : TT'}
theorem unowned_tabs (R : Rl K M F ev σ H ρ) (t : Tabs T H) : Tabs T (unowned ρ H) := fun p hp => by
  obtain ⟨ps, h1, h2, h3⟩ := t p hp
  have no : ∀ {b : Addr} {o : HO}, H b = some o → ¬ Obn o → unowned ρ H b = some o := fun {b o} e n => hid_some.mpr ⟨fun ⟨i, hi⟩ => by
    obtain ⟨vs, q, z⟩ := R.ow i b hi
    rw [e] at q
    exact n (Option.some.inj q ▸ z), e⟩
  refine ⟨ps, no h1 (fun z => by rcases z with ⟨_, z⟩ | ⟨_, z⟩ <;> cases z), h2, fun pos cv hc => ?_⟩
  obtain ⟨c, e1, e2⟩ := h3 pos cv hc
  exact ⟨c, e1, no e2 fun z => by
    rcases z with ⟨vs, z⟩ | ⟨vs, z⟩
    · have z' : HO.ext _ = HO.lst vs := z
      cases z'
    · have z' : HO.ext _ = HO.dT vs := z
      cases z'⟩
/-- a table has grown, the rest stands -/
theorem Rl.extN (R : Rl K M F ev σ H ρ) (e : ExtN H H') (hM : ∀ b, M.B b → Nt H' b) : Rl K M (unowned ρ H') ev σ H' ρ where
  len := R.len
  frz := same_hid_of
  ofr := fun i a h => ⟨hid_in ⟨i, h⟩, (R.ofr i a h).2⟩
  btr := hM
  inj := R.inj
  ex := R.ex
  bx := R.bx
  sl := fun i => by
    have h := R.sl i
    revert h
    cases sv ev i with
    | un => exact id
    | fr d => exact fun ⟨h0, v, h1, h2⟩ => ⟨h0, v, h1, h2.monoN (extN_hid e)⟩
    | ow ds => exact fun ⟨a, vs, h1, h2, h3, h4⟩ => ⟨a, vs, h1, h2, e _ _ h3 (fun _ z => nomatch z), h4.monoN (extN_hid e)⟩
    | rw ns => exact fun ⟨h0, a, h1, h2⟩ => ⟨h0, a, h1, seqLN (extN_hid e) h2⟩
    | dk ks => exact fun ⟨a, vs, h1, h2, h3, h4⟩ => ⟨a, vs, h1, h2, e _ _ h3 (fun _ z => nomatch z), h4⟩
/-- behind an exception: what no slot owned stands -/
theorem Rl.dropped (R : Rl K M F ev σ H ρ) (hβ : M.β = none) (e : Same (unowned ρ H) H') (hM : ∀ b, M.B b → ∀ i, ρ i ≠ some b) : Rl K M (unowned ρ H) (dropOw ev) σ H' (fun _ => none) where
  len := by unfold dropOw; rw [List.length_map]; exact R.len
  frz := e
  ofr := fun i a h => nomatch h
  btr := fun b z => by
    have h1 := R.btr b z
    obtain ⟨o, q, n⟩ := h1
    have h2 : unowned ρ H b = some o := hid_some.mpr ⟨fun ⟨i, hi⟩ => hM b z i hi, q⟩
    exact ⟨o, e b o h2, n⟩
  inj := fun i j a h => nomatch h
  ex := fun i a h => nomatch h
  bx := fun a h => by rw [hβ] at h; cases h
  sl := fun i => by
    have up : Same (hd M ρ H) (hd M (fun _ => none) H') := fun b o z => by
      obtain ⟨z1, z2⟩ := hid_some.mp z
      refine hid_some.mpr ⟨fun y => ?_, e b o (hid_some.mpr ⟨fun y => z1 (.inr y), z2⟩)⟩
      rcases y with y | ⟨j, y⟩
      · exact z1 (.inl y)
      · cases y
    have h := R.sl i
    rw [sv_dropOw]
    revert h
    cases sv ev i with
    | un => exact id
    | fr d => exact fun ⟨h0, v, h1, h2⟩ => ⟨rfl, v, h1, h2.mono up⟩
    | ow ds => exact fun _ => trivial
    | rw ns => exact fun ⟨h0, a, h1, h2⟩ => ⟨rfl, a, h1, up.seq h2⟩
    | dk ks => exact fun _ => trivial
end
section
variable (K : PySem.W.Frag) (M : Fm) (T : TT')
def LTE (t : VT) : TE := fun σ H Q => ∃ F ev ρ Qv, Tabs T F ∧ Rl K M F ev σ H ρ ∧ t ev Qv ∧
  ∀ d ev' v F' H' ρ', Tabs T F' → Qv d ev' → Rl K M F' ev' σ H' ρ' → Rp K (hd M ρ' H') v d → Q v H'
def LTB (t : VTB) : TT := fun σ H Q => ∃ F ev ρ Qv, Tabs T F ∧ Rl K M F ev σ H ρ ∧ t ev Qv ∧
  ∀ d ev' F' H' ρ', Tabs T F' → Qv d ev' → Rl K M F' ev' σ H' ρ' → Q d H'
def LTS (t : VS) : TS := fun D σ H => ∃ F ev ρ D', Tabs T F ∧ Rl K M F ev σ H ρ ∧ t D' ev ∧ ∀ F', Tabs T F' → Post K M F' D' D
end
section
variable {X : Cx} {M : Fm} {T : TT'} {e a b c : Expr} {st : Stmt} {rest bs cs : List Stmt} {pos : Pos}
theorem pet_of {t : VT} (h : VE X M e t) : PE X e (LTE X.K M T t) := ⟨fun pins s σ H Q I ⟨F, ev, ρ, Qv, tb, R, q, k⟩ => (h.pe F).run pins s σ H Q I ⟨ev, ρ, Qv, R, q, fun d ev' v H' q1 R1 s1 r1 => k d ev' v F H' ρ tb q1 R1 r1⟩⟩
theorem ptt_of {t : VTB} (h : VB X M e t) : PT X e (LTB X.K M T t) := ⟨fun pins s σ H Q I ⟨F, ev, ρ, Qv, tb, R, q, k⟩ => (h.pt F).run pins s σ H Q I ⟨ev, ρ, Qv, R, q, fun d ev' H' q1 R1 s1 => k d ev' F H' ρ tb q1 R1⟩⟩
theorem pst_of {t : VS} (h : VSt X M st t) : PS X st (LTS X.K M T t) := ⟨fun pins s σ H D I ⟨F, ev, ρ, D', tb, R, q, k⟩ => (h.ps F).run pins s σ H D I ⟨ev, ρ, D', R, q, k F tb⟩⟩
theorem psst_of {t : VS} (h : VSs X M rest t) : PSs X rest (LTS X.K M T t) := ⟨fun pins s σ H D I ⟨F, ev, ρ, D', tb, R, q, k⟩ => (h.ps F).run pins s σ H D I ⟨ev, ρ, D', R, q, k F tb⟩⟩
theorem psst_cons {t u : VS} (h1 : PS X st (LTS X.K M T t)) (h2 : PSs X rest (LTS X.K M T u)) : PSs X (st :: rest) (LTS X.K M T (vSeq t u)) :=
  pssI (pss_cons h1 h2) fun D σ H ⟨F, ev, ρ, D', tb, R, q, k⟩ => ⟨F, ev, ρ, _, tb, R, q, fun F' tb' => ⟨fun e1 σ1 H1 ρ1 q1 R1 => ⟨F', e1, ρ1, D', tb', R1, q1, k⟩, (k F' tb').rt, (k F' tb').bk, (k F' tb').ct⟩⟩
theorem psst_one {t : VS} (h1 : PS X st (LTS X.K M T t)) : PSs X [st] (LTS X.K M T t) := pss_one h1
theorem psst_nil : PSs X [] (LTS X.K M T vNext) := psst_of vs_nil
theorem pst_if {t : VTB} {u w : VS} (hc : PT X c (LTB X.K M T t)) (ha : PSs X bs (LTS X.K M T u)) (hb : PSs X cs (LTS X.K M T w)) : PS X (.If c bs cs pos) (LTS X.K M T (vIfS t u w)) :=
  psI (ps_if hc ha hb) fun D σ H ⟨F, ev, ρ, D', tb, R, q, k⟩ => ⟨F, ev, ρ, _, tb, R, q, fun z e1 F1 H1 ρ1 tb1 q1 R1 => by
    cases z with
    | true => exact ⟨F1, e1, ρ1, D', tb1, R1, q1, k⟩
    | false => exact ⟨F1, e1, ρ1, D', tb1, R1, q1, k⟩⟩
theorem pst_ret {t : VT} (h : PE X e (LTE X.K M T t)) : PS X (.Return (some e) pos) (LTS X.K M T (vRet t)) :=
  psI (ps_ret h) fun D σ H ⟨F, ev, ρ, D', tb, R, q, k⟩ => ⟨F, ev, ρ, _, tb, R, q, fun d e1 v F1 H1 ρ1 tb1 q1 R1 r1 => (k F1 tb1).rt d v e1 σ H1 ρ1 q1 R1 r1⟩
/-- x == a text -/
def vEqS (s : Str) (t : VT) : VT := fun ev Q => t ev fun d e1 => dEq d (.str s) fun b => Q b e1
theorem pet_eqS {t : VT} {s : Str} {j : Nat} {p : Pos} (h : PE X e (LTE X.K M T t)) (ho : OpR X (compareOp .Eq) (rEqD X.K)) (hm : behindInMarks .Eq (.Constant (.str s) j p) = false := by rfl) : PE X (.Compare e [.Eq] [.Constant (.str s) j p] pos) (LTE X.K M T (vEqS s t)) :=
  peI (pe_cmpR ho h pe_str hm) fun σ H Q ⟨F, ev, ρ, Qv, tb, R, q, k⟩ => ⟨F, ev, ρ, _, tb, R, q, fun d e1 v F1 H1 ρ1 tb1 q1 R1 r1 =>
    ov_eq (Own M ρ1) H1 v (.str s) d (.str s) _ _ R1.tr (.inl r1) (.inl (.str s)) q1 fun v2 H2 d2 q2 sm rr => k d2 e1 v2 F1 H2 ρ1 tb1 q2 (R1.same sm) rr⟩
theorem ptt_eqS {t : VT} {s : Str} {j : Nat} {p : Pos} (h : PE X e (LTE X.K M T t)) (ho : OpR X (compareOp .Eq) (rEqD X.K)) (hm : behindInMarks .Eq (.Constant (.str s) j p) = false := by rfl) : PT X (.Compare e [.Eq] [.Constant (.str s) j p] pos) (LTB X.K M T (vB (vEqS s t))) :=
  ptI (pt_cmpR ho h pe_str hm) fun σ H Q ⟨F, ev, ρ, Qv, tb, R, q, k⟩ => ⟨F, ev, ρ, _, tb, R, q, fun d e1 v F1 H1 ρ1 tb1 q1 R1 r1 =>
    show rEqD X.K v (V.str s) H1 (fun x H' => ∃ k, x = V.bl k ∧ Q k H') from ov_eq (Own M ρ1) H1 v (.str s) d (.str s) _ _ R1.tr (.inl r1) (.inl (.str s)) q1 fun v2 H2 d2 q2 sm rr => by
      cases d2 with
      | bool z => cases rr; exact ⟨z, rfl, k z e1 F1 H2 ρ1 tb1 q2 (R1.same sm)⟩
      | _ => exact q2.elim⟩
theorem ptt_not {t : VTB} (h : PT X a (LTB X.K M T t)) : PT X (.UnaryOp .Not a pos) (LTB X.K M T (vNot t)) :=
  ptI (pt_not h) fun σ H Q ⟨F, ev, ρ, Qv, tb, R, q, k⟩ => ⟨F, ev, ρ, _, tb, R, q, fun d e1 F1 H1 ρ1 tb1 q1 R1 => k (!d) e1 F1 H1 ρ1 tb1 q1 R1⟩
theorem pet_and {t u : VT} {rest : List Expr} (h : PE X a (LTE X.K M T t)) (h2 : PE X (.BoolOp .And (b :: rest) pos) (LTE X.K M T u)) : PE X (.BoolOp .And (a :: b :: rest) pos) (LTE X.K M T (vAndV t u)) :=
  peI (pe_and h h2) fun σ H Q ⟨F, ev, ρ, Qv, tb, R, q, k⟩ => ⟨F, ev, ρ, _, tb, R, q, fun d e1 v F1 H1 ρ1 tb1 q1 R1 r1 => by
    cases d with
    | bool z =>
      cases r1
      cases z with
      | true => exact ⟨true, rfl, F1, e1, ρ1, Qv, tb1, R1, q1, k⟩
      | false => exact ⟨false, rfl, k (.bool false) e1 _ F1 H1 ρ1 tb1 q1 R1 (.bl false)⟩
    | _ => exact q1.elim⟩
/-- _law_reason(lambda: e) -/
def vReason (t : VTX) : VT := fun ev Q => t (fun r => Q (.str r) (dropOw ev)) ev fun _ e1 => Q .none e1
theorem pet_reason {C : Addr} {t : VTX} {g cA P : Addr} {k j : Nat} {pg : Arguments} {sg : Scope} {dV kV doc pm cdv ct oc : Value} {an od : Option Addr} {osl : Array (Option Value)} {params : Arguments} {body : Expr} {scope : Scope} {p lpos : Pos} {p1 p2 p3 p4 p5 p6 p7 p8 p9 p10 p11 : Pos}
    (hT : T = [(P, X.env.qual ++ "<lambda>")]) (hMB : ∀ b, M.B b → b = P) (hβ : M.β = none)
    (S : XfC X.K C) (hnf : PySem.W.findIn X.K (.ref C) "reason" = some none) (hex : PySem.W.exmOne X.K (.ref C) (.ref C) = some true) (hmB : X.mg "BadTable" = some (.ref C))
    (hg : Gl X "_law_reason") (hm : X.mg "_law_reason" = some (.ref g)) (hk : PySem.W.keepIn X.K (.ref g) = true)
    (lk : X.K.lookup g = some ⟨oc, od, .func (PySem.W.fnOf "_law_reason" "_law_reason" pg [.Try [.Expr (.Call (.Name "call" p1) [] [] p2) p3] [.ExceptHandler (some (.Name "BadTable" p4)) (some "e") [.Return (some (.Attribute (.Name "e" p5) "reason" p6)) p7] p8] [] [] p9, .Return (some (.Constant .none j p10)) p11] sg dV kV doc pm an cdv ct), osl⟩)
    (hcg : PySem.W.codeIn X.K cdv "_law_reason" = true) (hb : L2.Binds X.K (PySem.W.fnOf "_law_reason" "_law_reason" pg [.Try [.Expr (.Call (.Name "call" p1) [] [] p2) p3] [.ExceptHandler (some (.Name "BadTable" p4)) (some "e") [.Return (some (.Attribute (.Name "e" p5) "reason" p6)) p7] p8] [] [] p9, .Return (some (.Constant .none j p10)) p11] sg dV kV doc pm an cdv ct) ["call"] [])
    (Sg : FnScope ["call", "e"] ["call"] sg) (hge : sg.names.lookup ("BadTable" : Str) = some .globalImplicit) (hke : sg.names.lookup ("e" : Str) = some .local) (hkc : sg.names.lookup ("call" : Str) = some .local)
    (TB : TabB X.base X.mg cA P) (hcode : X.env.code = .ref cA) (hr : Room (k + 2) X.A) (L : LamS X.env.scope scope) (hdef : defaultsOf params X.env = ([], []))
    (hbind : ∀ (q : Str) (cl : List (Str × Addr)) (pm cv ctv : Value), bindArgs (PySem.W.kla_fn "<lambda>" q params body scope cl pm cv ctv) ⟨[], []⟩ = pure [])
    (hbody : ∀ (A : Around) (outer : List Env) (s : Shared) (H : Hp) (E : XK) (f c' : Addr), Room k (A.deeper (lamEnv X scope s.heap.objs.size f c')) → PE (lamCx X A outer s H E scope f c') body (LEx X.K M C E t))
    (hsw : ∀ (X : Cx), swapsWith (.Call (.Name "call" p1) [] [] p2) none p3.line X.env = pure false := by intro _; rfl) :
    PE X (.Call (.Name "_law_reason" p) [.Lambda params body scope lpos] [] pos) (LTE X.K M T (vReason t)) := by
  subst hT
  refine peI (pe_lamcall (T := [(P, X.env.qual ++ "<lambda>")]) (TT := VX.TReason C) (a := "call") (t := fun E => LEx X.K M C E t) hg hm hk lk hcg hb Sg rfl (.inl hkc) (VX.reason_gives S hnf hex hge hmB Sg.nd rfl rfl rfl hke hsw) TB hcode (List.mem_singleton.mpr rfl)
    (fun q hq _ => by rw [List.mem_singleton.mp hq]) hr L hdef hbind hbody) fun σ H Q ⟨F, ev, ρ, Qv, tb, R, q, k⟩ => ?_
  refine ⟨tb.ext R.frz, fun H1 eN T1 => ?_⟩
  have tH : ∀ b, M.B b → ∃ ps, H1 b = some (.tbl ps) := fun b hb => by
    obtain ⟨ps, h1, _⟩ := T1 _ (List.mem_singleton.mpr rfl)
    rw [hMB b hb]
    exact ⟨ps, h1⟩
  have R1 : Rl X.K M (unowned ρ H1) ev σ H1 ρ := R.extN eN fun b hb => by
    obtain ⟨ps, h1⟩ := tH b hb
    exact ⟨_, h1, fun vs z => by cases z⟩
  have TU := unowned_tabs R1 T1
  refine ⟨unowned ρ H1, ev, ρ, _, _, R1, q, fun r dx H' hr sm hx => ⟨r, dx, rfl, rfl, hx, ?_⟩, fun d ev' v H' q1 R2 s2 r2 => k .none ev' .non _ H' ρ TU q1 R2 .non⟩
  exact k (.str r) _ _ _ H' (fun _ => none) TU hr (R1.dropped hβ sm fun b hb i e => by
    obtain ⟨vs, z, y⟩ := R1.ow i b e
    obtain ⟨ps, h1⟩ := tH b hb
    rw [h1] at z
    cases z
    rcases y with ⟨_, y⟩ | ⟨_, y⟩ <;> cases y) (.str r)
end
/-- the law: true at every script -/
def spLaw (K : PySem.W.Frag) (P : Addr) : Sp := fun vs H Q _ => ∃ (a : Addr) (ns : List Int), vs = [.ref a] ∧ H P = some (.tbl #[]) ∧ SqL K H a (ns.map V.int) ∧ ∀ H', Q (.bl true) H'
theorem fn_okLaw {P : Program} {w : World} {K : PySem.W.Frag} {mg : Str → Option Value} {base : Heap} {st : Stmt} {f Pt : Addr} {fd : FuncData} {N : List Str} {k : Nat} {t : VS} (F : FnP K "law" st f fd) (S : FnScope N ["script"] (defScope st))
    (hb : ∀ (cA : Addr) (A : Around) (outer : List Env) (s : Shared) (H : Hp) (E : XK), (∃ oc od osl, K.lookup f = some ⟨oc, od, .func fd, osl⟩ ∧ fd.code = .ref cA) → Room k (A.deeper (envOfC "law" (defScope st) s.heap.objs.size f (.ref cA))) →
      PSs (cxOf CX0 P w K mg base N "law" (defScope st) f (.ref cA) A outer s H E).nox (defBody st) (LTS K ⟨fun b => b = Pt, none⟩ [(Pt, "law.<locals>.<lambda>")] t))
    (hq : ∀ ns, t { nx := fun _ => False, rt := fun d _ => d = .bool true } (evS N ns [])) : FnOk P w K mg base CX0 (k + 1) f fd ["script"] (spLaw K Pt) := by
  obtain ⟨oc, od, dV, kV, doc, pm, an, cdv, ct, osl, rfl, lk, hcd, _, _⟩ := F.ex
  obtain ⟨cA, hcA⟩ := He.codeIn_ref hcd
  subst hcA
  refine fn_of lk hcd S (fun vs H Q E ⟨a, ns, e, _⟩ => by rw [e]; rfl) fun A outer s H vs Q E hr ⟨a, ns, e, hP, hs, hQ⟩ => ?_
  subst e
  have hB : ∀ b, (fun b => b = Pt) b → Nt H b := fun b e => by
    have e' : b = Pt := e
    rw [e']
    exact ⟨_, hP, fun vs z => by cases z⟩
  have hs' : SqL K (hid (fun b => b = Pt) H) a (ns.map V.int) := seqLN (fun b o h n => hid_some.mpr ⟨fun e => by
    have e' : b = Pt := e
    rw [e', hP] at h
    exact n _ (Option.some.inj h).symm, h⟩) hs
  refine ⟨_, PSs.nox (hb cA A outer s H E ⟨_, _, _, lk, rfl⟩ hr), H, evS N ns [], fun _ => none, _, fun p hp => ?_, rl_startS (ws := []) hB hs' .nil, hq ns, fun F' _ => ⟨fun ev σ H' ρ q R => q.elim, fun d v ev σ H' ρ q R rr => ?_, fun ev σ H' ρ q R => q.elim, fun ev σ H' ρ q R => q.elim⟩⟩
  · rw [List.mem_singleton.mp hp]
    exact TabS.nil hP
  · have q' : d = .bool true := q
    subst q'
    cases rr
    exact hQ H'
end VL
namespace VL
open PySem PySem.Spec PyProof.Rows L2 LamX
/-- BadTable, as a raise needs it -/
structure Bad (P : Program) (K : PySem.W.Frag) (mg : Str → Option Value) (d : VX.InitD) : Prop where
  S : VX.Says P.main.file d K
  D : VX.InitOk P d
  m : mg "BadTable" = some (.ref (VX.C_ K))
/-- _law_reason, as a call needs it -/
structure Rsn (P : Program) (K : PySem.W.Frag) (mg : Str → Option Value) (base : Heap) (d : VX.InitD) (st : Stmt) (cA Pt : Addr) : Prop where
  bad : Bad P K mg d
  fn : ∃ g fd, FnP K "_law_reason" st g fd ∧ mg "_law_reason" = some (.ref g)
  TB : TabB base mg cA Pt
  sc : FnScope ["call", "e"] ["call"] (defScope st)
  ge : (defScope st).names.lookup ("BadTable" : Str) = some .globalImplicit
  ke : (defScope st).names.lookup ("e" : Str) = some .local
  kc : (defScope st).names.lookup ("call" : Str) = some .local
  body : ∃ (p1 p2 p3 p4 p5 p6 p7 p8 p9 p10 p11 : Pos) (j : Nat), defBody st = [.Try [.Expr (.Call (.Name "call" p1) [] [] p2) p3] [.ExceptHandler (some (.Name "BadTable" p4)) (some "e") [.Return (some (.Attribute (.Name "e" p5) "reason" p6)) p7] p8] [] [] p9, .Return (some (.Constant .none j p10)) p11] ∧
    ∀ (X : Cx), swapsWith (.Call (.Name "call" p1) [] [] p2) none p3.line X.env = pure false
  bind : ∀ (fd : FuncData) (g : Addr), FnP K "_law_reason" st g fd → L2.Binds K fd ["call"] []
theorem pet_rsn {X : Cx} {M : Fm} {T : TT'} {st : Stmt} {d : VX.InitD} {t : VTX} {cA Pt : Addr} {k : Nat} {params : Arguments} {body : Expr} {scope : Scope} {p lpos pos : Pos} (Z : Rsn X.prog X.K X.mg X.base d st cA Pt)
    (hT : T = [(Pt, X.env.qual ++ "<lambda>")]) (hMB : ∀ b, M.B b → b = Pt) (hβ : M.β = none) (hg : Gl X "_law_reason") (hcode : X.env.code = .ref cA) (hr : Room (k + 2) X.A) (L : LamS X.env.scope scope) (hdef : defaultsOf params X.env = ([], []))
    (hbind : ∀ (q : Str) (cl : List (Str × Addr)) (pm cv ctv : Value), bindArgs (PySem.W.kla_fn "<lambda>" q params body scope cl pm cv ctv) ⟨[], []⟩ = pure [])
    (hbody : ∀ (A : Around) (outer : List Env) (s : Shared) (H : Hp) (E : XK) (f c' : Addr), Room k (A.deeper (lamEnv X scope s.heap.objs.size f c')) → PE (lamCx X A outer s H E scope f c') body (LEx X.K M (VX.C_ X.K) E t)) :
    PE X (.Call (.Name "_law_reason" p) [.Lambda params body scope lpos] [] pos) (LTE X.K M T (vReason t)) := by
  obtain ⟨g, fd, F, hm⟩ := Z.fn
  obtain ⟨p1, p2, p3, p4, p5, p6, p7, p8, p9, p10, p11, j, eb, hsw⟩ := Z.body
  have hb := Z.bind fd g F
  obtain ⟨oc, od, dV, kV, doc, pm, an, cdv, ct, osl, rfl, lk, hcd, _, _⟩ := F.ex
  rw [eb] at lk hb
  exact pet_reason hT hMB hβ Z.bad.S.xf Z.bad.S.nf Z.bad.S.exm Z.bad.m hg hm F.kp lk hcd hb Z.sc Z.ge Z.ke Z.kc Z.TB hcode hr L hdef hbind hbody hsw
structure CalX (P : Program) (w : World) (K : PySem.W.Frag) (mg : Str → Option Value) (base : Heap) (k : Nat) (x : Str) (ps : List Str) (sp : Sp) (f : Addr) (fd : FuncData) : Prop where
  ok : FnOk P w K mg base (L2.CX P w) k f fd ps sp
  b : L2.Binds K fd ps []
  kp : PySem.W.keepIn K (.ref f) = true
  m : mg x = some (.ref f)
end VL

set_option Elab.async false
set_option linter.all false
set_option maxRecDepth 100000
set_option maxHeartbeats 4000000
/-! The value layer, part U: the head's Hook, the end. -/
namespace VX
open PySem PySem.Spec PyProof.Rows PySem.W L2 LamX
abbrev lawP : Str × Option Str := ("law", none)
def tabOk (g : Addr → Option Obj) (K : Frag) : Bool := codeHdIn K (He.cT K lawP).1 (He.cT K lawP).2 && (match g (He.cT K lawP).2 with
  | some o => He.emptyTab o
  | none => false)
mutual
/-- the value stands for the data, by what the written part says -/
def datB (K : Frag) : PyData → Value → Bool
  | .none, .none => true
  | .bool b, .bool c => b == c
  | .int i, .int j _ => decide (i = j)
  | .str x, .str y _ => decide (x = y)
  | .tuple ds, .ref a => (match K.lookup a with
    | some ⟨.type c, _, .seq its _, _⟩ => decide (c = "tuple") && (decide (its.size ≤ sizeLine) && datsB K ds its.toList)
    | _ => false)
  | _, _ => false
def datsB (K : Frag) : List PyData → List Value → Bool
  | [], [] => true
  | d :: ds, u :: us => datB K d u && datsB K ds us
  | _, _ => false
end
def toV : Value → V
  | .bool b => .bl b
  | .int i _ => .int i
  | .str x _ => .str x
  | .ref a => .ref a
  | _ => .non
mutual
theorem datB_ok {K : Frag} : ∀ (d : PyData) (u : Value), datB K d u = true → L2.RelV (toV u) u ∧ ∀ H, VL.Rp K H (toV u) d
  | .none, u, h => by
    cases u <;> first | exact ⟨rfl, fun H => .non⟩ | (unfold datB at h; cases h)
  | .bool b, u, h => by
    cases u with
    | bool c =>
      have e : b = c := by simpa [datB] using h
      subst e
      exact ⟨rfl, fun H => .bl b⟩
    | _ => unfold datB at h; cases h
  | .int i, u, h => by
    cases u with
    | int j t =>
      have e : i = j := by simpa [datB] using h
      subst e
      exact ⟨⟨t, rfl⟩, fun H => .int i⟩
    | _ => unfold datB at h; cases h
  | .str x, u, h => by
    cases u with
    | str y t =>
      have e : x = y := by simpa [datB] using h
      subst e
      exact ⟨⟨t, rfl⟩, fun H => .str x⟩
    | _ => unfold datB at h; cases h
  | .tuple ds, u, h => by
    cases u with
    | ref a =>
      unfold datB at h
      split at h
      · rename_i c dd its n sl ho
        simp only [Bool.and_eq_true, decide_eq_true_eq] at h
        obtain ⟨h1, h2, h3⟩ := h
        subst h1
        obtain ⟨r1, r2⟩ := datsB_ok ds its.toList h3
        exact ⟨rfl, fun H => .tup (.inr ⟨_, its, n, ho, rfl, rfl, h2, r1⟩) (r2 H)⟩
      · cases h
    | _ => unfold datB at h; cases h
  | .list _, u, h => by unfold datB at h; cases u <;> cases h
  | .dict _, u, h => by unfold datB at h; cases u <;> cases h
theorem datsB_ok {K : Frag} : ∀ (ds : List PyData) (us : List Value), datsB K ds us = true → L2.Vals (us.map toV) us ∧ ∀ H, VL.Rps K H (us.map toV) ds
  | [], us, h => by
    cases us with
    | nil => exact ⟨.nil, fun H => .nil⟩
    | cons _ _ => unfold datsB at h; cases h
  | d :: ds, us, h => by
    cases us with
    | nil => unfold datsB at h; cases h
    | cons u us =>
      unfold datsB at h
      rw [Bool.and_eq_true] at h
      obtain ⟨a1, a2⟩ := datB_ok d u h.1
      obtain ⟨b1, b2⟩ := datsB_ok ds us h.2
      exact ⟨.cons a1 b1, fun H => .cons (a2 H) (b2 H)⟩
end
/-- the module's constants -/
abbrev Cons : Type := List (Str × PyData)
def consB (cs : Cons) (K : Frag) : Bool := cs.all fun q => match nsIn K mainGlobals q.1 with
  | some (some u) => datB K q.2 u
  | _ => false
/-- x stands for the data d -/
def Con (K : Frag) (mg : Str → Option Value) (x : Str) (d : PyData) : Prop := ∃ (v : V) (u : Value), mg x = some u ∧ L2.RelV v u ∧ ∀ H, VL.Rp K H v d
theorem cons_ok {cs : Cons} {K : Frag} {h : Heap} {mg : Str → Option Value} (X : K.In h) (G : h.Ns mainGlobals mg) (c : consB cs K = true) {x : Str} {d : PyData} (hm : (x, d) ∈ cs) : Con K mg x d := by
  have q := List.all_eq_true.mp c (x, d) hm
  dsimp only at q
  split at q
  · rename_i u hu
    obtain ⟨r1, r2⟩ := datB_ok d u q
    exact ⟨toV u, u, mg_of X G hu, r1, r2⟩
  · cases q
structure SaysB (cs : Cons) (fa : List He.Fa) (fn : List He.DefD) (main : Str) (d : InitD) (h : Heap) (K : Frag) : Prop where
  t : He.SaysD fa fn K
  s : Says main d K
  con : consB cs K = true
  hd : codeHdIn K (He.cT K lawP).1 (He.cT K lawP).2 = true
  out : K.lookup (He.cT K lawP).2 = none
  empty : h.get? (He.cT K lawP).2 = some { cls := .none, data := .fields #[] }
abbrev AlB : Type := He.AlD × Bool × InW
def obK (cs : Cons) (fa : List He.Fa) (fn : List He.DefD) (main : Str) (g : Addr → Option Obj) (K : Frag) : AlB := (He.obsD fa fn K, sayB main K && (tabOk g K && consB cs K), initW K)
def kB (n : Nat) (g : Addr → Option Obj) : Frag := He.frT g (cStatics :: He.asD g n)
def obB (n : Nat) (cs : Cons) (fa : List He.Fa) (fn : List He.DefD) (main : Str) (g : Addr → Option Obj) : AlB := obK cs fa fn main g (kB n g)
def valB (fn : List He.DefD) (d : InitD) : AlB := (He.valD fn, true, d.val)
theorem saysB_of {n : Nat} {cs : Cons} {fa : List He.Fa} {fn : List He.DefD} {main : Str} {d : InitD} {h : Heap} (e : obB n cs fa fn main h.get? = valB fn d) : SaysB cs fa fn main d h (kB n h.get?) := by
  have e1 : He.obsD fa fn (kB n h.get?) = He.valD fn := congrArg (fun z : AlB => z.1) e
  have e2 : (sayB main (kB n h.get?) && (tabOk h.get? (kB n h.get?) && consB cs (kB n h.get?))) = true := congrArg (fun z : AlB => z.2.1) e
  have e3 : initW (kB n h.get?) = d.val := congrArg (fun z : AlB => z.2.2) e
  rw [Bool.and_eq_true, Bool.and_eq_true] at e2
  obtain ⟨e4, e5, e8⟩ := e2
  unfold tabOk at e5
  rw [Bool.and_eq_true] at e5
  obtain ⟨e6, e7⟩ := e5
  split at e7
  · rename_i o ho
    exact ⟨e1, says_of e3 e4, e8, e6, He.frT_none ho e7, by rw [ho, He.emptyTab_eq e7]⟩
  · cases e7
def hookB (n : Nat) (cs : Cons) (fa : List He.Fa) (fn : List He.DefD) (main : Str) (d : InitD) : Hook where
  α := AlB
  obs := fun s => obB n cs fa fn main s.heap.get?
  val := fun _ => valB fn d
  says := fun _ h => ∃ K : Frag, K.In h ∧ SaysB cs fa fn main d h K
  of := fun _ _ e => ⟨_, He.frT_in, saysB_of e⟩
  keeps := fun _ _ _ ⟨K, hK, c⟩ k => ⟨K, Frag.In.keeps hK k, ⟨c.t, c.s, c.con, c.hd, c.out, k _ _ c.empty⟩⟩
theorem obB_eq {n : Nat} {cs : Cons} {fa : List He.Fa} {fn : List He.DefD} {main : Str} {d : InitD} {g : Addr → Option Obj} {s : Shared} (h : ∀ a, g a = s.heap.get? a) : obB n cs fa fn main g = (hookB n cs fa fn main d).obs s := by
  have e : g = s.heap.get? := funext h
  rw [e] <;> rfl
/-- the end -/
theorem walk_B {l : OpenLaw} {n k : Nat} {q : Program} {loose : List Str} {XP : (Str → Option Value) → Heap → Prop} {dr : DefRec} {cs : Cons} {fa : List He.Fa} {fn : List He.DefD} {main : Str} {d : InitD}
    (hn : l.most = some n) (hn2 : n ≤ sizeLine) (hdf : dr.params.defaults = []) (hr : Room k callerA) (hname : dr.name = ("law" : Str)) (hglo : He.Fa.glo "law" ∈ fa)
    (hF : ∀ (w : World) (mg : Str → Option Value) (h : Heap) (K : Frag), K.In h → h.Ns mainGlobals mg → SaysB cs fa fn main d h K → ∃ fd : FuncData, (∀ (s : Shared) (u : Value), BindsTo s fd ⟨[u], []⟩ [("script", u)]) ∧
      ∀ base : Heap, K.In base → base.Ns mainGlobals mg → TabB base mg (He.cT K lawP).1 (He.cT K lawP).2 → FnOk l.prog w K mg base C8.CX0 k (He.fAd K lawP) fd ["script"] (VL.spLaw K (He.cT K lawP).2)) :
    WalkO q loose XP (hookB 4 cs fa fn main d).says l.row.toRowW dr [] (fun f vs => PySem.call f vs) := by
  refine walk_ofTsE (l := l) (n := n) (k := k) (x := "script") (CX := fun _ => C8.CX0) hn hn2 hdf hr ?_ (fun _ _ _ _ _ z => z)
  intro w mg fad h Y G hmg
  obtain ⟨K, KX, c⟩ := Y
  have e1 : mg "law" = some (.ref (He.ga K "law")) := He.glo_ok KX G (He.SaysD.facts c.t hglo)
  have e2 : fad = He.fAd K lawP := by
    rw [hname, e1] at hmg
    cases hmg
    rfl
  subst e2
  obtain ⟨fd, hb, hF'⟩ := hF w mg h K KX G c
  refine ⟨K, KX, fd, [He.cT K lawP], VL.spLaw K (He.cT K lawP).2, fun p hp => by rw [List.mem_singleton.mp hp]; exact c.empty, fun p hp => by rw [List.mem_singleton.mp hp]; exact c.out, fun p hp => by rw [List.mem_singleton.mp hp]; exact PySem.W.codeHd_of_K KX c.hd, hb, fun H a ns _ _ hT hS => ⟨a, ns, rfl, hT _ (List.mem_singleton.mpr rfl), hS, fun _ => rfl⟩, fun base KB GB TB => hF' base KB GB (TB _ (List.mem_singleton.mpr rfl))⟩
end VX

set_option Elab.async false
set_option linter.all false
set_option maxRecDepth 100000
set_option maxHeartbeats 4000000
/-! The value layer, part V: tuple[::-1]. -/
namespace VX
open PySem PySem.Spec PyProof.Rows HT
section
variable {prog : Program} {w : World} {A : Around} {E : Value → Shared → Prop} {s : Shared}
theorem adj_rev (n : Nat) : Builtin.Slice.sliceAdjust none none (-1) (n : Int) = ((n : Int) - 1, -1) := by
  unfold Builtin.Slice.sliceAdjust
  simp
theorem places_rev (n : Nat) : Builtin.Slice.slicePlaces ((n : Int) - 1) (-1) (-1) = n := by
  unfold Builtin.Slice.slicePlaces
  have h1 : ¬ ((-1 : Int) > 0) := by omega
  simp only [h1, if_false]
  have h2 : (n : Int) - 1 - -1 - 1 = n - 1 := by omega
  have h3 : (- -1 : Int) = 1 := by omega
  rw [h2, h3, Int.ediv_one]
  split
  · omega
  · omega
theorem pick_rev (xs : List Value) : ((List.range xs.length).filterMap fun (m : Nat) => xs.toArray[(((xs.length : Nat) : Int) - 1 + (m : Int) * (-1)).toNat]?).toArray = xs.reverse.toArray := by
  congr 1
  have key : ∀ (k : Nat), k ≤ xs.length → ((List.range k).filterMap fun (m : Nat) => xs.toArray[(((xs.length : Nat) : Int) - 1 + (m : Int) * (-1)).toNat]?) = xs.reverse.take k := by
    intro k
    induction k with
    | zero => intro _; simp
    | succ k ih =>
      intro hk
      rw [List.range_succ, List.filterMap_append, ih (by omega)]
      have e : (((xs.length : Nat) : Int) - 1 + (k : Int) * (-1)).toNat = xs.length - 1 - k := by omega
      have h1 : xs.toArray[xs.length - 1 - k]? = some xs[xs.length - 1 - k] := by simp
      simp only [List.filterMap_cons, List.filterMap_nil, e, h1]
      rw [List.take_add_one]
      congr 1
      rw [List.getElem?_reverse (by omega), List.getElem?_eq_getElem (by omega)]
      rfl
  rw [key _ (Nat.le_refl _), List.take_of_length_le (by simp)]
theorem sliceApplied_rev {sl : Addr} {vl vu vs : Value} {n : Nat} {Q : Int × Int × Nat → Shared → Prop} (hs : s.heap.IsSliceOf sl vl vu vs) (pl : IsPart vl none) (pu : IsPart vu none) (ps : IsPart vs (some (-1)))
    (h : Q ((n : Int) - 1, -1, n) s) : wpAny (model prog w) A (Builtin.Slice.sliceApplied (.ref sl) (pure (n : Int))) Q E s := by
  obtain ⟨os, hos, _, hds⟩ := hs
  unfold Builtin.Slice.sliceApplied Builtin.Slice.sliceFields
  refine wpAny_bind (wpAny_bind (wpAny_field hos hds (x := vl) rfl (wpAny_bind (wpAny_field hos hds (x := vu) rfl (wpAny_bind (wpAny_field hos hds (x := vs) rfl (wpAny_pure ?_)))))))
  refine wpAny_bind (slicePart_ ps ?_)
  show wpAny _ _ (if ((-1 : Int) == 0) = true then _ else _) _ _ s
  rw [if_neg (by decide)]
  refine wpAny_bind (slicePart_ pl (wpAny_bind (slicePart_ pu (wpAny_bind (wpAny_pure ?_)))))
  show wpAny _ _ (match Builtin.Slice.sliceAdjust none none (-1) (n : Int) with | (lo, hi) => pure (lo, (-1 : Int), Builtin.Slice.slicePlaces lo hi (-1))) _ _ s
  rw [adj_rev n]
  show wpAny _ _ (pure ((n : Int) - 1, (-1 : Int), Builtin.Slice.slicePlaces ((n : Int) - 1) (-1) (-1))) _ _ s
  rw [places_rev]
  exact wpAny_pure h
theorem getItem_rev {t sl : Addr} {items : List Value} {vl vu vs : Value} {Q : Value → Shared → Prop} (ht : IsTup s.heap t items.toArray) (hs : s.heap.IsSliceOf sl vl vu vs) (pl : IsPart vl none) (pu : IsPart vu none) (ps : IsPart vs (some (-1)))
    (h : Q (.ref s.heap.objs.size) { s with heap := s.heap.push { cls := .type "tuple", data := .seq items.reverse.toArray } })
    (hsz : items.length ≤ sizeLine) : wpAny (model prog w) A (getItem (.ref t) (.ref sl)) Q E s := by
  have htake : sizeOk (.seq items.reverse.toArray) := by
    show items.reverse.toArray.size ≤ sizeLine
    rw [List.size_toArray, List.length_reverse]
    exact hsz
  obtain ⟨os, hos, hcs, hds⟩ := id hs
  have hTs : s.TypeIs (.ref sl) "slice" := ⟨os, hos, hcs⟩
  unfold getItem
  try with_reducible refine wpAny_holding ?_
  first | refine wpAny_bind (wpAny_pure ?_) | skip
  refine wpAny_bind (wpAny_sequenceKey ht.typeIs (by decide) ?_)
  refine wpAny_bind (wpAny_callSpecial?_slot (name := Str.ofString "__getitem__") ht.typeIs PyProof.Rows.slot_tuple_getitem
    (wpAny_call_entry PyProof.Rows.slot_tuple_getitem ht.typeIs entry_tuple_getitem ?_ (args_tuple_getitem _ _)))
  show wpAny _ _ (Builtin.Tuple.tupleItemsOf (.ref t) >>= _) _ _ s
  refine wpAny_bind (tupleItemsOf_ ht ?_)
  refine wpAny_bind (wpAny_typeOf hTs ?_)
  rw [if_pos (by decide)]
  refine wpAny_bind (sliceApplied_rev hs pl pu ps ?_)
  show wpAny _ _ (if (((items.toArray.size : Int) - 1 == 0) && ((-1 : Int) == 1) && (items.toArray.size == items.toArray.size)) = true then _ else _) _ _ s
  rw [if_neg (by simp)]
  have e := pick_rev items
  rw [← List.size_toArray (as := items)] at e
  rw [e]
  first
    | exact wpAny_bind (m := Builtin.Tuple.tupleExact _) (wpAny_newObj_type (wpAny_pure ⟨_, rfl, wpAny_pure h⟩) htake)
    | exact wpAny_bind (m := Builtin.Tuple.tupleExact _) (wpAny_newObj_type (wpAny_bind (wpAny_pure (wpAny_pure ⟨_, rfl, wpAny_pure h⟩))) htake)
    | exact wpAny_bind (wpAny_bind (m := Builtin.Tuple.tupleExact _) (wpAny_newObj_type (wpAny_pure (wpAny_pure ⟨_, rfl, wpAny_pure h⟩)) htake))
    | exact wpAny_bind (wpAny_bind (m := Builtin.Tuple.tupleExact _) (wpAny_newObj_type (wpAny_pure ⟨_, rfl, wpAny_pure h⟩) htake))
end
end VX
namespace VL
open PySem PySem.Spec PyProof.Rows L2
def tRevT (K : PySem.W.Frag) (te : TE) : TE := fun σ H Q => te σ H fun x H1 => ∃ a xs, x = .ref a ∧ SqT K H1 a xs ∧ ∀ p, H1 p = none → Q (.ref p) (upd H1 p (.tup xs.reverse))
section
variable {X : Cx}
theorem pe_revT {e : Expr} {te : TE} {k : Nat} {p1 p2 p3 pos : Pos} (he : PE X e te) : PE X (.Subscript e (.Slice none none (some (.UnaryOp .USub (.Constant (.int 1) k p1) p2)) p3) pos) (tRevT X.K te) := by
  refine ⟨fun pins s σ H Q I h => ?_⟩
  refine Subscript_ (thn (he.run pins s σ H _ I h) fun v s1 ⟨x, H1, I1, r1, q1⟩ => ?_)
  obtain ⟨a, xs, ex, hx, q⟩ := q1
  subst ex
  cases r1
  have hst : PO X (some (.UnaryOp .USub (.Constant (.int 1) k p1) p2)) (tPart (tUn (rU fun i => .int (-i)) (tC (.int 1)))) := po_some (pe_un un_neg pe_int)
  refine wpAny_Slice (thn (po_none.run pins s1 σ H1 (fun o H2 => o = none ∧ H2 = H1) I1 ⟨rfl, rfl⟩) fun vl s2 ⟨l, H2, I2, pl, el, e2⟩ => ?_)
  subst el e2
  refine thn (po_none.run pins s2 σ H2 (fun o H3 => o = none ∧ H3 = H2) I2 ⟨rfl, rfl⟩) fun vu s3 ⟨u, H3, I3, pu, eu, e3⟩ => ?_
  subst eu e3
  refine thn (hst.run pins s3 σ H3 (fun o H4 => o = some (-1) ∧ H4 = H3) I3 ⟨1, rfl, -1, rfl, rfl, rfl⟩) fun vs s4 ⟨o, H4, I4, ps, eo, e4⟩ => ?_
  subst eo e4
  have I5 : Inv X pins σ H4 { s4 with heap := s4.heap.push { cls := .type "slice", data := .fields #[vl, vu, vs] } } := I4.kept (t' := s4.toks) fun b ob z => Heap.get?_push_of_some _ z
  obtain ⟨its, r, ht, hz⟩ := I5.tuple hx
  have hlen := r.length
  show wpAny (model X.prog X.w) X.A (subscriptTail e (.Slice none none (some (.UnaryOp .USub (.Constant (.int 1) k p1) p2)) p3) (.ref a) (.ref s4.heap.objs.size)) (EP X pins σ Q) X.xe { s4 with heap := s4.heap.push { cls := .type "slice", data := .fields #[vl, vu, vs] } }
  refine tail_any (ops := [.ref a, .ref s4.heap.objs.size]) ht.typeIs (PyProof.Rows.slot_tuple_getitem.lookup) ?_ (by with_unfolding_all rfl)
  refine VX.getItem_rev ht (Heap.IsSliceOf.new _ vl vu vs) pl pu ps ?_ (by omega)
  refine ⟨.ref _, _, I5.laid (t' := s4.toks) (o := .tup xs.reverse) (fun b ob z => Heap.get?_push_of_some _ z) (Nat.le_refl _) ?_, rfl, q _ (I5.hok.fresh (Nat.le_refl _))⟩
  exact ⟨by rw [List.length_reverse]; exact hz, _, r.reverse, IsTup.new _ _⟩
/-- xs[::-1] of a tuple -/
def vRevT (t : VT) : VT := fun ev Q => t ev fun d e1 => match d with
  | .tuple ds => Q (.tuple ds.reverse) e1
  | _ => False
theorem ve_revT {M : Fm} {e : Expr} {pos : Pos} {k : Nat} {p1 p2 p3 : Pos} {t : VT} (he : VE X M e t) : VE X M (.Subscript e (.Slice none none (some (.UnaryOp .USub (.Constant (.int 1) k p1) p2)) p3) pos) (vRevT t) :=
  ⟨fun F => peI (pe_revT (he.pe F)) fun σ H Q ⟨ev, ρ, Qv, R, h, kk⟩ => ⟨ev, ρ, _, R, h, fun d e1 v H1 q1 R1 s1 r1 => by
    cases d with
    | tuple ds =>
      obtain ⟨a, ys, rfl, h1, h2⟩ := rt_tup (O := Own M ρ) (.inl r1)
      refine ⟨a, ys, rfl, same_seqT same_hid_of h1, fun p n => ?_⟩
      exact kk _ e1 _ _ q1 (R1.same (same_upd n)) (s1.trans (same_hid (same_upd n))) (new_tup R1.tr n h2.rev)
    | _ => exact q1.elim⟩⟩
end
end VL

set_option Elab.async false
set_option linter.all false
set_option maxRecDepth 100000
set_option maxHeartbeats 4000000
/-! The value layer, part W: further walks. -/
namespace VL
open PySem PySem.Spec PyProof.Rows L2
open Classical
def rngC (lo c : Int) (n : Nat) : List D := (List.range n).map fun i => .int (lo + (i : Nat) * c)
theorem srv_rngC {K : PySem.W.Frag} {G : Hp} (lo c : Int) (n : Nat) : Srv K G (Itc lo c n) (rngC lo c n) := fun H sm => by
  refine ⟨fun i x e => ?_, by show n ≤ _; simp [rngC]⟩
  have hi : i < n := by
    have := (List.getElem?_eq_some_iff.mp e).1
    simpa [rngC] using this
  have hx : x = .int (lo + (i : Nat) * c) := by
    simp [rngC, hi] at e
    exact e.symm
  subst hx
  refine ⟨hi, fun w H3 y => ?_⟩
  obtain ⟨e3, y⟩ := y
  subst e3; subst y
  exact ⟨Same.refl _, fun O _ g => .int _⟩
/-- range(i, j, c) -/
def wR3 (t u w : VT) : VTA := fun ev Q => t ev fun d e1 => u e1 fun d2 e2 => w e2 fun d3 e3 => match d, d2, d3 with
  | .int i, .int j, .int c => ∃ n, RgC i j c n ∧ Q (rngC i c n) e3
  | _, _, _ => False
/-- pairs of the two, as many as the shorter has -/
def zipD (xs ys : List D) : List D := (xs.zip ys).map fun p => .tuple [p.1, p.2]
def enumD (xs : List D) : List D := (List.range xs.length).map fun i => .tuple [.int (i : Nat), xs.getD i .none]
theorem srv_zip {K : PySem.W.Frag} {G : Hp} {a b : Addr} {vs ws : List V} {xs ys : List D} (h : SqL K G a vs) (k : SqL K G b ws) (r : Rps K G vs xs) (q : Rps K G ws ys) : Srv K G (Itz K a b) (zipD xs ys) := fun H sm => by
  have hs : SqL K H a vs := sm.seq h
  have ks : SqL K H b ws := sm.seq k
  refine ⟨fun i x e => ?_, vs, ws, hs, ks, ?_⟩
  · unfold zipD at e
    rw [List.getElem?_map] at e
    obtain ⟨p, hp, rfl⟩ := Option.map_eq_some_iff.mp e
    obtain ⟨e1, e2⟩ := List.getElem?_zip_eq_some.mp hp
    obtain ⟨v, h1, h2⟩ := r.get e1
    obtain ⟨w, k1, k2⟩ := q.get e2
    refine ⟨⟨vs, ws, v, w, hs, ks, h1, k1⟩, fun u H3 y => ?_⟩
    obtain ⟨T, v', w', rfl, hn, rfl, y1, y2⟩ := y
    have ev : v = v' := Option.some.inj (h1.symm.trans (y1 vs hs))
    have ew : w = w' := Option.some.inj (k1.symm.trans (y2 ws ks))
    subst ev
    subst ew
    refine ⟨same_upd hn, fun O tr g => ?_⟩
    refine .tup (.inl (.inl (hid_some.mpr ⟨fun z => tr T z hn, upd_same⟩))) (.cons ?_ (.cons ?_ .nil))
    · exact (h2.mono g).mono (same_hid (same_upd hn))
    · exact (k2.mono g).mono (same_hid (same_upd hn))
  · unfold zipD
    rw [List.length_map, List.length_zip, r.len, q.len]
    omega
theorem srv_zipT {K : PySem.W.Frag} {G : Hp} {a b : Addr} {vs ws : List V} {xs ys : List D} (h : SqT K G a vs) (k : SqT K G b ws) (r : Rps K G vs xs) (q : Rps K G ws ys) : Srv K G (RZ.ItzT K a b) (zipD xs ys) := fun H sm => by
  have hs : SqT K H a vs := same_seqT sm h
  have ks : SqT K H b ws := same_seqT sm k
  refine ⟨fun i x e => ?_, vs, ws, hs, ks, ?_⟩
  · unfold zipD at e
    rw [List.getElem?_map] at e
    obtain ⟨p, hp, rfl⟩ := Option.map_eq_some_iff.mp e
    obtain ⟨e1, e2⟩ := List.getElem?_zip_eq_some.mp hp
    obtain ⟨v, h1, h2⟩ := r.get e1
    obtain ⟨w, k1, k2⟩ := q.get e2
    refine ⟨⟨vs, ws, v, w, hs, ks, h1, k1⟩, fun u H3 y => ?_⟩
    obtain ⟨T, v', w', rfl, hn, rfl, y1, y2⟩ := y
    have ev : v = v' := Option.some.inj (h1.symm.trans (y1 vs hs))
    have ew : w = w' := Option.some.inj (k1.symm.trans (y2 ws ks))
    subst ev
    subst ew
    refine ⟨same_upd hn, fun O tr g => ?_⟩
    refine .tup (.inl (.inl (hid_some.mpr ⟨fun z => tr T z hn, upd_same⟩))) (.cons ?_ (.cons ?_ .nil))
    · exact (h2.mono g).mono (same_hid (same_upd hn))
    · exact (k2.mono g).mono (same_hid (same_upd hn))
  · unfold zipD
    rw [List.length_map, List.length_zip, r.len, q.len]
    omega
/-- zip(x, y) of two lists, of two tuples -/
def wZip (t u : VT) : VTA := fun ev Q => t ev fun d e1 => u e1 fun d2 e2 => match d, d2 with
  | .list xs, .list ys => Q (zipD xs ys) e2
  | .tuple xs, .tuple ys => Q (zipD xs ys) e2
  | _, _ => False
section
variable {X : Cx} {e a b c tg : Expr} {pos : Pos} {M : Fm}
theorem vw_rng3 {t u w : VT} {p : Pos} (hg : Gl X "range") (hm : X.mg "range" = none) (h : VE X M a t) (h2 : VE X M b u) (h3 : VE X M c w) (hs : starEach [a, b, c] X.env = (false, eval a X.env) :: starEach [b, c] X.env := by rfl) (hs2 : starEach [b, c] X.env = (false, eval b X.env) :: starEach [c] X.env := by rfl)
    (hs3 : starEach [c] X.env = (false, eval c X.env) :: starEach [] X.env := by rfl) (hpl : (backTo pos (starEach [b, c] X.env)).any (·.1) = false := by rfl) :
    VW' X M tg (.Call (.Name "range" p) [a, b, c] [] pos) (wR3 t u w) :=
  ⟨fun F => piI (pi_range3 hg hm (pa_cons (h.pe F) (pa_cons (h2.pe F) (pa_cons (h3.pe F) pa_nil hs3) hs2) hs) hs hpl) fun σ H R ⟨ev, ρ, Qv, Rr, q, k⟩ => ⟨ev, ρ, _, Rr, q, fun d e1 v H1 q1 R1 s1 r1 => ⟨e1, ρ, _, R1, q1, fun d2 e2 v2 H2 q2 R2 s2 r2 => ⟨e2, ρ, _, R2, q2, fun d3 e3 v3 H3 q3 R3 s3 r3 => by
    cases d with
    | int i =>
      cases d2 with
      | int j =>
        cases d3 with
        | int c' =>
          cases r1; cases r2; cases r3
          obtain ⟨n, hn, q3⟩ := q3
          exact ⟨i, j, c', n, rfl, hn, k _ e3 _ H3 q3 R3 ((s1.trans s2).trans s3) (srv_rngC i c' n)⟩
        | _ => exact q3.elim
      | _ => exact q3.elim
    | _ => exact q3.elim⟩⟩⟩⟩
theorem vw_zip {elts : List Expr} {kk : Nat} {tpos p : Pos} {t u : VT} (hg : Gl X "zip") (hm : X.mg "zip" = none) (h : VE X M a t) (h2 : VE X M b u) (hs : starEach [a, b] X.env = (false, eval a X.env) :: starEach [b] X.env := by rfl) (hs2 : starEach [b] X.env = (false, eval b X.env) :: starEach [] X.env := by rfl)
    (hpl : (backTo pos (starEach [b] X.env)).any (·.1) = false := by rfl) :
    VW' X M (.Tuple elts kk tpos) (.Call (.Name "zip" p) [a, b] [] pos) (wZip t u) :=
  ⟨fun F => piI (RZ.pi_zipA hg hm (pa_cons (h.pe F) (pa_cons (h2.pe F) pa_nil hs2) hs) hs hpl) fun σ H R ⟨ev, ρ, Qv, Rr, q, k⟩ => ⟨ev, ρ, _, Rr, q, fun d e1 v H1 q1 R1 s1 r1 => ⟨e1, ρ, _, R1, q1, fun d2 e2 v2 H2 q2 R2 s2 r2 => by
    have r1' := r1.mono s2
    cases d with
    | list xs =>
      cases d2 with
      | list ys =>
        cases r1' with
        | lst h1 h2' =>
          cases r2 with
          | lst k1 k2 => exact ⟨_, _, _, _, rfl, .inl ⟨SqL.of (same_hid_of _ _ h1), SqL.of (same_hid_of _ _ k1), k _ e2 _ H2 q2 R2 (s1.trans s2) (srv_zip (SqL.of h1) (SqL.of k1) h2' k2)⟩⟩
      | _ => exact q2.elim
    | tuple xs =>
      cases d2 with
      | tuple ys =>
        cases r1' with
        | tup h1 h2' =>
          cases r2 with
          | tup k1 k2 => exact ⟨_, _, _, _, rfl, .inr ⟨same_seqT same_hid_of h1, same_seqT same_hid_of k1, k _ e2 _ H2 q2 R2 (s1.trans s2) (srv_zipT h1 k1 h2' k2)⟩⟩
      | _ => exact q2.elim
    | _ => exact q2.elim⟩⟩⟩
end
/-! ### isinstance(x, T) -/
/-- the built-in type of data -/
def tyD : D → Option String
  | .none => some "NoneType"
  | .bool _ => some "bool"
  | .int _ => some "int"
  | .str _ => some "str"
  | .list _ => some "list"
  | .tuple _ => some "tuple"
  | .dict _ => none
theorem rt_ty {K : PySem.W.Frag} {O : Addr → Prop} {H : Hp} {v : V} {d : D} {s : String} (r : RpT K O H v d) (h : tyD d = some s) : TyX K H v (.type s) := by
  rcases r with r | ⟨a, xs, ds, rfl, rfl, h1, _⟩
  · cases r with
    | non => cases h; exact .base .non
    | bl b => cases h; exact .base (.bl b)
    | int i => cases h; exact .base (.int i)
    | str x => cases h; exact .base (.str x)
    | lst h1 _ => cases h; exact .base (.lst (same_hid_of _ _ h1))
    | tup h1 _ =>
      cases h
      rcases same_seqT same_hid_of h1 with (z | ⟨o, z⟩) | ⟨o, its, n, z1, z2, _⟩
      · exact .base (.tup z)
      · exact .fTuple z
      · exact .kTuple z1 z2
  · cases h
    exact .base (.lst h1)
/-- of one of the types int, bool, tuple, list -/
def isD (T : String) (d : D) : Bool := match d with
  | .bool _ => T == "bool" || T == "int"
  | .int _ => T == "int"
  | .list _ => T == "list"
  | .tuple _ => T == "tuple"
  | _ => false
def knownT (T : String) : Prop := T = "int" ∨ T = "bool" ∨ T = "tuple" ∨ T = "list"
theorem kit_isD {T : String} {d : D} {s : String} (hT : knownT T) (h : tyD d = some s) : kitB s T = some (isD T d) := by
  have all : (["int", "bool", "tuple", "list"] : List String).all (fun T => decide (kitB "NoneType" T = some false) && (decide (kitB "bool" T = some (T == "bool" || T == "int")) && (decide (kitB "int" T = some (T == "int")) && (decide (kitB "str" T = some false) && (decide (kitB "list" T = some (T == "list")) && decide (kitB "tuple" T = some (T == "tuple"))))))) = true := by decide +kernel
  have hm : T ∈ (["int", "bool", "tuple", "list"] : List String) := by rcases hT with z | z | z | z <;> subst z <;> simp
  have q := List.all_eq_true.mp all T hm
  simp only [Bool.and_eq_true, decide_eq_true_eq] at q
  obtain ⟨q1, q2, q3, q4, q5, q6⟩ := q
  cases d with
  | dict _ => cases h
  | none => cases h; exact q1
  | bool b => cases h; exact q2
  | int i => cases h; exact q3
  | str x => cases h; exact q4
  | list xs => cases h; exact q5
  | tuple xs => cases h; exact q6
def notDict : D → Prop
  | .dict _ => False
  | _ => True
def vIsi (T : String) (t : VT) : VT := fun ev Q => t ev fun d e1 => notDict d ∧ Q (.bool (isD T d)) e1
section
variable {X : Cx} {a : Expr} {pos : Pos} {M : Fm}
theorem ve_isi {T : String} {x : Str} {t : VT} {p p2 : Pos} (hT : knownT T) (hg : Gl X "isinstance") (hm : X.mg "isinstance" = none) (hg2 : Gl X x) (hm2 : X.mg x = none) (hv2 : bootBuiltins x = some (.type T)) (hv : bootBuiltins "isinstance" = some (.builtin "isinstance")) (h : VE X M a t) (hn2 : x ≠ "__name__") (hd2 : (x == ("__debug__" : Str)) = false)
    (hs : starEach [a, .Name x p2] X.env = (false, eval a X.env) :: starEach [.Name x p2] X.env := by rfl) (hs2 : starEach [.Name x p2] X.env = (false, eval (.Name x p2) X.env) :: starEach [] X.env := by rfl) (hpl : (backTo pos (starEach [.Name x p2] X.env)).any (·.1) = false := by rfl) :
    VE X M (.Call (.Name "isinstance" p) [a, .Name x p2] [] pos) (vIsi T t) :=
  ⟨fun F => peI (pe_callB call_isi hg hm hv (pa_cons (h.pe F) (pa_cons (pe_bltn (v := .ty T) hg2 hm2 hv2 rfl hn2 hd2) pa_nil hs2) hs) (by decide) (by decide) hs hpl) fun σ H Q ⟨ev, ρ, Qv, R, q, k⟩ => ⟨ev, ρ, _, R, q, fun d e1 v H1 q1 R1 s1 r1 => by
    obtain ⟨q0, q1⟩ := q1
    have hty : ∃ s, tyD d = some s := by cases d <;> first | exact ⟨_, rfl⟩ | exact q0.elim
    obtain ⟨s, hs3⟩ := hty
    exact ⟨v, .ty T, .type s, .type T, isD T d, rfl, .ty T, rt_ty (O := Own M ρ) (.inl r1) hs3, kit_ty (kit_isD hT hs3), k _ e1 _ H1 q1 R1 s1 (.bl _)⟩⟩⟩
end
/-- a module's constant -/
theorem ve_con {X : Cx} {M : Fm} {x : Str} {d : D} {pos : Pos} (hg : Gl X x) (h : VX.Con X.K X.mg x d) (hdb : (x == ("__debug__" : Str)) = false := by decide) : VE X M (.Name x pos) (vC d) := by
  obtain ⟨v, u, h1, h2, h3⟩ := h
  exact ve_glob hg h1 h2 (h3 _) hdb
end VL

set_option Elab.async false
set_option linter.all false
set_option maxRecDepth 100000
set_option maxHeartbeats 4000000
/-! The value layer, part Q: sorted. -/
namespace VQ
open PySem PyProof.Rows Srt SrtO
section
variable {prog : Program} {w : World} {A : Around} {E : Value → Shared → Prop} {s : Shared}
/-- what collect gives of a value -/
def Coll (prog : Program) (w : World) (A : Around) (s : Shared) (v : Value) (vs : List Value) : Prop :=
  ∀ (R : List Value → Shared → Prop) (E : Value → Shared → Prop), (∀ (h' : Heap) (tk : Nat), (∀ b o, s.heap.get? b = some o → h'.get? b = some o) → s.heap.objs.size ≤ h'.objs.size → R vs { s with heap := h', toks := tk }) → wpAny (model prog w) A (collect v) R E s
theorem coll_list {l : Addr} {vs : List Value} (hl : s.heap.IsList l vs.toArray) (hz : vs.length ≤ sizeLine) : Coll prog w A s (.ref l) vs := fun R E h =>
  collect_list hl (h _ s.toks (fun b o q => by
    rw [Heap.get?_update_ne _ _ _ _ (Nat.ne_of_lt (Heap.lt_size q))]; exact Heap.get?_push_of_some _ q) (by rw [Heap.size_update, size_push']; exact Nat.le_succ _)) hz
theorem coll_tup {l : Addr} {vs : List Value} (hl : IsTup s.heap l vs.toArray) (hz : vs.length ≤ sizeLine) : Coll prog w A s (.ref l) vs := fun R E h => by
  obtain ⟨o, ho, hc, n, hd⟩ := id hl
  have kp : ∀ b o, s.heap.get? b = some o → ((s.heap.push (seqObj "list" #[] 0)).update s.heap.objs.size (Obj.mapSeq (· ++ vs.toArray))).get? b = some o := fun b o q => by
    rw [Heap.get?_update_ne _ _ _ _ (Nat.ne_of_lt (Heap.lt_size q))]; exact Heap.get?_push_of_some _ q
  have sz : s.heap.objs.size ≤ ((s.heap.push (seqObj "list" #[] 0)).update s.heap.objs.size (Obj.mapSeq (· ++ vs.toArray))).objs.size := by
    rw [Heap.size_update, size_push']; exact Nat.le_succ _
  have go : ∀ A' : Around, wpAny (model prog w) A' (Builtin.List.listExtendWith (.ref s.heap.objs.size) (.ref l) (.ref s.heap.objs.size)) (fun f s' => f = .done (.ret (.ref s.heap.objs.size)) ∧ s' = { s with heap := (s.heap.push (seqObj "list" #[] 0)).update s.heap.objs.size (Obj.mapSeq (· ++ vs.toArray)) }) (fun _ _ => False) { s with heap := s.heap.push (seqObj "list" #[] 0) } := fun A' => by
    have g1 : (s.heap.push (seqObj "list" #[] 0)).get? l = some o := Heap.get?_push_of_some _ ho
    have g2 : (s.heap.push (seqObj "list" #[] 0)).get? s.heap.objs.size = some (seqObj "list" #[] 0) := Heap.get?_push_size _ rfl
    unfold Builtin.List.listExtendWith
    refine wpAny_bind (wpAny_typeOf (T := "tuple") ⟨o, g1, hc⟩ ?_)
    rw [if_pos (by simp)]
    refine wpAny_bind (listItems_at g1 hd (wpAny_bind (listItems_at (xs := #[]) (n := 0) g2 rfl ?_)))
    rw [if_neg (by simp)]
    exact wpAny_bind (listUpdate_at (xs := #[]) (n := 0) g2 rfl (wpAny_pure ⟨rfl, rfl⟩) (Nat.zero_le _) (by rw [Array.size_append, List.size_toArray]; exact Nat.le_trans (Nat.le_of_eq (Nat.zero_add _)) (Nat.le_succ_of_le hz)))
  unfold collect
  refine wpAny_bind (wpAny_runValue (codeAny_builtin entry_proto_collect' (wpAny_bind (wpAny_newList (wpAny_pure ⟨Code.quiet_builtin _ (by decide +kernel), codeAny_builtin entry_list_iadd' (wpAny_mono (go _) (fun f s' x => ?_) fun _ _ e => e.elim)⟩)))))
  obtain ⟨rfl, rfl⟩ := x
  refine wpAny_bind (wpAny_load (get?_update_seq (Heap.get?_push_size _ rfl) _) ?_)
  show wpAny _ _ (pure ((#[] : Array Value) ++ vs.toArray).toList) R E _
  have e0 : ((#[] : Array Value) ++ vs.toArray).toList = vs := by simp
  rw [e0]
  exact wpAny_pure (h _ s.toks kp sz)
/-- sorted(v, reverse=b) of whatever can be collected -/
theorem sorted_gen {v : Value} {vs : List Value} {b : Bool} {kw : List (Str × Value)} {ltv : Value → Value → Bool} {Q : Value → Shared → Prop} (hk : ∀ a, Builtin.«list.sort» ⟨[.ref a], kw⟩ = Builtin.«list.sort» ⟨[.ref a], [(Str.ofString "reverse", .bool b)]⟩)
    (ha1 : argsOk "sorted" ⟨[v], kw⟩) (ha2 : ∀ a, argsOk "list.sort" ⟨[a], kw⟩) (O : Swo ltv) (hcol : Coll prog w A.in1 s v vs) (hz : vs.length ≤ sizeLine)
    (hS : 2 ≤ vs.length → ∀ (h₁ : Heap) (tk : Nat) (a : Addr), h₁.get? a = some (seqObj "list" vs.toArray 0) → (∀ b o, s.heap.get? b = some o → b ≠ a ∧ h₁.get? b = some o) → SortableO prog w A.in1.in1 { s with heap := h₁, toks := tk } a vs ltv)
    (h : ∀ (h' : Heap) (tk : Nat) (d : Addr) (out : List Value), Srtd ltv out → Stb ltv out (if b = true then vs.reverse else vs) → (∀ b o, s.heap.get? b = some o → h'.get? b = some o) → s.heap.objs.size ≤ d →
      (∃ n, h'.get? d = some (seqObj "list" (if b = true then out.toArray.reverse else out.toArray) n)) → Q (.ref d) { s with heap := h', toks := tk }) :
    wpAny (model prog w) A (call (.builtin "sorted") [v] kw) Q E s := by
  refine call_function_entry_kw kind_sorted plain_sorted entry_sorted ha1 ?_
  unfold Builtin.«sorted»
  refine wpAny_bind (m := checkCount "sorted" 1 1 _) (wpAny_pure ?_)
  refine wpAny_bind (hcol _ _ fun h1 tk kp hge => ?_)
  refine wpAny_bind (wpAny_newList ?_ hz)
  have hoL : (h1.push (seqObj "list" vs.toArray 0)).get? h1.objs.size = some (seqObj "list" vs.toArray 0) := Heap.get?_push_size _ rfl
  have keep : ∀ b o, s.heap.get? b = some o → b ≠ h1.objs.size ∧ (h1.push (seqObj "list" vs.toArray 0)).get? b = some o := fun b o q =>
    ⟨Nat.ne_of_lt (Heap.lt_size (kp b o q)), Heap.get?_push_of_some _ (kp b o q)⟩
  show wpAny _ _ _ _ _ { s with heap := h1.push (seqObj "list" vs.toArray 0), toks := tk }
  refine wpAny_bind (wpAny_holding (wpAny_call_entry_kw slot_list_sort ⟨_, hoL, rfl⟩ entry_list_sort ?_ (ha2 _)))
  rw [hk]
  refine SrtR.list_sort_ordR (s := { s with heap := h1.push (seqObj "list" vs.toArray 0), toks := tk }) O hoL hz (fun h2 => hS h2 _ _ _ hoL keep) fun out hs hb => ⟨_, rfl, ?_⟩
  refine wpAny_pure ⟨_, rfl, h _ _ _ out hs hb (fun b o q => ?_) hge ?_⟩
  · rw [sortedHeap_old (keep b o q).1 (Heap.lt_size (keep b o q).2)]; exact (keep b o q).2
  · exact sortedHeap_at hoL
/-- of a dict: its keys -/
theorem coll_src {T : String} {v d : Addr} {n : Nat} {P : Nat → Value → Prop} {OK : Heap → Prop} {vs : List Value} (K : PySem.W.KdlSrc prog w T v d n P OK) (hh : A.handled = none) (hok : OK s.heap) (hn : n ≤ sizeLine)
    (hv : ∀ acc : Array Value, PySem.ItemsOf P acc n → acc.toList = vs) : Coll prog w A s (.ref v) vs := fun R E h => by
  have hlt := K.there _ hok
  unfold collect
  refine wpAny_bind (wpAny_runValue (codeAny_builtin entry_proto_collect' ?_))
  rw [Around.under_plainId PySem.F.plain_proto_collect _]
  refine wpAny_bind (wpAny_newObj_type (wpAny_pure ⟨plainId_quiet PySem.F.plain_list_iadd _, codeAny_builtin entry_list_iadd' ?_⟩))
  rw [Around.under_plainId PySem.F.plain_list_iadd _]
  have g2 : (s.heap.push { cls := .type "list", data := .seq ([] : List Value).toArray }).get? s.heap.objs.size = some { cls := .type "list", data := .seq #[] } := Heap.get?_push_size _ rfl
  have key := PySem.W.kdl_extend (A := A) (s := { s with heap := s.heap.push { cls := .type "list", data := .seq ([] : List Value).toArray } })
    (R := fun (q : Result) (s' : Shared) => ∃ (h' : Heap) (tk : Nat) (a' : Array Value) (c' : Nat), q = .ok (.ret (.ref s.heap.objs.size)) ∧ s' = { s with heap := h', toks := tk } ∧ (∀ b o, s.heap.get? b = some o → h'.get? b = some o) ∧
      h'.get? s.heap.objs.size = some { cls := .type "list", dict := none, data := .seq a' c', slots := #[] } ∧ PySem.ItemsOf P a' n)
    K hh (K.keep _ _ hok fun b _ o e => Heap.get?_push_of_some _ e) s.heap.objs.size (Nat.ne_of_gt hlt.1) (Nat.ne_of_gt hlt.2) (.ref s.heap.objs.size) 0 g2
    (fun h' tk a' c' hk hS' ha => ⟨h', tk, a', c', rfl, rfl, fun b o e => hk b o (Nat.ne_of_lt (Heap.lt_size e)) (Heap.get?_push_of_some _ e), hS', ha⟩) hn
  have fin : ∀ (h' : Heap) (tk : Nat) (a' : Array Value) (c' : Nat), (∀ b o, s.heap.get? b = some o → h'.get? b = some o) → h'.get? s.heap.objs.size = some { cls := .type "list", dict := none, data := .seq a' c', slots := #[] } → PySem.ItemsOf P a' n →
      R a'.toList { s with heap := h', toks := tk } := fun h' tk a' c' hk hS' ha => by rw [hv a' ha]; exact h h' tk hk (Nat.le_of_lt (Heap.lt_size hS'))
  refine wpAny_mono key (fun f s' x => ?_) fun e s' x => ?_
  · cases f with
    | done f =>
      obtain ⟨h', tk, a', c', e, rfl, hk, hS', ha⟩ := x
      cases e
      exact wpAny_bind (wpAny_load hS' (wpAny_pure (fin h' tk a' c' hk hS' ha)))
    | again c₁ =>
      refine ⟨x.1, codeAny_mono x.2 fun q s₂ ⟨h', tk, a', c', e1, e2, hk, hS', ha⟩ => ?_⟩
      subst e1 e2
      exact wpAny_bind (wpAny_load hS' (wpAny_pure (fin h' tk a' c' hk hS' ha)))
  · obtain ⟨_, _, _, _, e', _⟩ := x
    cases e'

/-! ### tuples of ints -/
theorem lexK {b : Bool} {Q : Bool → Shared → Prop} {xs ys : List Value} {ns ms : List Int} (i : Nat) (hx : IntsAre xs ns) (hy : IntsAre ys ms) (hl : ns.length = ms.length) (h : Q (HT.lexLt ns ms) s) : PySem.W.KatLex prog w A b false Q (xs.zip ys) i s := by
  induction hx generalizing ys ms i with
  | nil => cases hy with
    | nil => exact PySem.W.kat_nil h
    | cons q u hy => simp at hl
  | @cons p t xs ns hx ih => cases hy with
    | nil => simp at hl
    | @cons q u ys ms hy =>
      rw [List.length_cons, List.length_cons] at hl
      rw [HT.lexLt_cons] at h
      rw [List.zip_cons_cons]
      refine PySem.W.kat_cons (wpAny_eqBool_int ?_)
      by_cases e : p = q
      · rw [if_pos e] at h
        rw [e, beq_self_eq_true]
        exact PySem.W.kat_yes (ih (i + 1) hy (by omega) h)
      · rw [if_neg e] at h
        rw [beq_eq_false_iff_ne.mpr e]
        exact PySem.W.kat_no (TS.oneLt_ints _ h)
/-- v is a tuple of the ints k v -/
def TupK (h : Heap) (k : Value → List Int) (m : Nat) (v : Value) : Prop := TS.TupInts h v (k v) ∧ (k v).length = m
theorem firstsK {h : Heap} {k : Value → List Int} {m : Nat} (hm : 1 ≤ m) : ∀ vs : List Value, (∀ v ∈ vs, TupK h k m v) → ∃ fs, PySem.W.KatTups h vs fs ∧ fs.length = vs.length ∧ ∀ f ∈ fs, ∃ n t, f = Value.int n t
  | [], _ => ⟨[], PySem.W.KatTups.nil, rfl, fun f hf => by simp at hf⟩
  | v :: vs, x => by
    obtain ⟨fs, kt, hl, hi⟩ := firstsK hm vs fun u hu => x u (List.mem_cons_of_mem _ hu)
    obtain ⟨⟨a, xs, rfl, ⟨o, ho, hc, n, hdt⟩, i⟩, hn⟩ := x v List.mem_cons_self
    cases q : xs.toList with
    | nil =>
      rw [q] at i
      have l := i.length
      rw [List.length_nil, hn] at l
      omega
    | cons y ys =>
      obtain ⟨j, t, hy⟩ := i.all y (by rw [q]; exact List.mem_cons_self)
      refine ⟨y :: fs, PySem.W.KatTups.cons ho hc hdt (by have z := congrArg (fun l : List Value => l[0]?) q; simpa using z) kt, by simp [hl], fun f hf => ?_⟩
      rcases List.mem_cons.mp hf with rfl | hf
      · exact ⟨j, t, hy⟩
      · exact hi f hf
theorem cmpK {k : Value → List Int} {m : Nat} {vs : List Value} (hp : ∀ v ∈ vs, TupK s.heap k m v) : Cmp prog w A s (tuples' true) (fun p => p.1 ∈ vs) (lt2 fun v u => HT.lexLt (k v) (k u)) := by
  intro p q h1 h2
  obtain ⟨t1, l1⟩ := hp _ h1
  obtain ⟨t2, l2⟩ := hp _ h2
  show wpAny (model prog w) A (keyLt' (tuples' true) p.1 q.1) (fun r s' => s' = s ∧ r = HT.lexLt (k p.1) (k q.1)) (fun _ _ => False) s
  generalize k p.1 = x at t1 l1 ⊢
  generalize k q.1 = y at t2 l2 ⊢
  obtain ⟨a, xs, e1, ⟨o, ho, hc, n, hdt⟩, i⟩ := t1
  obtain ⟨a', ys, e2, ⟨o', ho', hc', n', hdt'⟩, i'⟩ := t2
  rw [e1, e2]
  refine PySem.W.kat_lt ho hdt ho' hdt' ?_
  have z1 := i.length
  have z2 := i'.length
  rw [Array.length_toList] at z1 z2
  have sz : decide (xs.size < ys.size) = false := decide_eq_false (by omega)
  rw [sz]
  exact lexK 0 i i' (by omega) ⟨rfl, rfl⟩
theorem sortableK {a : Addr} {vs : List Value} {k : Value → List Int} {m : Nat} (hm : 1 ≤ m) (h0 : 0 < vs.length) (hp : ∀ v ∈ vs, TupK s.heap k m v) (ha : ∀ o, s.heap.get? a = some o → o.cls ≠ .type "tuple") : SortableO prog w A s a vs fun v u => HT.lexLt (k v) (k u) := by
  intro h' keep
  have hp' : ∀ v ∈ vs, TupK h' k m v := fun v hv => ⟨(hp v hv).1.keeps fun b o e c => keep b o (fun z => by subst z; exact ha o e c) e, (hp v hv).2⟩
  obtain ⟨fs, h1, h2, h3⟩ := firstsK hm vs hp'
  refine ⟨tuples' true, fun Q E hq => PySem.W.kat_kind (T := .type "int") h1 (by omega) (fun f hf => ?_) (by rfl) ?_, cmpK hp'⟩
  · obtain ⟨x, t, rfl⟩ := h3 f hf
    exact PySem.W.Looks.now
  · have e : (Value.type "int" != Value.type "tuple") = true := by decide +kernel
    rw [e]
    exact hq
end
end VQ

namespace VL
open PySem PySem.Spec PyProof.Rows L2
open Classical
/-! ### one sorted list -/
theorem perm_uniq {α : Type} {lt : α → α → Bool} (O : SrtO.Swo lt) (an : ∀ x y, lt x y = false → lt y x = false → x = y) : ∀ {l m : List α}, l.Perm m → SrtO.Srtd lt l → SrtO.Srtd lt m → l = m
  | [], m, h, _, _ => h.symm.eq_nil.symm
  | x :: l, [], h, _, _ => absurd h.length_eq (by simp)
  | x :: l, y :: m, h, hl, hm => by
    have h1 : lt x y = false := by
      rcases List.mem_cons.mp (h.mem_iff.mp (List.mem_cons_self (a := x) (l := l))) with e | hx
      · rw [e]; exact O.refl y
      · exact SrtO.srtd_head hm x hx
    have h2 : lt y x = false := by
      rcases List.mem_cons.mp (h.mem_iff.mpr (List.mem_cons_self (a := y) (l := m))) with e | hy
      · rw [e]; exact O.refl x
      · exact SrtO.srtd_head hl y hy
    obtain rfl := an x y h1 h2
    rw [perm_uniq O an h.cons_inv (List.pairwise_cons.mp hl).2 (List.pairwise_cons.mp hm).2]
def insB {α : Type} (lt : α → α → Bool) (x : α) : List α → List α
  | [] => [x]
  | y :: l => if lt y x = true then y :: insB lt x l else x :: y :: l
def sortB {α : Type} (lt : α → α → Bool) : List α → List α
  | [] => []
  | x :: l => insB lt x (sortB lt l)
theorem insB_perm {α : Type} (lt : α → α → Bool) (x : α) : ∀ l : List α, (insB lt x l).Perm (x :: l)
  | [] => List.Perm.refl _
  | y :: l => by
    rw [insB]; split
    · exact ((insB_perm lt x l).cons y).trans (List.Perm.swap x y l)
    · exact List.Perm.refl _
theorem sortB_perm {α : Type} (lt : α → α → Bool) : ∀ l : List α, (sortB lt l).Perm l
  | [] => List.Perm.refl _
  | x :: l => by rw [sortB]; exact (insB_perm lt x _).trans ((sortB_perm lt l).cons x)
theorem insB_srtd {α : Type} {lt : α → α → Bool} (O : SrtO.Swo lt) (x : α) : ∀ {l : List α}, SrtO.Srtd lt l → SrtO.Srtd lt (insB lt x l)
  | [], _ => List.pairwise_singleton _ _
  | y :: l, h => by
    have h' := List.pairwise_cons.mp h
    rw [insB]; split
    · next e =>
      refine List.pairwise_cons.mpr ⟨fun z hz => ?_, insB_srtd O x h'.2⟩
      rcases List.mem_cons.mp ((insB_perm lt x l).mem_iff.mp hz) with q | q
      · rw [q]
        cases c : lt x y with
        | false => rfl
        | true => rw [O.asym _ _ c] at e; cases e
      · exact h'.1 z q
    · next e =>
      have e' : lt y x = false := by cases c : lt y x with
        | false => rfl
        | true => exact absurd c e
      refine List.pairwise_cons.mpr ⟨fun z hz => ?_, h⟩
      rcases List.mem_cons.mp hz with q | q
      · rw [q]; exact e'
      · exact O.tr x y z e' (h'.1 z q)
theorem sortB_srtd {α : Type} {lt : α → α → Bool} (O : SrtO.Swo lt) : ∀ l : List α, SrtO.Srtd lt (sortB lt l)
  | [] => List.Pairwise.nil
  | x :: l => by rw [sortB]; exact insB_srtd O x (sortB_srtd O l)
/-- ints, ascending -/
def ltI (x y : Int) : Bool := decide (x < y)
def sortI (l : List Int) : List Int := sortB ltI l
def sortL (l : List (List Int)) : List (List Int) := sortB HT.lexLt l
theorem swo_I : SrtO.Swo ltI := ⟨fun x y h => by have := of_decide_eq_true h; exact decide_eq_false (by omega), fun x y z h1 h2 => by
  have := of_decide_eq_false h1; have := of_decide_eq_false h2; exact decide_eq_false (by omega)⟩
theorem swo_L : SrtO.Swo HT.lexLt := ⟨NtL.lex_asym, NtL.lex_tr⟩
theorem an_I (x y : Int) (h1 : ltI x y = false) (h2 : ltI y x = false) : x = y := by
  have := of_decide_eq_false h1; have := of_decide_eq_false h2; omega
theorem an_L : ∀ x y : List Int, HT.lexLt x y = false → HT.lexLt y x = false → x = y
  | [], [], _, _ => rfl
  | [], y :: ys, h, _ => by rw [HT.lexLt_nil_cons] at h; cases h
  | x :: xs, [], _, h => by rw [HT.lexLt_nil_cons] at h; cases h
  | x :: xs, y :: ys, h1, h2 => by
    rw [HT.lexLt_cons] at h1 h2
    by_cases e : x = y
    · rw [if_pos e] at h1
      rw [if_pos e.symm] at h2
      rw [e, an_L xs ys h1 h2]
    · rw [if_neg e] at h1
      rw [if_neg (Ne.symm e)] at h2
      have := of_decide_eq_false h1
      have := of_decide_eq_false h2
      omega
theorem sortI_of {l m : List Int} (h : l.Perm m) (s : l.Pairwise (· ≤ ·)) : l = sortI m :=
  perm_uniq swo_I an_I (h.trans (sortB_perm ltI m).symm) (s.imp fun {a b} h => decide_eq_false (by omega)) (sortB_srtd swo_I m)
theorem sortL_of {l m : List (List Int)} (h : l.Perm m) (s : SrtO.Srtd HT.lexLt l) : l = sortL m := perm_uniq swo_L an_L (h.trans (sortB_perm HT.lexLt m).symm) s (sortB_srtd swo_L m)
theorem sortI_of_rev {l m : List Int} (h : l.Perm m) (s : l.Pairwise (· ≥ ·)) : l = (sortI m).reverse := by
  rw [← sortI_of ((List.reverse_perm l).trans h) (by rw [List.pairwise_reverse]; exact s), List.reverse_reverse]
/-- a row as data -/
abbrev rowD (r : List Int) : D := .tuple (r.map .int)

/-! ### sorted -/
/-- the tuples of the rows -/
inductive TupsP (P : Addr → List V → Prop) : List V → List (List Int) → Prop
  | nil : TupsP P [] []
  | cons {t : Addr} {r : List Int} {xs : List V} {rows : List (List Int)} : P t (r.map V.int) → TupsP P xs rows → TupsP P (.ref t :: xs) (r :: rows)
abbrev Tups (K : PySem.W.Frag) (H : Hp) : List V → List (List Int) → Prop := TupsP (SqT K H)
abbrev TupsT (H : Hp) : List V → List (List Int) → Prop := TupsP fun t ws => H t = some (.tup ws)
section
variable {K : PySem.W.Frag} {H : Hp} {xs : List V} {rows : List (List Int)}
theorem TupsP.snoc {P : Addr → List V → Prop} {t : Addr} {r : List Int} (h : TupsP P xs rows) (k : P t (r.map V.int)) : TupsP P (xs ++ [.ref t]) (rows ++ [r]) := by
  induction h with
  | nil => exact .cons k .nil
  | cons h1 _ ih => exact .cons h1 ih
theorem TupsP.rev {P : Addr → List V → Prop} (h : TupsP P xs rows) : TupsP P xs.reverse rows.reverse := by
  induction h with
  | nil => exact .nil
  | cons h1 _ ih => rw [List.reverse_cons, List.reverse_cons]; exact ih.snoc h1
theorem TupsP.rps (h : Tups K H xs rows) : Rps K H xs (rows.map rowD) := by
  induction h with
  | nil => exact .nil
  | @cons t r xs rows h1 _ ih =>
    refine .cons (.tup h1 ?_) ih
    clear h1
    induction r with
    | nil => exact .nil
    | cons i r ih2 => exact .cons (.int i) ih2
theorem TupsP.mono {P P' : Addr → List V → Prop} (e : ∀ t ws, P t ws → P' t ws) (h : TupsP P xs rows) : TupsP P' xs rows := by
  induction h with
  | nil => exact .nil
  | cons h1 _ ih => exact .cons (e _ _ h1) ih
theorem tups_of : ∀ {rows : List (List Int)} {xs : List V}, Rps K H xs (rows.map rowD) → Tups K H xs rows
  | [], _, h => by cases h; exact .nil
  | r :: rows, _, h => by
    cases h with
    | cons h1 h2 =>
      cases h1 with
      | tup k1 k2 => rw [k2.ints] at k1; exact .cons k1 (tups_of h2)
end
section
variable {X : Cx} {pins : List (Addr × Obj)} {s : Shared} {σ : L2.St} {H : Hp}
theorem tups_vals {P : Addr → List V → Prop} (I : Inv X pins σ H s) (sm : ∀ t ws, P t ws → SqT X.K H t ws) {rows : List (List Int)} {xs : List V} {vs : List Value} (h : TupsP P xs rows) (r : Vals xs vs) :
    vs.map (TS.intsOf s.heap) = rows ∧ ∀ v ∈ vs, ∃ t, v = Value.ref t ∧ P t ((TS.intsOf s.heap v).map V.int) ∧ TS.TupInts s.heap v (TS.intsOf s.heap v) ∧ TS.intsOf s.heap v ∈ rows := by
  induction h generalizing vs with
  | nil => cases r; exact ⟨rfl, fun v hv => by simp at hv⟩
  | @cons t r0 xs rows h1 h2 ih =>
    cases r with
    | @cons _ u _ us ru rt =>
      obtain rfl : u = Value.ref t := ru
      obtain ⟨e1, e2⟩ := ih rt
      obtain ⟨its, rv, it, _⟩ := I.tuple (sm _ _ h1)
      have ti : TS.TupInts s.heap (.ref t) r0 := ⟨t, its.toArray, rfl, it, rv.ints⟩
      have e0 := ti.ints
      refine ⟨by rw [List.map_cons, e0, e1], fun v hv => ?_⟩
      rcases List.mem_cons.mp hv with q | q
      · rw [q, e0]; exact ⟨t, rfl, h1, ti, List.mem_cons_self⟩
      · obtain ⟨t', a1, a2, a3, a4⟩ := e2 v q
        exact ⟨t', a1, a2, a3, List.mem_cons_of_mem _ a4⟩
theorem vals_tups {P : Addr → List V → Prop} {f : Value → List Int} : ∀ {vs : List Value}, (∀ v ∈ vs, ∃ t, v = Value.ref t ∧ P t ((f v).map V.int)) → ∃ ys, Vals ys vs ∧ TupsP P ys (vs.map f)
  | [], _ => ⟨[], .nil, .nil⟩
  | v :: vs, h => by
    obtain ⟨ys, h1, h2⟩ := vals_tups fun u hu => h u (List.mem_cons_of_mem _ hu)
    obtain ⟨t, rfl, h3⟩ := h v List.mem_cons_self
    exact ⟨.ref t :: ys, .cons (show RelV (.ref t) (.ref t) from rfl) h1, .cons h3 h2⟩
theorem sort_rows {P : Addr → List V → Prop} {v : Value} {vs : List Value} {b : Bool} {kw : List (Str × Value)} {xs : List V} {rows : List (List Int)} {m : Nat} {Q : VK} (hk : ∀ a, Builtin.«list.sort» ⟨[.ref a], kw⟩ = Builtin.«list.sort» ⟨[.ref a], [(Str.ofString "reverse", .bool b)]⟩)
    (ha1 : argsOk "sorted" ⟨[v], kw⟩) (ha2 : ∀ a, argsOk "list.sort" ⟨[a], kw⟩) (I : Inv X pins σ H s) (hcol : VQ.Coll X.prog X.w X.A.in1 s v vs) (hz : vs.length ≤ sizeLine) (sm : ∀ t ws, P t ws → SqT X.K H t ws) (hT : TupsP P xs rows) (rv : Vals xs vs) (hm : 1 ≤ m) (hl : ∀ r ∈ rows, r.length = m)
    (q : ∀ ys p, TupsP P ys (if b = true then (sortL rows).reverse else sortL rows) → H p = none → Q (.ref p) (upd H p (.lst ys))) :
    wpAny (model X.prog X.w) X.A (call (.builtin "sorted") [v] kw) (EP X pins σ Q) X.xe s := by
  obtain ⟨e1, e2⟩ := tups_vals I sm hT rv
  refine VQ.sorted_gen (ltv := fun v u => HT.lexLt (TS.intsOf s.heap v) (TS.intsOf s.heap u)) hk ha1 ha2 (NtL.swo_lexL _) hcol hz (fun h2 h₁ tk a ha kk => ?_) fun h' tk d out h1 h2 kp hd hn => ?_
  · refine VQ.sortableK (s := { s with heap := h₁, toks := tk }) (m := m) hm (by omega) (fun v hv => ?_) fun o e => ?_
    · obtain ⟨t, _, _, a3, a4⟩ := e2 v hv
      exact ⟨a3.keeps fun b o e _ => (kk b o e).2, hl _ a4⟩
    · have e' : some o = some (seqObj "list" vs.toArray 0) := e.symm.trans ha
      cases e'
      intro c
      exact absurd (Value.type.inj c) (by decide)
  · have pm : out.Perm vs := by
      cases b with
      | false => exact h2.perm
      | true => exact h2.perm.trans (List.reverse_perm vs)
    have hs : out.map (TS.intsOf s.heap) = sortL rows := sortL_of (by rw [← e1]; exact pm.map _) (List.pairwise_map.mpr h1)
    obtain ⟨ys, rel, tp⟩ := vals_tups (P := P) (f := TS.intsOf s.heap) (vs := out) fun v hv => by
      obtain ⟨t, a1, a2, _⟩ := e2 v (pm.mem_iff.mp hv)
      exact ⟨t, a1, a2⟩
    rw [hs] at tp
    obtain ⟨n, hn⟩ := hn
    have hz' : out.length ≤ sizeLine := by rw [pm.length_eq]; exact hz
    cases b with
    | false =>
      exact ⟨.ref d, upd H d (.lst ys), I.laid kp hd ⟨by rw [rel.length]; exact hz', out, n, rel, hn⟩, rfl, q ys d tp (I.hok.fresh hd)⟩
    | true =>
      exact ⟨.ref d, upd H d (.lst ys.reverse), I.laid kp hd ⟨by rw [List.length_reverse, rel.length]; exact hz', out.reverse, n, rel.reverse, by rw [hn]; simp⟩, rfl, q ys.reverse d tp.rev (I.hok.fresh hd)⟩
theorem sort_ints {v : Value} {vs : List Value} {b : Bool} {kw : List (Str × Value)} {ns : List Int} {Q : VK} (hk : ∀ a, Builtin.«list.sort» ⟨[.ref a], kw⟩ = Builtin.«list.sort» ⟨[.ref a], [(Str.ofString "reverse", .bool b)]⟩)
    (ha1 : argsOk "sorted" ⟨[v], kw⟩) (ha2 : ∀ a, argsOk "list.sort" ⟨[a], kw⟩) (I : Inv X pins σ H s) (hcol : VQ.Coll X.prog X.w X.A.in1 s v vs) (hz : vs.length ≤ sizeLine) (rv : Vals (ns.map V.int) vs)
    (q : ∀ p, H p = none → Q (.ref p) (upd H p (.lst ((if b = true then (sortI ns).reverse else sortI ns).map V.int)))) :
    wpAny (model X.prog X.w) X.A (call (.builtin "sorted") [v] kw) (EP X pins σ Q) X.xe s := by
  have hi := rv.ints
  refine VQ.sorted_gen hk ha1 ha2 SrtO.swo_int hcol hz (fun h2 h₁ tk a' _ _ => SrtO.ints_sortable (s := { s with heap := h₁, toks := tk }) hi h2) fun h' tk d out h1 h2 kp hd hn => ?_
  obtain ⟨n, hn⟩ := hn
  obtain ⟨ns', k1, k2, k3⟩ := SrtR.ints_outR hi h1 h2
  have hl : (ns'.map V.int).length ≤ sizeLine := by
    rw [List.length_map, k2.length_eq, ← List.length_map (f := V.int), rv.length]; exact hz
  have e : ns' = (if b = true then (sortI ns).reverse else sortI ns) := by
    cases b with
    | false => exact sortI_of k2 k3
    | true => exact sortI_of_rev k2 k3
  refine ⟨.ref d, upd H d (.lst (ns'.map V.int)), I.laid kp hd ⟨hl, _, n, vals_of_ints k1, by rw [hn]⟩, rfl, ?_⟩
  rw [e]
  exact q d (I.hok.fresh hd)

/-! ### as a rule -/
def ordB {α : Type} (b : Bool) (l : List α) : List α := if b = true then l.reverse else l
def rSrt (K : PySem.W.Frag) (b : Bool) : List V → Hp → VK → Prop := fun vs H Q => ∃ a xs, vs = [V.ref a] ∧ (SqL K H a xs ∨ SqT K H a xs) ∧ ((∃ ns : List Int, xs = ns.map V.int ∧ ∀ p, H p = none → Q (.ref p) (upd H p (.lst ((ordB b (sortI ns)).map V.int)))) ∨
  ∃ (H0 : Hp) (rows : List (List Int)) (m : Nat), Same H0 H ∧ Tups K H0 xs rows ∧ 1 ≤ m ∧ (∀ r ∈ rows, r.length = m) ∧ ∀ ys p, Tups K H0 ys (ordB b (sortL rows)) → H p = none → Q (.ref p) (upd H p (.lst ys)))
theorem cr_srt' {b : Bool} {kw : List (Str × Value)} {xs0 : List V} {us : List Value} {Q : VK} (hk : ∀ a, Builtin.«list.sort» ⟨[.ref a], kw⟩ = Builtin.«list.sort» ⟨[.ref a], [(Str.ofString "reverse", .bool b)]⟩)
    (ha1 : ∀ v, argsOk "sorted" ⟨[v], kw⟩) (ha2 : ∀ a, argsOk "list.sort" ⟨[a], kw⟩) (I : Inv X pins σ H s) (r : Vals xs0 us) (h : rSrt X.K b xs0 H Q) : wpAny (model X.prog X.w) X.A (call (.builtin "sorted") us kw) (EP X pins σ Q) X.xe s := by
  obtain ⟨a, xs, rfl, hs, q⟩ := h
  obtain rfl := Vals.ref1 r
  obtain ⟨its, rv, col, hz⟩ : ∃ its : List Value, Vals xs its ∧ VQ.Coll X.prog X.w X.A.in1 s (.ref a) its ∧ its.length ≤ sizeLine := by
    rcases hs with hs | hs
    · obtain ⟨its, rv, hl, hz⟩ := I.list hs
      rw [rv.length] at hz
      exact ⟨its, rv, VQ.coll_list hl.isList hz, hz⟩
    · obtain ⟨its, rv, hl, hz⟩ := I.tuple hs
      rw [rv.length] at hz
      exact ⟨its, rv, VQ.coll_tup hl hz, hz⟩
  rcases q with ⟨ns, rfl, q⟩ | ⟨H0, rows, m, sm, hT, hm, hl, q⟩
  · exact sort_ints hk (ha1 _) ha2 I col hz rv q
  · exact sort_rows hk (ha1 _) ha2 I col hz (fun t ws => same_seqT sm) hT rv hm hl q
theorem cr_srt : CallR X (.builtin "sorted") (rSrt X.K false) := by
  intro pins s σ H vs us Q I r h
  refine cr_srt' (kw := []) (fun a => ?_) args_sorted1 args_list_sort I r h
  rw [list_sort_rev]
  first | rfl | kernel_rfl
theorem crk_srt {b : Bool} : CallRK X (.builtin "sorted") [Str.ofString "reverse"] (fun vs zs H Q => zs = [.bl b] ∧ rSrt X.K b vs H Q) := by
  intro pins s σ H vs zs us ws Q I r rz h
  obtain ⟨rfl, h⟩ := h
  obtain ⟨w1, rfl, e1⟩ := vals1 rz
  obtain rfl : w1 = Value.bool b := e1
  exact cr_srt' (fun _ => rfl) (fun _ => args_sorted_rev _ _) (fun _ => args_list_sort_rev _ _) I r h
end
/-- sorted of ints, of tuples of ints -/
def srtD (b : Bool) (es : List D) (Q : List D → Prop) : Prop := (∃ ns : List Int, es = ns.map .int ∧ Q ((ordB b (sortI ns)).map .int)) ∨ ∃ (rows : List (List Int)) (m : Nat), es = rows.map rowD ∧ 1 ≤ m ∧ (∀ r ∈ rows, r.length = m) ∧ Q ((ordB b (sortL rows)).map rowD)
def cSrt (b : Bool) : List D → (List D → Prop) → Prop := fun ds Q => match ds with
  | [.list es] => srtD b es Q
  | [.tuple es] => srtD b es Q
  | _ => False
theorem rps_intsOf {K : PySem.W.Frag} {H : Hp} : ∀ ns : List Int, Rps K H (ns.map V.int) (ns.map .int)
  | [] => .nil
  | n :: ns => .cons (.int n) (rps_intsOf ns)
theorem co_srt {K : PySem.W.Frag} {b : Bool} : CallO K (rSrt K b) (cSrt b) := fun O H xs ds Q Qv hO r h k => by
  have main : ∀ (a : Addr) (ws : List V) (es : List D), (SqL K H a ws ∨ SqT K H a ws) → Rps K (hid O H) ws es → srtD b es Qv → rSrt K b [.ref a] H Q := fun a ws es hs rr hq => by
    rcases hq with ⟨ns, rfl, hq⟩ | ⟨rows, m, rfl, hm, hl, hq⟩
    · obtain rfl := rr.ints
      exact ⟨a, _, rfl, hs, .inl ⟨ns, rfl, fun p hp => k p _ _ hq hp (rps_intsOf _)⟩⟩
    · exact ⟨a, ws, rfl, hs, .inr ⟨hid O H, rows, m, same_hid_of, tups_of rr, hm, hl, fun ys p ht hp => k p ys _ hq hp ht.rps⟩⟩
  match ds, h with
  | [.list es], h =>
    cases r with
    | cons r1 r2 =>
      cases r2
      obtain ⟨a, ws, rfl, h1, h2⟩ := rt_lst r1
      exact main a ws es (.inl (SqL.of h1)) h2 h
  | [.tuple es], h =>
    cases r with
    | cons r1 r2 =>
      cases r2
      obtain ⟨a, ws, rfl, h1, h2⟩ := rt_tup r1
      exact main a ws es (.inr (same_seqT same_hid_of h1)) h2 h
end VL

namespace VL
open PySem PySem.Spec PyProof.Rows L2
/-! ### a dict by tuples of ints that a slot holds -/
theorem valV_mem {κ : Type} [DecidableEq κ] (k : κ) : ∀ kvs : List (κ × V), (valV kvs k).isSome = decide (k ∈ kvs.map (·.1))
  | [] => by rw [valV_nil]; simp
  | p :: r => by
    by_cases e : p.1 = k
    · rw [valV_pos e]; simp [e]
    · rw [valV_neg e, valV_mem k r]; simp [Ne.symm e]
theorem putK_keys {κ : Type} [DecidableEq κ] (kvs : List (κ × V)) (k : κ) (v : V) : (putK kvs k v).map (·.1) = if k ∈ kvs.map (·.1) then kvs.map (·.1) else kvs.map (·.1) ++ [k] := by
  have e := valV_any k kvs
  rw [valV_mem] at e
  unfold putK
  by_cases h : k ∈ kvs.map (·.1)
  · rw [if_pos h, if_pos (by rw [e]; exact decide_eq_true h), List.map_map]
    refine List.map_congr_left fun p _ => ?_
    show (if p.1 = k then (p.1, v) else p).1 = p.1
    split <;> rfl
  · rw [if_neg h, if_neg (by rw [e]; simpa using h), List.map_append]; rfl
open Classical
abbrev keyI (ns : List Int) : List L2.Key := ns.map Sum.inl
theorem keyI_V (ns : List Int) : (keyI ns).map kV = ns.map V.int := by
  show (ns.map Sum.inl).map kV = _
  rw [List.map_map]; rfl
section
variable {X : Cx} {M : Fm} {pos : Pos}
/-- x = {} -/
def vSetDk (i : Nat) : VS := fun D ev => D.nx (ev.set i (.dk []))
theorem vs_setDk (i : Nat) {x : Str} {pos' dp : Pos} (hN : X.N.Nodup) (hi : X.N[i]? = some x) (hx : Loc X.env.scope x) (hb : M.β = none ∨ i ≠ 0) (hs : swapsWith (.Dict [] [] dp) (some (.Name x pos')) pos.line X.env = pure false := by rfl) (hf : X.fn x = true ∨ X.env.scope.names.lookup x = some .local := by first | exact .inl rfl | exact .inr rfl | assumption) :
    VSt X M (.Assign [.Name x pos'] (.Dict [] [] dp) pos) (vSetDk i) := by
  refine ⟨fun F => ⟨fun pins s σ H D I ⟨ev, ρ, D', R, h, k⟩ => (ps_set hN hi hx (pe_dnewT) hs hf).run pins s σ H D I fun p n => ?_⟩⟩
  have hl : i < ev.length := by rw [R.len, I.len]; exact (List.getElem?_eq_some_iff.mp hi).1
  have e := rem_upd (o := .dT []) n
  exact k.nx _ _ _ _ h (Rl.setDk (kvs := []) (by rw [e]; exact R) hl hb upd_same)
/-- (..) in x, (..) not in x -/
def vDkIn (neg : Bool) (i : Nat) (t : VTA) : VTB := fun ev Q => t ev fun ds e1 => match sv e1 i with
  | .dk ks => ∃ ns : List Int, ds = ns.map .int ∧ Q (neg != decide (keyI ns ∈ ks)) e1
  | _ => False
theorem vb_dkNot {es : List Expr} {kk : Nat} {tp p : Pos} {x : Str} {t : VTA} (i : Nat) (hu : X.A.units + 65 < cLine) (ha : VA X M es t) (hp : PE X (.Name x p) (tVar i)) (hm : behindInMarks .NotIn (.Name x p) = false := by rfl) (hl : es.length ≤ sizeLine := by decide) :
    VB X M (.Compare (.Tuple es kk tp) [.NotIn] [.Name x p] pos) (vDkIn true i t) :=
  ⟨fun F => ptI (pt_cmp (pc_dnotin (by omega) (pe_tup (ha.pa F)) hp) hm) fun σ H Q ⟨ev, ρ, Qv, R, h, k⟩ => ⟨ev, ρ, _, R, h, fun ds e1 vs H1 hn q1 R1 s1 r1 => ⟨by rw [r1.len, hn]; exact hl, fun q n => by
    cases e : sv e1 i with
    | dk ks =>
      rw [e] at q1
      obtain ⟨ns, rfl, q1⟩ := q1
      obtain rfl := r1.ints
      have R2 := R1.same (same_upd (o := .tup (ns.map V.int)) n)
      obtain ⟨a, kvs, g1, g2, g3, g4⟩ := R2.getDk e
      refine ⟨_, g2, a, valV kvs (keyI ns), rfl, DGet.t g3 (by rw [upd_same, keyI_V]), _, rfl, ?_⟩
      have e5 : (!(valV kvs (keyI ns)).isSome) = (true != decide (keyI ns ∈ ks)) := by
        rw [valV_mem, g4, Bool.true_bne]
        exact congrArg Bool.not (decide_eq_decide.mpr Iff.rfl)
      rw [e5]
      exact k _ e1 _ q1 R2 (s1.trans (same_hid (same_upd n)))
    | un => rw [e] at q1; exact q1.elim
    | fr _ => rw [e] at q1; exact q1.elim
    | ow _ => rw [e] at q1; exact q1.elim
    | rw _ => rw [e] at q1; exact q1.elim⟩⟩⟩
/-- x[(..)] = value -/
def vDkPut (i : Nat) (tv : VT) (t : VTA) : VS := fun D ev => tv ev fun _ e1 => match sv e1 i with
  | .dk _ => t e1 fun ds e2 => match sv e2 i with
    | .dk ks => ∃ ns : List Int, ds = ns.map .int ∧ ks.length < sizeLine ∧ D.nx (e2.set i (.dk (if keyI ns ∈ ks then ks else ks ++ [keyI ns])))
    | _ => False
  | _ => False
theorem vs_dkPut {es : List Expr} {kk : Nat} {tp p sp : Pos} {x : Str} {value : Expr} {tv : VT} {t : VTA} (i : Nat) (hu : X.A.units + 65 < cLine) (hv : VE X M value tv) (hp : PE X (.Name x p) (tVar i)) (ha : VA X M es t)
    (hs : swapsWith value (some (.Subscript (.Name x p) (.Tuple es kk tp) sp)) pos.line X.env = pure false := by rfl) (hl : es.length ≤ sizeLine := by decide) :
    VSt X M (.Assign [.Subscript (.Name x p) (.Tuple es kk tp) sp] value pos) (vDkPut i tv t) :=
  ⟨fun F => psI (ps_dput (by omega) hp (pe_tup (ha.pa F)) (hv.pe F) hs) fun D σ H ⟨ev, ρ, D', R, h, k⟩ => ⟨ev, ρ, _, R, h, fun d e1 v H1 q1 R1 s1 r1 => by
    cases e : sv e1 i with
    | dk ks0 =>
      rw [e] at q1
      obtain ⟨a, kvs0, g1, g2, g3, g4⟩ := R1.getDk e
      refine ⟨_, g2, e1, ρ, _, R1, q1, fun ds e2 vs H2 hn q2 R2 s2 r2 => ⟨by rw [r2.len, hn]; exact hl, fun q n => ?_⟩⟩
      cases e' : sv e2 i with
      | dk ks =>
        rw [e'] at q2
        obtain ⟨ns, rfl, hz, q2⟩ := q2
        obtain rfl := r2.ints
        have R3 := R2.same (same_upd (o := .tup (ns.map V.int)) n)
        obtain ⟨a', kvs, k1, k2, k3, k4⟩ := R3.getDk e'
        rw [g1] at k1; cases k1
        obtain ⟨R4, e4⟩ := R3.chgDk (kvs := putK kvs (keyI ns) v) g1 ⟨_, e'⟩
        have e5 : (putK kvs (keyI ns) v).map (·.1) = if keyI ns ∈ ks then ks else ks ++ [keyI ns] := by
          rw [putK_keys, k4]
          by_cases z : keyI ns ∈ ks
          · rw [if_pos z, if_pos z]
          · rw [if_neg z, if_neg z]
        rw [e5] at R4
        refine ⟨a, _, rfl, DPut.t k3 (by rw [upd_same, keyI_V]) (by rw [← List.length_map (f := fun x : List L2.Key × V => x.1), k4]; exact hz), ?_⟩
        exact k.nx _ _ _ _ q2 R4
      | un => rw [e'] at q2; exact q2.elim
      | fr _ => rw [e'] at q2; exact q2.elim
      | ow _ => rw [e'] at q2; exact q2.elim
      | rw _ => rw [e'] at q2; exact q2.elim
    | un => rw [e] at q1; exact q1.elim
    | fr _ => rw [e] at q1; exact q1.elim
    | ow _ => rw [e] at q1; exact q1.elim
    | rw _ => rw [e] at q1; exact q1.elim⟩⟩

/-- sorted(x), x such a dict -/
def rSrtDk (K : PySem.W.Frag) : List V → Hp → VK → Prop := fun vs H Q => ∃ (a : Addr) (kvs : List (List L2.Key × V)) (rows : List (List Int)) (m : Nat), vs = [V.ref a] ∧ H a = some (.dT kvs) ∧ kvs.map (·.1) = rows.map keyI ∧ 1 ≤ m ∧ (∀ r ∈ rows, r.length = m) ∧
  ∀ ys p, TupsT H ys (sortL rows) → H p = none → Q (.ref p) (upd H p (.lst ys))
theorem kt_tups {H : Hp} : ∀ {kvs : List (List L2.Key × V)} {xs : List (List L2.Key × Addr × Value)} {rows : List (List Int)}, KT H kvs xs → kvs.map (·.1) = rows.map keyI → TupsT H (xs.map fun x => V.ref x.2.1) rows
  | [], _, rows, r, e => by
    cases r
    cases rows with
    | nil => exact .nil
    | cons _ _ => simp at e
  | p :: kvs, _, rows, r, e => by
    cases r with
    | @cons _ q _ qs h t =>
      cases rows with
      | nil => simp at e
      | cons r0 rows =>
        rw [List.map_cons, List.map_cons] at e
        obtain ⟨e1, e2⟩ := List.cons.inj e
        refine .cons ?_ (kt_tups t e2)
        have z := h.2.1
        rw [e1, keyI_V] at z
        exact z
theorem cr_srtDk (hc : X.calm = true) : CallR X (.builtin "sorted") (rSrtDk X.K) := by
  intro pins s σ H xs us Q I r h
  obtain ⟨d, kvs, rows, m, rfl, hd, er, hm, hl, q⟩ := h
  obtain rfl := Vals.ref1 r
  obtain ⟨z, hs, ks, pr, o, es, ep, ho, hx, hdt, he, hn⟩ := (show ObjOk X.prog X.w H s.heap d (.dT kvs) from I.hok _ _ hd)
  have l1 : es.size = ks.length := size_of_entries he
  have l2 : kvs.length = ks.length := Paired.length pr
  have hz : ((ks.map fun x => x.2.1).map Value.ref).length ≤ sizeLine := by rw [List.length_map, List.length_map]; omega
  have col : VQ.Coll X.prog X.w X.A.in1 s (.ref d) ((ks.map fun x => x.2.1).map Value.ref) := VQ.coll_src (kdl_raw hs hx hdt) (I.ok.hd hc) ho (by omega) fun acc it => by
    have hl : acc.toList.length = ks.length := by rw [Array.length_toList, it.1]; exact l1
    apply List.ext_getElem?
    intro j
    rw [List.getElem?_map, List.getElem?_map]
    cases hj : acc.toList[j]? with
    | none =>
      have h1 := List.getElem?_eq_none_iff.mp hj
      rw [List.getElem?_eq_none (by omega)]; rfl
    | some v =>
      obtain ⟨en, hen, hv⟩ := it.2 j v (by rw [← Array.getElem?_toList]; exact hj)
      have qe := entry_at he j
      rw [hen] at qe
      cases hb : ks[j]? with
      | none => rw [hb] at qe; exact nomatch (show some en = none from qe)
      | some b =>
        rw [hb] at qe
        have e2 : en = entryOfKey (tupleKind (mixKind X.prog X.w)) b := Option.some.inj qe
        rw [hv, e2]; rfl
  have tp : TupsT H ((ks.map fun x => x.2.1).map V.ref) rows := by
    have := kt_tups pr er
    rw [List.map_map]; exact this
  refine sort_rows (b := false) (kw := []) (fun a => ?_) (args_sorted1 _) args_list_sort I col hz (fun t ws z => .inl (.inl z)) tp (vals_refs _) hm hl q
  rw [list_sort_rev]
  first | rfl | kernel_rfl
def vSrtDk (i : Nat) : VTA := fun ev Q => match sv ev i with
  | .dk ks => ∃ (rows : List (List Int)) (m : Nat), ks = rows.map keyI ∧ 1 ≤ m ∧ (∀ r ∈ rows, r.length = m) ∧ Q ((sortL rows).map rowD) ev
  | _ => False
theorem vo_srtDk {x : Str} {p fp : Pos} (i : Nat) (hc : X.calm = true) (hg : Gl X "sorted") (hm : X.mg "sorted" = none) (hp : PE X (.Name x p) (tVar i))
    (hs : starEach [.Name x p] X.env = (false, eval (.Name x p) X.env) :: starEach [] X.env := by rfl) : VO X M (.Call (.Name "sorted" fp) [.Name x p] [] pos) (vSrtDk i) :=
  ⟨fun F => peI (pe_callB (cr_srtDk hc) hg hm (by decide +kernel) (pa_cons hp pa_nil hs)) fun σ H Q ⟨ev, ρ, Qv, R, h, k⟩ => by
    unfold vSrtDk at h
    cases e : sv ev i with
    | dk ks =>
      rw [e] at h
      obtain ⟨rows, m, rfl, hm, hl, h⟩ := h
      obtain ⟨a, kvs, g1, g2, g3, g4⟩ := R.getDk e
      refine ⟨_, g2, a, kvs, rows, m, rfl, g3, g4, hm, hl, fun ys p tp n => ?_⟩
      have e2 := rem_upd (o := .lst ys) n
      refine k _ ev p ys _ h (by rw [e2]; exact R) (by rw [e2]; exact Same.refl _) upd_same (by rw [e2]; exact (TupsP.rps (K := X.K) (tp.mono fun t ws z => .inl (.inl (hid_some.mpr ⟨R.notOwn z, z⟩)))))
    | un => rw [e] at h; exact h.elim
    | fr _ => rw [e] at h; exact h.elim
    | ow _ => rw [e] at h; exact h.elim
    | rw _ => rw [e] at h; exact h.elim⟩
/-- sorted(e, reverse=True) -/
theorem vo_srtRev {e : Expr} {fp : Pos} {t : VTA} {b : Bool} {cp kp : Pos} {j : Nat} (hg : Gl X "sorted") (hm : X.mg "sorted" = none) (ha : VTs X M [e] t)
    (he : backTo pos (starEach [e] X.env) = (false, eval e X.env) :: backTo pos (starEach [] X.env) := by rfl) (hpl : (backTo pos (starEach [e] X.env)).any (·.1) = false := by rfl)
    (hall : (backToKw pos (keywordEach [⟨some "reverse", .Constant (.bool b) j cp, kp⟩] X.env)).all (·.1.isSome) = true := by rfl) (hnone : (backToKw pos (keywordEach [⟨some "reverse", .Constant (.bool b) j cp, kp⟩] X.env)).any (·.1.isNone) = false := by rfl)
    (hks : (backToKw pos (keywordEach [⟨some "reverse", .Constant (.bool b) j cp, kp⟩] X.env)).filterMap (·.1) = [Str.ofString "reverse"] := by rfl) :
    VO X M (.Call (.Name "sorted" fp) [e] [⟨some "reverse", .Constant (.bool b) j cp, kp⟩] pos) (vCallO (cSrt b) t) :=
  ⟨fun F => peI (pe_callBK (crk_srt (b := b)) hg hm (by decide +kernel) (ha.pa F) (pk_cons pe_bl pk_nil) (by decide) (by decide) he hpl hall hnone hks) fun σ H Q ⟨ev, ρ, Qv, R, h, k⟩ => ⟨ev, ρ, _, R, h, fun x e1 v1 H1 q1 R1 s1 r1 =>
    ⟨rfl, co_srt (Own M ρ) H1 v1 x Q _ R1.tr r1 q1 fun p ys es q n r => by
      have e := rem_upd (o := .lst ys) n
      exact k es e1 p ys _ q (by rw [e]; exact R1) (by rw [e]; exact s1) upd_same (by rw [e]; exact r)⟩⟩⟩
end
end VL

set_option Elab.async false
set_option linter.all false
set_option maxRecDepth 100000
set_option maxHeartbeats 4000000
/-! The value layer, part N: lists taken apart, calls that may raise as statements. -/
namespace VL
open PySem PySem.Spec PyProof.Rows L2
open Classical
section
variable {X : Cx} {M : Fm} {C : Addr} {E : XK} {e c : Expr} {st : Stmt} {rest bs cs : List Stmt} {pos : Pos}
/-- (a, b, ..) = a list -/
def gL (n : Nat) (u : VGs) : VG := fun d ev Q => match d with
  | .list ds => ds.length = n ∧ u ds ev Q
  | _ => False
theorem vg_lst {vs : List Nat} {es : List Expr} {k n : Nat} {u : VGs} (hc : X.calm = true) (h : VTgs X M vs es u) (mk : ∀ {t : TGs}, PGs X es t → PG X (.Tuple es k pos) (gUnl X.K n t)) : VTg X M vs (.Tuple es k pos) (gL n u) :=
  ⟨fun F => pgI (mk (h.pg F)) fun v σ H Q ⟨d, ev, ρ, Qv, R, rr, q, k⟩ => by
    cases rr with
    | lst h1 h2 => exact ⟨_, _, rfl, SqL.of (same_hid_of _ _ h1), by rw [h2.len]; exact q.1, _, ev, ρ, Qv, R, h2, q.2, k⟩
    | _ => exact q.elim⟩
def vxDrop (t : VTX) : VSX := fun Rv D ev => t Rv ev fun _ e1 => D.nx e1
theorem psx_expr {t : VTX} (h : PE X e (LEx X.K M C E t)) (hs : swapsWith e none pos.line X.env = pure false := by rfl) : PS X (.Expr e pos) (LSx X.K M C E (vxDrop t)) :=
  psI (ps_expr h hs) fun D σ H ⟨F, ev, ρ, D', Rv, R, q, x, k⟩ => ⟨F, ev, ρ, _, Rv, R, q, x, fun d e1 v H1 q1 R1 s1 r1 => k.nx e1 σ H1 ρ q1 R1⟩
/-- x, y = a new list, [] or {} -/
def vParE (i j : Nat) (dk : Bool) (t : VTA) : VS := fun D ev => t ev fun ds e1 => D.nx ((e1.set i (.ow ds)).set j (if dk = true then .dk [] else .ow []))
theorem vs_parE {b : Expr} (dk : Bool) (i j : Nat) {x y : Str} {ta : VTA} {a : Expr} {px py pt : Pos} {kt k2 pt2} (hbe : PE X b (fun _ H Q => ∀ p, H p = none → Q (.ref p) (upd H p (if dk = true then .dT [] else .lst [])))) (hc : X.calm = true) (hN : X.N.Nodup) (hi : X.N[i]? = some x) (hj : X.N[j]? = some y) (hij : i ≠ j) (hb : M.β = none ∨ (i ≠ 0 ∧ j ≠ 0))
    (hx : X.env.scope.names.lookup x = some .local) (hy : X.env.scope.names.lookup y = some .local) (ha : VO X M a ta)
    (hw : swappedStores [.Tuple [.Name x px, .Name y py] kt pt] (.Tuple [a, b] k2 pt2) X.env = pure (some [x, y]))
    (hs : swapsWithSole [.Tuple [.Name x px, .Name y py] kt pt] (.Tuple [a, b] k2 pt2) pos.line X.env = pure false := by rfl)
    (hq : starEach [a, b] X.env = (false, eval a X.env) :: starEach [b] X.env := by rfl) (hq2 : starEach [b] X.env = (false, eval b X.env) :: starEach [] X.env := by rfl) :
    VSt X M (.Assign [.Tuple [.Name x px, .Name y py] kt pt] (.Tuple [a, b] k2 pt2) pos) (vParE i j dk ta) := by
  refine ⟨fun F => ⟨fun pins s σ H D I ⟨ev, ρ, D', R, h, k⟩ => (ps_par hc hN hi hj hij hx hy (pa_cons (ha.pe F) (pa_cons hbe pa_nil hq2) hq) hw hs).run pins s σ H D I ?_⟩⟩
  refine ⟨ev, ρ, _, R, h, fun ds e1 a1 vs H1 q1 R1 s1 ha1 r1 p n => ⟨_, _, rfl, ?_⟩⟩
  have hl : i < e1.length := by rw [R1.len, I.len]; exact (List.getElem?_eq_some_iff.mp hi).1
  have hl2 : j < e1.length := by rw [R1.len, I.len]; exact (List.getElem?_eq_some_iff.mp hj).1
  have R3 := R1.setOw hl (hb.imp id (·.1)) ha1 r1
  cases dk with
  | true =>
    have e := rem_upd (o := .dT []) n
    exact k.nx _ _ _ _ q1 (Rl.setDk (kvs := []) (by rw [if_pos rfl, e]; exact R3) (by simpa using hl2) (hb.imp id (·.2)) (by rw [if_pos rfl]; exact upd_same))
  | false =>
    have e := rem_upd (o := .lst []) n
    exact k.nx _ _ _ _ q1 (Rl.setOw (vs := []) (by rw [if_neg (by decide), e]; exact R3) (by simpa using hl2) (hb.imp id (·.2)) (by rw [if_neg (by decide)]; exact upd_same) .nil)
theorem be_dict {p : Pos} : PE X (.Dict [] [] p) (fun _ H Q => ∀ p, H p = none → Q (.ref p) (upd H p (if true = true then .dT [] else .lst []))) := peI pe_dnewT fun σ H Q h => h
theorem be_list {p : Pos} : PE X (.List [] p) (fun _ H Q => ∀ p, H p = none → Q (.ref p) (upd H p (if false = true then .dT [] else .lst []))) := peI (pe_lst pa_nil) fun σ H Q h => ⟨Nat.zero_le _, h⟩
end
end VL

set_option Elab.async false
set_option linter.all false
set_option maxRecDepth 100000
set_option maxHeartbeats 4000000
/-! The value layer, part J: comprehensions with two fors. -/
namespace VL
open PySem PySem.Spec PyProof.Rows L2
open Classical
/-- the second for's turns -/
def vIn (g1 : VG) (tt1 : VTB) (te : VT) (vs1 : List Nat) (C : List D → Ev → Prop) : List D → Ev → List D → Prop
  | [], e, acc => C acc e
  | y :: ys, e, acc => g1 y (wipeE e vs1) fun e1 => tt1 e1 fun b e2 => match b with
    | true => te e2 fun z e3 => acc.length < sizeLine ∧ vIn g1 tt1 te vs1 C ys (back e e3 vs1) (acc ++ [z])
    | false => vIn g1 tt1 te vs1 C ys (back e e2 vs1) acc
def vComp2 (g : VG) (tt : VTB) (t1 : VTA) (g1 : VG) (tt1 : VTB) (te : VT) (vs vs1 : List Nat) (Q : List D → Ev → Prop) : List D → Ev → List D → Prop
  | [], ev, acc => Q acc ev
  | x :: xs, ev, acc => g x (wipeE ev vs) fun e1 => tt e1 fun b e2 => match b with
    | true => t1 e2 fun ys e3 => vIn g1 tt1 te vs1 (fun acc' e4 => vComp2 g tt t1 g1 tt1 te vs vs1 Q xs (back ev e4 vs) acc') ys e3 acc
    | false => vComp2 g tt t1 g1 tt1 te vs vs1 Q xs (back ev e2 vs) acc
def vLc2 (t : VTA) (g : VG) (tt : VTB) (t1 : VTA) (g1 : VG) (tt1 : VTB) (te : VT) (vs vs1 : List Nat) : VTA := fun ev Q => t ev fun xs e1 => noOw e1 vs ∧ vComp2 g tt t1 g1 tt1 te vs vs1 Q xs e1 []
abbrev wX (K : PySem.W.Frag) (M : Fm) (t : VTA) : TI := fun σ H R => ∃ (B : Addr → Prop) (F' : Hp), LW K ⟨B, M.β⟩ F' t σ H R
section
variable {X : Cx} {M : Fm} {F : Hp} {t t1 : VTA} {g g1 : VG} {tt tt1 : VTB} {te : VT} {vs vs1 : List Nat}
theorem lc2_read (hsub : ∀ i ∈ vs1, i ∈ vs) (σ : L2.St) (H : Hp) (Q : VK) (h : LO X.K M F (vLc2 t g tt t1 g1 tt1 te vs vs1) σ H Q) :
    tLc2 (LW X.K M F t) (gX X.K M vs g) (tX X.K M tt) (wX X.K M t1) (gX X.K M vs1 g1) (tX X.K M tt1) (eX X.K M te) vs vs1 σ H Q := by
  obtain ⟨ev, ρ, Qv, R, h, k⟩ := h
  refine ⟨ev, ρ, _, R, h, fun xs e1 J H1 q1 R1 s1 sv1 L nL => ?_⟩
  obtain ⟨hno, q1⟩ := q1
  let F' : Hp := hid (fun b => ∃ i, ρ i = some b) H1
  have hF : Same F F' := fun b o e => hid_some.mpr ⟨(fun ⟨i, z⟩ => by have q := (R1.ofr i b z).1.symm.trans e; cases q), R1.frz b o e⟩
  have hML : ¬ M.B L := fun z => (R1.btr L z).some nL
  have RF : Rl X.K M F' e1 σ H1 ρ := { R1 with
    frz := same_hid_of
    ofr := fun i a z => ⟨hid_in ⟨i, z⟩, (R1.ofr i a z).2⟩ }
  have hG : Same (hd M ρ H1) F' := same_hid_sub fun b z => .inr z
  have nF : F' L = none := same_hid_of.free nL
  have hn : ∀ i ∈ vs, ρ i = none := noOw_none R1 hno
  have hn1 : ∀ i ∈ vs1, ρ i = none := fun i hi => hn i (hsub i hi)
  let W : Nat → Nat → Hp → Prop := fun i m Hc => i + m = xs.length ∧ ∃ ev acc ds, Rl X.K M F' ev σ (rem Hc L) ρ ∧ Hc L = some (.lst acc) ∧ Rps X.K (hd M ρ (rem Hc L)) acc ds ∧ vComp2 g tt t1 g1 tt1 te vs vs1 Qv (xs.drop i) ev ds
  refine ⟨W, ⟨xs.length, Nat.zero_add _, e1, [], [], ?_, upd_same, .nil, q1⟩, fun i m Hc ⟨hm, ev2, acc, ds, R2, hL, rs, q2⟩ => ?_⟩
  · rw [rem_upd nL]; exact RF
  -- what stood ahead of the list stands for every Rl over F'
  have shOf : ∀ {ev : Ev} {σ : L2.St} {Hc : Hp}, Rl X.K M F' ev σ (rem Hc L) ρ → Same (hd M ρ H1) (hd M ρ (rem Hc L)) := fun {ev σ Hc} R b o e => by
    have hb' := hG b o e
    refine hid_some.mpr ⟨fun z => ?_, R.frz b o hb'⟩
    rcases z with z | ⟨j, z⟩
    · exact (hid_some.mp e).1 (.inl z)
    · rw [(R.ofr j b z).1] at hb'; cases hb'
  have hsh := shOf R2
  have hsm : Same (hd M ρ H1) Hc := (hsh.trans same_hid_of).trans same_rem
  obtain ⟨go, stop⟩ := sv1 Hc hsm
  by_cases hi' : i < xs.length
  · have hx : xs[i]? = some xs[i] := List.getElem?_eq_getElem hi'
    obtain ⟨g1', g2'⟩ := go i _ hx
    rw [List.drop_eq_getElem_cons hi'] at q2
    refine .inr ⟨g1', fun Hn => W (i + 1) (m - 1) Hn, fun Hn w => ⟨m - 1, by omega, w⟩, fun v H3 y => ?_⟩
    obtain ⟨s3, r3⟩ := g2' v H3 y
    have R3 : Rl X.K (M.add L) (upd F' L (.lst acc)) ev2 σ Hc ρ := R2.into hL (fun _ z => nomatch z)
    have R4 := R3.same s3
    have R5 := R4.wipe hn
    have hO : Same (hd M ρ H1) (hid (Own (M.add L) ρ) Hc) := by
      have : hid (Own (M.add L) ρ) Hc = hd M ρ (rem Hc L) := hd_add
      rw [this]; exact hsh
    have rp := r3 (Own (M.add L) ρ) R3.tr hO
    -- out of the turn: the list stands as it did
    have outs : ∀ {acc' : List V} (e6 : Ev) (σ4 : L2.St) (H6 Hs : Hp), Rl X.K (M.add L) (upd F' L (.lst acc')) e6 σ4 H6 ρ → Same (hd (M.add L) ρ Hs) (hd (M.add L) ρ H6) →
        Rl X.K M F' e6 σ4 (rem H6 L) ρ ∧ H6 L = some (.lst acc') ∧ Same (hd M ρ (rem Hs L)) (hd M ρ (rem H6 L)) := fun e6 σ4 H6 Hs R8 s8 => by
      obtain ⟨R9, hl9⟩ := R8.outof nF hML
      rw [hd_add, hd_add] at s8
      exact ⟨R9, hl9, s8⟩
    refine ⟨(M.add L).B, _, xs[i], wipeE ev2 vs, ρ, _, R5, rp, q2, fun e4 σ4 H4 ρ4 q4 R6 s4 w4 f4 => ?_⟩
    have e4' : ρ4 = ρ := f4.eq hn
    subst e4'
    have wv : wipe σ4 vs = wipe σ vs := w4.trans wipe_idem
    refine ⟨wv, (M.add L).B, _, e4, ρ4, _, R6, q4, fun b e5 H5 q5 R7 s5 => ?_⟩
    have s35 : Same (hd (M.add L) ρ4 Hc) (hd (M.add L) ρ4 H5) := (same_hid s3).trans (s4.trans s5)
    -- the end of the first for's turn
    have fin : ∀ (e6 : Ev) (H6 : Hp) (acc' : List V) (ds' : List D), Rl X.K M F' e6 σ4 (rem H6 L) ρ4 → H6 L = some (.lst acc') → Rps X.K (hd M ρ4 (rem H6 L)) acc' ds' → Same (hd M ρ4 (rem Hc L)) (hd M ρ4 (rem H6 L)) →
        vComp2 g tt t1 g1 tt1 te vs vs1 Qv (xs.drop (i + 1)) (back ev2 e6 vs) ds' → W (i + 1) (m - 1) H6 := fun e6 H6 acc' ds' Ra hl rr sm q => ⟨by omega, _, acc', ds', R2.back Ra sm wv hn, hl, rr, q⟩
    cases b with
    | false =>
      simp only [Bool.false_eq_true, if_false]
      obtain ⟨R9, hl9, s9⟩ := outs e5 σ4 H5 Hc R7 s35
      exact fin e5 H5 acc ds R9 hl9 (rs.mono s9) s9 q5
    | true =>
      simp only [if_true]
      refine ⟨(M.add L).B, _, e5, ρ4, _, R7, q5, fun ys e6 J1 H6 q6 R8 s6 sv6 => ?_⟩
      have s36 : Same (hd (M.add L) ρ4 Hc) (hd (M.add L) ρ4 H6) := s35.trans s6
      obtain ⟨R9, hl9, s9⟩ := outs e6 σ4 H6 Hc R8 s36
      let W1 : Nat → Nat → Hp → Prop := fun j k Hd => j + k = ys.length ∧ ∃ e acc' ds', Rl X.K M F' e σ4 (rem Hd L) ρ4 ∧ Hd L = some (.lst acc') ∧ Rps X.K (hd M ρ4 (rem Hd L)) acc' ds' ∧ Same (hd M ρ4 (rem H6 L)) (hd M ρ4 (rem Hd L)) ∧
        vIn g1 tt1 te vs1 (fun acc' e4 => vComp2 g tt t1 g1 tt1 te vs vs1 Qv (xs.drop (i + 1)) (back ev2 e4 vs) acc') (ys.drop j) e ds'
      refine ⟨W1, ⟨ys.length, Nat.zero_add _, e6, acc, ds, R9, hl9, rs.mono s9, Same.refl _, q6⟩, fun j k' Hd ⟨hjk, e, acc', ds', Ra, hla, rra, sma, qa⟩ => ?_⟩
      have smd : Same (hd (M.add L) ρ4 H6) Hd := by
        rw [hd_add]
        exact (sma.trans same_hid_of).trans same_rem
      obtain ⟨go6, stop6⟩ := sv6 Hd smd
      by_cases hj : j < ys.length
      · have hy : ys[j]? = some ys[j] := List.getElem?_eq_getElem hj
        obtain ⟨g61, g62⟩ := go6 j _ hy
        rw [List.drop_eq_getElem_cons hj] at qa
        refine .inr ⟨g61, fun Hn => W1 (j + 1) (k' - 1) Hn, fun Hn w => ⟨k' - 1, by omega, w⟩, fun v2 H7 y7 => ?_⟩
        obtain ⟨s7, r7⟩ := g62 v2 H7 y7
        have Rb : Rl X.K (M.add L) (upd F' L (.lst acc')) e σ4 Hd ρ4 := Ra.into hla (fun _ z => nomatch z)
        have Rc := Rb.same s7
        have Rd := Rc.wipe hn1
        have hO7 : Same (hd (M.add L) ρ4 H6) (hid (Own (M.add L) ρ4) Hd) := by
          have : hid (Own (M.add L) ρ4) Hd = hd M ρ4 (rem Hd L) := hd_add
          rw [this, hd_add]; exact sma
        have rp7 := r7 (Own (M.add L) ρ4) Rb.tr hO7
        refine ⟨(M.add L).B, _, ys[j], wipeE e vs1, ρ4, _, Rd, rp7, qa, fun e8 σ8 H8 ρ8 q8 R8' s8 w8 f8 => ?_⟩
        have e8' : ρ8 = ρ4 := f8.eq hn1
        subst e8'
        have wv1 : wipe σ8 vs1 = wipe σ4 vs1 := w8.trans wipe_idem
        refine ⟨wv1, (M.add L).B, _, e8, ρ8, _, R8', q8, fun b9 e9 H9 q9 R9' s9' => ?_⟩
        have s79 : Same (hd (M.add L) ρ8 Hd) (hd (M.add L) ρ8 H9) := (same_hid s7).trans (s8.trans s9')
        cases b9 with
        | false =>
          simp only [Bool.false_eq_true, if_false]
          obtain ⟨Re, hle, se⟩ := outs e9 σ8 H9 Hd R9' s79
          exact ⟨by omega, _, acc', ds', Ra.back Re se wv1 hn1, hle, rra.mono se, sma.trans se, q9⟩
        | true =>
          simp only [if_true]
          refine ⟨(M.add L).B, _, e9, ρ8, _, R9', q9, fun z e10 v10 H10 q10 R10 s10 r10 => ?_⟩
          obtain ⟨Re, hle, se⟩ := outs e10 σ8 H10 Hd R10 (s79.trans s10)
          obtain ⟨hz, q10⟩ := q10
          refine ⟨acc', hle, by rw [rra.len]; exact hz, by omega, _, acc' ++ [v10], ds' ++ [z], ?_, upd_same, ?_, ?_, q10⟩
          · rw [rem_upd2]; exact Ra.back Re se wv1 hn1
          · rw [rem_upd2]
            refine (rra.mono se).app (.one ?_)
            have : hd (M.add L) ρ8 H10 = hd M ρ8 (rem H10 L) := hd_add
            rw [← this]; exact r10
          · rw [rem_upd2]; exact sma.trans se
      · have e0 : j = ys.length := by omega
        subst e0
        rw [List.drop_length] at qa
        exact .inl ⟨stop6, fin e Hd acc' ds' Ra hla rra (s9.trans sma) qa⟩
  · have e0 : i = xs.length := by omega
    subst e0
    refine .inl ⟨stop, ?_⟩
    rw [List.drop_length] at q2
    exact k ds ev2 L acc Hc q2 (R2.weak hF) (s1.trans hsh) hL rs
end
end VL
namespace VL
open PySem PySem.Spec PyProof.Rows L2
open Classical
section
variable {X : Cx} {M : Fm} {tg iter tg1 iter1 elt : Expr} {ifs ifs1 : List Expr} {scope : Scope} {own : List (Str × Nat)} {vs1 : List Nat} {pos : Pos} {t t1 : VTA} {g g1 : VG} {tt tt1 : VTB} {te : VT}
theorem piX {X : Cx} {e : Expr} {M : Fm} (h : ∀ B, VW' X ⟨B, M.β⟩ tg e t) : PI X tg e (wX X.K M t) := ⟨fun pins s σ H R I ⟨B, F', q⟩ => ((h B).pi F').run pins s σ H R I q⟩
/-- [elt for tg in iter if .. for tg1 in iter1 if ..] -/
theorem vo_lc2 (hc : X.calm = true) (hN : X.N.Nodup) (hi : VW' X M tg iter t) (ok : BlkOk X.N X.env.scope scope own) (hv : ∀ i ∈ vs1, i ∈ own.map (·.2))
    (hg : ∀ (s : Shared) (H : Hp) (C : Addr) (cl : List (Str × Addr)) (fp : List Addr) (B : Addr → Prop), VTg (X.blk s H scope (compEnvC scope cl C X.env) fp) ⟨B, M.β⟩ (own.map (·.2)) tg g)
    (ht : ∀ (s : Shared) (H : Hp) (C : Addr) (cl : List (Str × Addr)) (fp : List Addr) (B : Addr → Prop), VBs (X.blk s H scope (compEnvC scope cl C X.env) fp) ⟨B, M.β⟩ ifs tt)
    (hi1 : ∀ (s : Shared) (H : Hp) (C : Addr) (cl : List (Str × Addr)) (fp : List Addr) (B : Addr → Prop), VW' (X.blk s H scope (compEnvC scope cl C X.env) fp) ⟨B, M.β⟩ tg1 iter1 t1)
    (hg1 : ∀ (s : Shared) (H : Hp) (C : Addr) (cl : List (Str × Addr)) (fp : List Addr) (B : Addr → Prop), VTg (X.blk s H scope (compEnvC scope cl C X.env) fp) ⟨B, M.β⟩ vs1 tg1 g1)
    (ht1 : ∀ (s : Shared) (H : Hp) (C : Addr) (cl : List (Str × Addr)) (fp : List Addr) (B : Addr → Prop), VBs (X.blk s H scope (compEnvC scope cl C X.env) fp) ⟨B, M.β⟩ ifs1 tt1)
    (he : ∀ (s : Shared) (H : Hp) (C : Addr) (cl : List (Str × Addr)) (fp : List Addr) (B : Addr → Prop), VE (X.blk s H scope (compEnvC scope cl C X.env) fp) ⟨B, M.β⟩ elt te)
    (hs : ∀ x, foldedSetIterable iter X.env x = pure x := by intro _; rfl) (hs1 : ∀ env x, foldedSetIterable iter1 env x = pure x := by intro _ _; rfl) :
    VO X M (.ListComp elt [⟨tg, iter, ifs, 0⟩, ⟨tg1, iter1, ifs1, 0⟩] scope pos) (vLc2 t g tt t1 g1 tt1 te (own.map (·.2)) vs1) :=
  ⟨fun F => peI (pe_lc2 (g := gX X.K M (own.map (·.2)) g) (tt := tX X.K M tt) (wi1 := wX X.K M t1) (g1 := gX X.K M vs1 g1) (tt1 := tX X.K M tt1) (te := eX X.K M te) hc hN (hi.pi F) ok hv (fun s H C cl fp => pgX (hg s H C cl fp)) (fun s H C cl fp => ptsX (ht s H C cl fp))
    (fun s H C cl fp => piX (hi1 s H C cl fp)) (fun s H C cl fp => pgX (hg1 s H C cl fp)) (fun s H C cl fp => ptsX (ht1 s H C cl fp)) (fun s H C cl fp => peX (he s H C cl fp)) hs hs1) (lc2_read hv)⟩
theorem vs_setLc2 (i : Nat) {y : Str} {py spos : Pos} (hc : X.calm = true) (hN : X.N.Nodup) (hy : X.N[i]? = some y) (hyl : X.env.scope.names.lookup y = some .local) (hb : M.β = none ∨ i ≠ 0)
    (hsw : swapsWith (.ListComp elt [⟨tg, iter, ifs, 0⟩, ⟨tg1, iter1, ifs1, 0⟩] scope pos) (some (.Name y py)) spos.line X.env = pure true) (hi : VW' X M tg iter t) (ok : BlkOk X.N X.env.scope scope own) (hv : ∀ i ∈ vs1, i ∈ own.map (·.2))
    (hg : ∀ (s : Shared) (H : Hp) (C : Addr) (cl : List (Str × Addr)) (fp : List Addr) (B : Addr → Prop), VTg (X.blk s H scope (compEnvC scope cl C X.env) fp) ⟨B, M.β⟩ (own.map (·.2)) tg g)
    (ht : ∀ (s : Shared) (H : Hp) (C : Addr) (cl : List (Str × Addr)) (fp : List Addr) (B : Addr → Prop), VBs (X.blk s H scope (compEnvC scope cl C X.env) fp) ⟨B, M.β⟩ ifs tt)
    (hi1 : ∀ (s : Shared) (H : Hp) (C : Addr) (cl : List (Str × Addr)) (fp : List Addr) (B : Addr → Prop), VW' (X.blk s H scope (compEnvC scope cl C X.env) fp) ⟨B, M.β⟩ tg1 iter1 t1)
    (hg1 : ∀ (s : Shared) (H : Hp) (C : Addr) (cl : List (Str × Addr)) (fp : List Addr) (B : Addr → Prop), VTg (X.blk s H scope (compEnvC scope cl C X.env) fp) ⟨B, M.β⟩ vs1 tg1 g1)
    (ht1 : ∀ (s : Shared) (H : Hp) (C : Addr) (cl : List (Str × Addr)) (fp : List Addr) (B : Addr → Prop), VBs (X.blk s H scope (compEnvC scope cl C X.env) fp) ⟨B, M.β⟩ ifs1 tt1)
    (he : ∀ (s : Shared) (H : Hp) (C : Addr) (cl : List (Str × Addr)) (fp : List Addr) (B : Addr → Prop), VE (X.blk s H scope (compEnvC scope cl C X.env) fp) ⟨B, M.β⟩ elt te)
    (hs : ∀ x, foldedSetIterable iter X.env x = pure x := by intro _; rfl) (hs1 : ∀ env x, foldedSetIterable iter1 env x = pure x := by intro _ _; rfl) :
    VSt X M (.Assign [.Name y py] (.ListComp elt [⟨tg, iter, ifs, 0⟩, ⟨tg1, iter1, ifs1, 0⟩] scope pos) spos) (vSetO i (vLc2 t g tt t1 g1 tt1 te (own.map (·.2)) vs1)) := by
  refine ⟨fun F => ⟨fun pins s σ H D I ⟨ev, ρ, D', R, h, k⟩ => ?_⟩⟩
  have P := ps_setLc2 (g := gX X.K M (own.map (·.2)) g) (tt := tX X.K M tt) (wi1 := wX X.K M t1) (g1 := gX X.K M vs1 g1) (tt1 := tX X.K M tt1) (te := eX X.K M te) hc hN hy hyl hsw (hi.pi F) ok hv (fun s H C cl fp => pgX (hg s H C cl fp)) (fun s H C cl fp => ptsX (ht s H C cl fp))
    (fun s H C cl fp => piX (hi1 s H C cl fp)) (fun s H C cl fp => pgX (hg1 s H C cl fp)) (fun s H C cl fp => ptsX (ht1 s H C cl fp)) (fun s H C cl fp => peX (he s H C cl fp)) hs hs1
  refine P.run pins s σ H D I (lc2_read hv σ H _ ⟨ev, ρ, _, R, h, fun d e1 a vs H1 q1 R1 s1 ha r1 => ?_⟩)
  have hl : i < e1.length := by rw [R1.len, I.len]; exact (List.getElem?_eq_some_iff.mp hy).1
  exact k.nx _ _ H1 _ q1 (R1.setOw hl hb ha r1)
end
/-! ### min of data that is alike -/
def rMinD (K : PySem.W.Frag) : List V → Hp → VK → Prop := fun vs H Q => ∃ (a : Addr) (xs : List V) (d : D) (ds : List D), vs = [V.ref a] ∧ (SqL K H a xs ∨ SqT K H a xs) ∧ DpAll K H xs (d :: ds) ∧ PyData.canLayAll0 (d :: ds) = true ∧ PySem.W.AlikeAll (d :: ds) ∧ PyData.depthAll (d :: ds) ≤ 60 ∧
  ∀ (i : Nat) (x : V), xs[i]? = some x → (d :: ds)[i]? = some (PySem.W.minD d ds) → Q x H
theorem readsAll_get {h : Heap} : ∀ {vs : List Value} {ds : List D} {as : List Addr} {i : Nat} {v : Value}, ReadsAll h vs ds as → vs[i]? = some v → ∃ d bs, ds[i]? = some d ∧ Reads h v d bs
  | _, _, _, i, v, .nil, e => by simp at e
  | _, _, _, 0, v, .cons r1 r2, e => by simp at e; subst e; exact ⟨_, _, rfl, r1⟩
  | _, _, _, i + 1, v, .cons r1 r2, e => by
    simp at e
    obtain ⟨d, bs, h1, h2⟩ := readsAll_get r2 e
    exact ⟨d, bs, by simpa using h1, h2⟩
theorem vals_at : ∀ {xs : List V} {us : List Value} {i : Nat} {u : Value}, Vals xs us → us[i]? = some u → ∃ x, xs[i]? = some x ∧ RelV x u
  | _, _, i, u, .nil, e => by simp at e
  | _, _, 0, u, .cons r1 r2, e => by simp at e; subst e; exact ⟨_, rfl, r1⟩
  | _, _, i + 1, u, .cons r1 r2, e => by
    simp at e
    obtain ⟨x, h1, h2⟩ := vals_at r2 e
    exact ⟨x, by simpa using h1, h2⟩
theorem lay_get : ∀ {xs : List D} {i : Nat} {d : D}, PyData.canLayAll0 xs = true → xs[i]? = some d → d.canLay0 = true
  | [], i, d, _, e => by simp at e
  | x :: xs, 0, d, h, e => by
    simp [PyData.canLayAll0] at h
    simp at e; subst e; exact h.1
  | x :: xs, i + 1, d, h, e => by
    simp [PyData.canLayAll0] at h
    exact lay_get h.2 (by simpa using e)
theorem cr_minD (hc : X.calm = true) (hu : X.A.units + 65 < cLine) : CallR X (.builtin "min") (rMinD X.K) := by
  intro pins s σ H vs us Q I r h
  obtain ⟨a, xs, d, ds, rfl, hs, dp, lay, al, hd, q⟩ := h
  obtain rfl := Vals.ref1 r
  have main : ∀ its : List Value, Vals xs its → (∀ (i : Nat) (v : Value) (h' : Heap) (tk : Nat) (bs : List Addr), its[i]? = some v → Reads h' v (PySem.W.minD d ds) bs → (∀ b o, s.heap.get? b = some o → h'.get? b = some o) → EP X pins σ Q v { s with heap := h', toks := tk }) := fun its rv i v h' tk bs hi rr hk => by
    obtain ⟨as, ra⟩ := Dp.readsAll I (d :: ds) xs its dp rv
    obtain ⟨d', bs', e1, r1⟩ := readsAll_get ra hi
    have e2 : d' = PySem.W.minD d ds := SeqAt.Reads.unique d' _ v bs' bs (lay_get lay e1) (PySem.W.reads_keeps hk r1) rr
    obtain ⟨x, hx, rx⟩ : ∃ x, xs[i]? = some x ∧ RelV x v := vals_at rv hi
    exact ⟨x, H, I.kept hk, rx, q i x hx (by rw [e1, e2])⟩
  rcases hs with hs | hs
  · obtain ⟨its, rv, hl, hz⟩ := I.list hs
    obtain ⟨as, ra⟩ := Dp.readsAll I (d :: ds) xs its dp rv
    exact PySem.W.min_list_data (I.ok.hd hc) hl.isList ra al (by omega) fun i v h' tk bs hi rr hk => main its rv i v h' tk bs (by simpa using hi) rr hk
  · obtain ⟨its, rv, hl, hz⟩ := I.tuple hs
    obtain ⟨as, ra⟩ := Dp.readsAll I (d :: ds) xs its dp rv
    exact PySem.W.min_tuple_data (I.ok.hd hc) hl ra al (by omega) fun i v h' tk bs hi rr hk => main its rv i v h' tk bs (by simpa using hi) rr hk
/-- min of data: all alike -/
def minOk (d : D) (ds : List D) : Prop := PyData.canLayAll0 (d :: ds) = true ∧ PySem.W.AlikeAll (d :: ds) ∧ PyData.depthAll (d :: ds) ≤ 60
def cMinD : VN := fun ds Q => match ds with
  | [.list (x :: xs)] => minOk x xs ∧ Q (PySem.W.minD x xs)
  | [.tuple (x :: xs)] => minOk x xs ∧ Q (PySem.W.minD x xs)
  | _ => False
theorem rps_at {K : PySem.W.Frag} {H : Hp} : ∀ {vs : List V} {ds : List D} {i : Nat} {v : V} {d : D}, Rps K H vs ds → vs[i]? = some v → ds[i]? = some d → Rp K H v d
  | _, _, i, v, d, .nil, e, _ => by simp at e
  | _, _, 0, v, d, .cons r1 r2, e, f => by simp at e f; subst e f; exact r1
  | _, _, i + 1, v, d, .cons r1 r2, e, f => by
    simp at e f
    exact rps_at r2 e f
theorem cv_minD {K : PySem.W.Frag} : CallV K (rMinD K) cMinD := fun O H xs ds Q Qv hO r h k => by
  have main : ∀ (a : Addr) (ws : List V) (d : D) (es : List D), (SqL K H a ws ∨ SqT K H a ws) → Rps K (hid O H) ws (d :: es) → minOk d es ∧ Qv (PySem.W.minD d es) → rMinD K [.ref a] H Q := fun a ws d es hs rr ⟨⟨h1, h2, h3⟩, hq⟩ =>
    ⟨a, ws, d, es, rfl, hs, (rr.mono same_hid_of).dp, h1, h2, h3, fun i x hx hd => k x H _ hq (Same.refl _) (rps_at rr hx hd)⟩
  match ds, h with
  | [.list (d :: es)], h =>
    cases r with
    | cons r1 r2 =>
      cases r2
      obtain ⟨a, ws, rfl, h1, h2⟩ := rt_lst r1
      exact main a ws d es (.inl (SqL.of h1)) h2 h
  | [.tuple (d :: es)], h =>
    cases r with
    | cons r1 r2 =>
      cases r2
      obtain ⟨a, ws, rfl, h1, h2⟩ := rt_tup r1
      exact main a ws d es (.inr (same_seqT same_hid_of h1)) h2 h
/-! ### any of a tuple of ints -/
theorem truth_ints {prog : Program} {w : World} {A : Around} {ns : List Int} {its : List Value} (e : IntsAre its ns) :
    TruthOf prog w A (fun i v => its.toArray[i]? = some v) (fun i => ns.getD i 0 != 0) := fun i v s Q E hv hq => by
  have hv' : its[i]? = some v := by simpa using hv
  have key : ∀ {its : List Value} {ns : List Int} {i : Nat} {v : Value}, IntsAre its ns → its[i]? = some v → ∃ t, v = Value.int (ns.getD i 0) t := by
    intro its ns i v h
    induction h generalizing i with
    | nil => intro e; simp at e
    | cons n t r ih =>
      intro e
      cases i with
      | zero => simp at e; subst e; exact ⟨t, rfl⟩
      | succ i => simpa using ih (by simpa using e)
  obtain ⟨t, rfl⟩ := key e hv'
  exact truthy_int hq
theorem any_rangeI : ∀ ns : List Int, (List.range ns.length).any (fun i => ns.getD i 0 != 0) = ns.any (· != 0)
  | [] => rfl
  | b :: bs => by
    rw [List.length_cons, List.range_succ_eq_map, List.any_cons, List.any_map, List.any_cons, ← any_rangeI bs]
    all_goals rfl
def rAnyI (K : PySem.W.Frag) : List V → Hp → VK → Prop := fun vs H Q => ∃ (a : Addr) (ns : List Int), vs = [V.ref a] ∧ SqT K H a (ns.map V.int) ∧ Q (.bl (ns.any (· != 0))) H
theorem cr_anyI {X : Cx} (hc : X.calm = true) : CallR X (.builtin "any") (rAnyI X.K) := by
  intro pins s σ H vs us Q I r h
  obtain ⟨a, ns, rfl, hs, q⟩ := h
  obtain ⟨its, rv, hl, _⟩ := I.tuple hs
  obtain rfl := Vals.ref1 r
  have hb := rv.ints
  refine call_any_walkS (PySem.W.iter_tupleW (A := X.A.in1) (I.ok.hd hc) hl fun s₂ e W st hfp hw hk => ⟨_, _, _, _, _, _, _, _, rfl, W, st, truth_ints hb, fun s' m => ?_⟩)
  obtain ⟨h', tk, rfl, hk'⟩ := PySem.W.moved_old e rfl m
  refine ⟨.bl _, H, I.kept hk', ?_, q⟩
  show Value.bool _ = Value.bool _
  rw [← any_rangeI, List.size_toArray, hb.length]
def cAnyI : VN := fun ds Q => match ds with
  | [.tuple xs] => match intsOf xs with
    | some ns => Q (.bool (ns.any (· != 0)))
    | none => False
  | _ => False
theorem cv_anyI {K : PySem.W.Frag} : CallV K (rAnyI K) cAnyI := fun O H xs ds Q Qv hO r h k => by
  match ds, h with
  | [.tuple es], h =>
    cases r with
    | cons r1 r2 =>
      cases r2
      obtain ⟨a, ws, rfl, h1, h2⟩ := rt_tup r1
      unfold cAnyI at h
      dsimp only at h
      cases e : intsOf es with
      | none => rw [e] at h; exact h.elim
      | some ns =>
        rw [e] at h
        rw [intsOf_eq e] at h2
        obtain rfl := h2.ints
        exact ⟨a, ns, rfl, same_seqT same_hid_of h1, k (.bl _) H _ h (Same.refl _) (.bl _)⟩
/-! ### len(set(list of ints)) -/
def metN (ns : List Int) : Nat := (PyProof.Rows.firstMet (fun i => ns.getD i 0) ns.length).length
def tLenSetN (K : PySem.W.Frag) (ta : TE) : TE := fun σ H Q => ta σ H fun x H1 => ∃ (l : Addr) (ns : List Int), x = V.ref l ∧ SqL K H1 l (ns.map V.int) ∧ ns.length < 64 ∧ Q (.int (metN ns)) H1
theorem pe_lenSetN {X : Cx} {a : Expr} {ta : TE} {p p2 q pos : Pos} (hc : X.calm = true) (hg : Gl X "len") (hm : X.mg "len" = none) (hg2 : Gl X "set") (hm2 : X.mg "set" = none) (ha : PE X a ta)
    (na : starEach [a] X.env = (false, eval a X.env) :: starEach [] X.env := by rfl) : PE X (.Call (.Name "len" p) [.Call (.Name "set" p2) [a] [] q] [] pos) (tLenSetN X.K ta) := by
  refine ⟨fun pins s σ H Q I h => Call_ (ld_blt I hg hm PySem.boot_len ?_)⟩
  refine PyProof.Rows.callWith_builtin1 (PyProof.Rows.args_cons (Call_ (ld_blt I hg2 hm2 PyProof.Rows.boot_set ?_)) rfl) rfl rfl
  refine PyProof.Rows.callWith_type1 (PyProof.Rows.args_cons (thn (ha.run pins s σ H _ I h) fun v s1 ⟨x, H1, I1, r1, l, ns, ex, hq, h1, q1⟩ => PyProof.Rows.args_nil ?_) na) na rfl
  subst ex
  cases r1
  obtain ⟨its, r, pl, hz⟩ := I1.list hq
  have hl : its.toArray.size = ns.length := by rw [List.size_toArray, ← r.length, List.length_map]
  refine call_set_list (I1.ok.hd hc) pl.isList (ns := ns) (by simpa using r.ints) (by unfold scanBound; omega) fun h' tk hS hk => PyProof.Rows.args_nil ?_
  rw [hl] at hS
  obtain ⟨o, es, ep, t, ho, hex, hd, _, _, _, hf, hn⟩ := hS
  have I2 : Inv X pins σ H1 { s1 with heap := h', toks := tk } := I1.kept fun b o e => hk b o (Heap.lt_size e) e
  have le := PyProof.Rows.firstMet_length_le (fun i => ns.getD i 0) ns.length
  exact call_len_set ho hex hd hf (by rw [hn]; omega) ⟨.int (metN ns), H1, I2.tok _, ⟨_, by rw [hn]; rfl⟩, q1⟩
def vLenSet (t : VT) : VT := fun ev Q => t ev fun d e1 => match d with
  | .list xs => match intsOf xs with
    | some ns => ns.length < 64 ∧ Q (.int (metN ns)) e1
    | none => False
  | _ => False
theorem ve_lenSet {X : Cx} {M : Fm} {a : Expr} {t : VT} {p p2 q pos : Pos} (hc : X.calm = true) (hg : Gl X "len") (hm : X.mg "len" = none) (hg2 : Gl X "set") (hm2 : X.mg "set" = none) (ha : VE X M a t)
    (na : starEach [a] X.env = (false, eval a X.env) :: starEach [] X.env := by rfl) : VE X M (.Call (.Name "len" p) [.Call (.Name "set" p2) [a] [] q] [] pos) (vLenSet t) :=
  ⟨fun F => peI (pe_lenSetN hc hg hm hg2 hm2 (ha.pe F) na) fun σ H Q ⟨ev, ρ, Qv, R, h, k⟩ => ⟨ev, ρ, _, R, h, fun d e1 v H1 q1 R1 s1 r1 => by
    cases d with
    | list xs =>
      dsimp only at q1
      cases e : intsOf xs with
      | none => rw [e] at q1; exact q1.elim
      | some ns =>
        rw [e] at q1
        obtain ⟨b, ws, rfl, h1, h2⟩ := rt_lst (O := Own M ρ) (.inl (r1))
        rw [intsOf_eq e] at h2
        obtain rfl := h2.ints
        exact ⟨b, ns, rfl, SqL.of h1, q1.1, k _ e1 _ H1 q1.2 R1 s1 (.int _)⟩
    | _ => exact q1.elim⟩⟩
end VL

set_option linter.all false
set_option maxRecDepth 100000
/-! Plain number theory: primes, Fermat, roots of powers, Euler's criterion's half, sums of two squares. -/
namespace NT
def Pr (p : Nat) : Prop := 2 ≤ p ∧ ∀ d, d ∣ p → d = 1 ∨ d = p
theorem Pr.cop {p a : Nat} (h : Pr p) (n : ¬ p ∣ a) : Nat.Coprime p a := by
  rcases h.2 (Nat.gcd p a) (Nat.gcd_dvd_left p a) with e | e
  · exact e
  · exact absurd (e ▸ Nat.gcd_dvd_right p a) n
theorem Pr.dvd {p a b : Nat} (h : Pr p) (d : p ∣ a * b) : p ∣ a ∨ p ∣ b := by
  by_cases n : p ∣ a
  · exact .inl n
  · exact .inr ((h.cop n).dvd_of_dvd_mul_left d)
theorem Pr.idvd {p : Nat} {a b : Int} (h : Pr p) (d : (p : Int) ∣ a * b) : (p : Int) ∣ a ∨ (p : Int) ∣ b := by
  have e := Int.natAbs_dvd_natAbs.mpr d
  rw [Int.natAbs_mul, Int.natAbs_natCast] at e
  rcases h.dvd e with e | e
  · exact .inl (Int.ofNat_dvd_left.mpr e)
  · exact .inr (Int.ofNat_dvd_left.mpr e)
theorem Pr.two {p : Nat} (h : Pr p) : 2 ≤ p := h.1
theorem Pr.not_one {p : Nat} (h : Pr p) : ¬ (p : Int) ∣ 1 := fun d => by
  have := Int.le_of_dvd (by decide) d
  have := h.1; omega
theorem Pr.ipow {p : Nat} {a : Int} (h : Pr p) : ∀ {n : Nat}, (p : Int) ∣ a ^ n → (p : Int) ∣ a
  | 0, d => absurd (by simpa using d) h.not_one
  | n + 1, d => by
    rw [Int.pow_succ] at d
    rcases h.idvd d with d | d
    · exact h.ipow d
    · exact d
theorem Pr.npow {p a : Nat} (h : Pr p) : ∀ {n : Nat}, p ∣ a ^ n → p ∣ a
  | 0, d => by
    have := Nat.le_of_dvd (by rw [Nat.pow_zero]; decide) d
    rw [Nat.pow_zero] at this
    have := h.1; omega
  | n + 1, d => by
    rw [Nat.pow_succ] at d
    rcases h.dvd d with d | d
    · exact h.npow d
    · exact d
theorem Pr.self_of_dvd {p q : Nat} (h : Pr p) (h2 : Pr q) (d : p ∣ q) : p = q := by
  rcases h2.2 p d with e | e
  · have := h.1; omega
  · exact e
/-- a number from 2 on with no divisor below its root is a prime -/
theorem pr_of {p : Nat} (h : 2 ≤ p) (n : ∀ d, 2 ≤ d → d * d ≤ p → ¬ d ∣ p) : Pr p := by
  refine ⟨h, fun d hd => ?_⟩
  obtain ⟨e, he⟩ := hd
  have hd0 : d ≠ 0 := fun z => by subst z; omega
  have he0 : e ≠ 0 := fun z => by subst z; omega
  by_cases h1 : d = 1
  · exact .inl h1
  by_cases h2 : e = 1
  · subst h2; exact .inr (by omega)
  exfalso
  rcases Nat.le_total d e with c | c
  · exact n d (by omega) (by rw [he]; exact Nat.mul_le_mul_left d c) ⟨e, he⟩
  · exact n e (by omega) (by rw [he]; exact Nat.mul_le_mul_right e c) ⟨d, by rw [he, Nat.mul_comm]⟩
theorem exists_pr : ∀ (n : Nat), 2 ≤ n → ∃ p, Pr p ∧ p ∣ n := by
  intro n
  induction n using Nat.strongRecOn with
  | _ n ih =>
    intro h
    by_cases c : ∀ d, 2 ≤ d → d * d ≤ n → ¬ d ∣ n
    · exact ⟨n, pr_of h c, Nat.dvd_refl n⟩
    · simp only [Classical.not_forall, Classical.not_not] at c
      obtain ⟨d, h2, h3, h4⟩ := c
      have : d < n := by
        have : d * 2 ≤ d * d := Nat.mul_le_mul_left d h2
        omega
      obtain ⟨p, hp, hd⟩ := ih d this h2
      exact ⟨p, hp, Nat.dvd_trans hd h4⟩

theorem dvd_of_mod {p a b : Nat} (e : a % p = b % p) : p ∣ a - b := Nat.dvd_of_mod_eq_zero (Nat.sub_mod_eq_zero_of_mod_eq e)
theorem mod_of_dvd {p a b : Nat} (h : b ≤ a) (d : p ∣ a - b) : a % p = b % p := by
  obtain ⟨k, hk⟩ := d
  have : a = b + p * k := by omega
  rw [this, Nat.add_mul_mod_self_left]
/-! ### Fermat -/
def prod : List Nat → Nat
  | [] => 1
  | a :: l => a * prod l
theorem prod_erase {a : Nat} : ∀ {l : List Nat}, a ∈ l → prod l = a * prod (l.erase a)
  | b :: l, h => by
    by_cases e : b = a
    · subst e; simp [prod]
    · rw [List.erase_cons_tail (by simpa using e)]
      have : a ∈ l := by
        rcases List.mem_cons.mp h with z | z
        · exact absurd z.symm e
        · exact z
      rw [prod, prod, prod_erase this]; grind
theorem len_le : ∀ (n : Nat) (l : List Nat), l.Nodup → (∀ a ∈ l, 1 ≤ a ∧ a ≤ n) → l.length ≤ n
  | 0, l, _, h => by
    cases l with
    | nil => exact Nat.le_refl 0
    | cons a l => have := h a List.mem_cons_self; omega
  | n + 1, l, nd, h => by
    by_cases m : n + 1 ∈ l
    · have := len_le n (l.erase (n + 1)) (nd.erase _) fun a ha => by
        have h1 := (nd.mem_erase_iff.mp ha)
        have := h a h1.2
        omega
      rw [List.length_erase_of_mem m] at this
      omega
    · have := len_le n l nd fun a ha => by
        have h1 := h a ha
        have : a ≠ n + 1 := fun z => m (z ▸ ha)
        omega
      omega
def fact : Nat → Nat
  | 0 => 1
  | n + 1 => (n + 1) * fact n
theorem prod_fact : ∀ (n : Nat) (l : List Nat), l.Nodup → (∀ a ∈ l, 1 ≤ a ∧ a ≤ n) → l.length = n → prod l = fact n
  | 0, l, _, _, e => by
    cases l with
    | nil => rfl
    | cons a l => simp at e
  | n + 1, l, nd, h, e => by
    by_cases m : n + 1 ∈ l
    · rw [prod_erase m, prod_fact n (l.erase (n + 1)) (nd.erase _) (fun a ha => by
        have h1 := (nd.mem_erase_iff.mp ha)
        have := h a h1.2
        omega) (by rw [List.length_erase_of_mem m]; omega)]
      rfl
    · have := len_le n l nd fun a ha => by
        have h1 := h a ha
        have : a ≠ n + 1 := fun z => m (z ▸ ha)
        omega
      omega
theorem Pr.fact {p : Nat} (h : Pr p) : ∀ {n : Nat}, n < p → ¬ p ∣ fact n
  | 0, _, d => by
    have : p ≤ 1 := Nat.le_of_dvd (by decide) d
    have := h.1; omega
  | n + 1, l, d => by
    rcases h.dvd d with d | d
    · have := Nat.le_of_dvd (by omega) d; omega
    · exact h.fact (by omega) d
theorem prod_mod (p a : Nat) : ∀ l : List Nat, prod (l.map fun i => a * i % p) % p = a ^ l.length * prod l % p
  | [] => by simp [prod]
  | i :: l => by
    have ih := prod_mod p a l
    simp only [List.map_cons, prod, List.length_cons]
    rw [Nat.mul_mod, Nat.mod_mod, ih, ← Nat.mul_mod]
    congr 1
    rw [Nat.pow_succ]; grind
theorem fermat {p a : Nat} (h : Pr p) (n : ¬ p ∣ a) : a ^ (p - 1) % p = 1 := by
  have h2 := h.1
  let l := (List.range (p - 1)).map (· + 1)
  have ll : l.length = p - 1 := by simp [l]
  have lm : ∀ i ∈ l, 1 ≤ i ∧ i ≤ p - 1 := fun i hi => by
    simp only [l, List.mem_map, List.mem_range] at hi
    obtain ⟨j, hj, rfl⟩ := hi; omega
  have ln : l.Nodup := by
    refine List.Pairwise.map _ (fun a b hab e => hab (by omega)) List.nodup_range
  have key : prod (l.map fun i => a * i % p) = fact (p - 1) := by
    refine prod_fact _ _ ?_ (fun x hx => ?_) (by rw [List.length_map, ll])
    · refine List.pairwise_map.mpr (List.Pairwise.imp_of_mem ?_ ln)
      intro i j hi hj hij e
      have hi' := lm i hi
      have hj' := lm j hj
      rcases Nat.lt_or_gt_of_ne hij with c | c
      · have : p ∣ a * (j - i) := by
          rw [Nat.mul_sub]; exact dvd_of_mod e.symm
        rcases h.dvd this with d | d
        · exact n d
        · have := Nat.le_of_dvd (by omega) d; omega
      · have : p ∣ a * (i - j) := by
          rw [Nat.mul_sub]; exact dvd_of_mod e
        rcases h.dvd this with d | d
        · exact n d
        · have := Nat.le_of_dvd (by omega) d; omega
    · obtain ⟨i, hi, rfl⟩ := List.mem_map.mp hx
      have hi' := lm i hi
      have l1 := Nat.mod_lt (a * i) (show 0 < p by omega)
      have : a * i % p ≠ 0 := fun z => by
        rcases h.dvd (Nat.dvd_of_mod_eq_zero z) with d | d
        · exact n d
        · have := Nat.le_of_dvd (by omega) d; omega
      omega
  have e := prod_mod p a l
  rw [key, ll, prod_fact (p - 1) l ln lm ll] at e
  -- fact = a^(p-1) * fact mod p
  have hf := h.fact (n := p - 1) (by omega)
  have hcop := h.cop hf
  have pos : 1 ≤ a ^ (p - 1) := Nat.one_le_iff_ne_zero.mpr fun z => n (by
    have := Nat.pow_eq_zero.mp z
    rw [this.1]; exact Nat.dvd_zero p)
  have : p ∣ (a ^ (p - 1) - 1) * fact (p - 1) := by
    rw [Nat.sub_mul, Nat.one_mul]
    exact dvd_of_mod e.symm
  have d := hcop.dvd_of_dvd_mul_right this
  rw [mod_of_dvd pos d, Nat.mod_eq_of_lt h2]

/-! ### roots of powers -/
/-- the sum of all products of k of the numbers (with repeats) -/
def Hs : List Int → Nat → Int
  | [], 0 => 1
  | [], _ + 1 => 0
  | _ :: _, 0 => 1
  | x :: A, k + 1 => Hs A (k + 1) + x * Hs (x :: A) k
theorem hs_zero (A : List Int) : Hs A 0 = 1 := by cases A <;> rw [Hs]
theorem hs_step (x : Int) (A : List Int) (k : Nat) : Hs (x :: A) (k + 1) = Hs A (k + 1) + x * Hs (x :: A) k := by rw [Hs]
theorem hs_diff (x y : Int) (A : List Int) : ∀ k, Hs (x :: A) (k + 1) - Hs (y :: A) (k + 1) = (x - y) * Hs (x :: y :: A) k
  | 0 => by
    rw [hs_step, hs_step, hs_zero, hs_zero, hs_zero]; grind
  | k + 1 => by
    have ih := hs_diff x y A k
    rw [hs_step x A, hs_step y A, hs_step x (y :: A)]
    grind
theorem hs_one (x : Int) : ∀ k, Hs [x] k = x ^ k
  | 0 => by rw [hs_zero, Int.pow_zero]
  | k + 1 => by
    rw [hs_step, hs_one x k, Int.pow_succ, Hs]
    grind
/-- distinct by p -/
abbrev Dist (p : Nat) (A : List Int) : Prop := A.Pairwise fun x y => ¬ (p : Int) ∣ x - y
theorem hs_dvd {p m : Nat} (h : Pr p) : ∀ (r : Nat) (A : List Int), A.length = r + 1 → 1 ≤ r → r ≤ m → Dist p A → (∀ x ∈ A, (p : Int) ∣ x ^ m - 1) → (p : Int) ∣ Hs A (m - r)
  | 0, _, _, h1, _, _, _ => absurd h1 (by decide)
  | 1, A, e, _, hr, ds, hx => by
    match A, e with
    | [x, y], _ =>
      have e2 := hs_diff x y [] (m - 1)
      rw [Nat.sub_add_cancel hr, hs_one, hs_one] at e2
      have : (p : Int) ∣ (x - y) * Hs [x, y] (m - 1) := by
        rw [← e2]
        have := Int.dvd_sub (hx x (by simp)) (hx y (by simp))
        have e3 : x ^ m - 1 - (y ^ m - 1) = x ^ m - y ^ m := by omega
        rwa [e3] at this
      rcases h.idvd this with d | d
      · exact absurd d ((List.pairwise_cons.mp ds).1 y (by simp))
      · exact d
  | r + 2, A, e, _, hr, ds, hx => by
    match A, e with
    | x :: y :: A, e =>
      have e2 := hs_diff x y A (m - (r + 2))
      have e3 : m - (r + 2) + 1 = m - (r + 1) := by omega
      rw [e3] at e2
      have ds1 := List.pairwise_cons.mp ds
      have ds2 := List.pairwise_cons.mp ds1.2
      have hl : (y :: A).length = r + 2 := by simpa using e
      have hl2 : (x :: A).length = r + 2 := by simpa using e
      have a1 := hs_dvd h (r + 1) (y :: A) hl (by omega) (by omega) ds1.2 fun z hz => hx z (List.mem_cons_of_mem _ hz)
      have a2 := hs_dvd h (r + 1) (x :: A) hl2 (by omega) (by omega) (List.pairwise_cons.mpr ⟨fun z hz => ds1.1 z (List.mem_cons_of_mem _ hz), ds2.2⟩) fun z hz => hx z (by
        rcases List.mem_cons.mp hz with q | q
        · rw [q]; exact List.mem_cons_self
        · exact List.mem_cons_of_mem _ (List.mem_cons_of_mem _ q))
      have : (p : Int) ∣ (x - y) * Hs (x :: y :: A) (m - (r + 2)) := by rw [← e2]; exact Int.dvd_sub a2 a1
      rcases h.idvd this with d | d
      · exact absurd d (ds1.1 y (by simp))
      · exact d
/-- no m + 1 numbers, distinct by p, are all roots of x^m - 1 -/
theorem few_roots {p m : Nat} (h : Pr p) (hm : 1 ≤ m) {A : List Int} (e : A.length = m + 1) (ds : Dist p A) : ∃ x ∈ A, ¬ (p : Int) ∣ x ^ m - 1 := by
  by_cases c : ∀ x ∈ A, (p : Int) ∣ x ^ m - 1
  · have := hs_dvd h m A e hm (Nat.le_refl m) ds c
    rw [Nat.sub_self, hs_zero] at this
    exact absurd this h.not_one
  · simpa using c
theorem ipow_mod (a : Int) (n p : Nat) : (a % p) ^ n % (p : Int) = a ^ n % (p : Int) := by
  induction n with
  | zero => rw [Int.pow_zero, Int.pow_zero]
  | succ n ih => rw [Int.pow_succ, Int.pow_succ, Int.mul_emod, ih, Int.emod_emod_of_dvd _ (Int.dvd_refl _), ← Int.mul_emod]
theorem odd_sum (u v : Int) : ∀ k : Nat, (u + v) ∣ u ^ (2 * k + 1) + v ^ (2 * k + 1)
  | 0 => ⟨1, by grind⟩
  | k + 1 => by
    obtain ⟨c, hc⟩ := odd_sum u v k
    refine ⟨u * u * c - v ^ (2 * k + 1) * (u - v), ?_⟩
    have e : 2 * (k + 1) + 1 = 2 * k + 1 + 2 := by omega
    rw [e, Int.pow_add, Int.pow_add]
    grind
theorem ifermat {p : Nat} {a : Int} (h : Pr p) (n : ¬ (p : Int) ∣ a) : (p : Int) ∣ a ^ (p - 1) - 1 := by
  have h2 := h.1
  have e : (a % p).toNat ^ (p - 1) % p = 1 := fermat h fun d => n (by
    have := Int.natCast_dvd_natCast.mpr d
    rw [Int.toNat_of_nonneg (Int.emod_nonneg _ (by omega))] at this
    exact Int.dvd_of_emod_eq_zero (by rw [← Int.emod_emod_of_dvd a (Int.dvd_refl _)]; exact Int.emod_eq_zero_of_dvd this))
  have e1 : ((a % p) ^ (p - 1)) % (p : Int) = 1 := by
    have := congrArg (Int.ofNat) e
    simp only [Int.ofNat_eq_natCast, Int.natCast_emod, Int.natCast_pow] at this
    rw [Int.toNat_of_nonneg (Int.emod_nonneg _ (by omega))] at this
    simpa using this
  refine Int.dvd_of_emod_eq_zero (Int.emod_eq_emod_iff_emod_sub_eq_zero.mp ?_)
  rw [← e1, Int.emod_emod_of_dvd _ (Int.dvd_refl _), ← Int.emod_emod_of_dvd ((a % p) ^ (p - 1)) (Int.dvd_refl _), Int.emod_emod_of_dvd _ (Int.dvd_refl _)]
  exact (ipow_mod a (p - 1) p).symm
/-- of an odd prime: a number below p whose power is -1 -/
theorem nonres {p m : Nat} (h : Pr p) (hm : p = 2 * m + 1) : ∃ a : Nat, 1 ≤ a ∧ a < p ∧ (p : Int) ∣ (a : Int) ^ m + 1 := by
  have h2 := h.1
  obtain ⟨x, hx, n⟩ := few_roots (p := p) (m := m) h (by omega) (A := (List.range (m + 1)).map fun i => ((i + 1 : Nat) : Int)) (by simp) (by
    refine List.pairwise_map.mpr (List.Pairwise.imp_of_mem ?_ List.pairwise_lt_range)
    intro i j hi hj hij d
    have hj' := List.mem_range.mp hj
    have d2 : (p : Int) ∣ ((j : Nat) : Int) - ((i : Nat) : Int) := by
      have := Int.dvd_neg.mpr d
      have e : -(((i + 1 : Nat) : Int) - ((j + 1 : Nat) : Int)) = (j : Int) - (i : Int) := by omega
      rwa [e] at this
    have := Int.le_of_dvd (by omega) d2
    omega)
  obtain ⟨i, hi, rfl⟩ := List.mem_map.mp hx
  have hi' := List.mem_range.mp hi
  refine ⟨i + 1, by omega, by omega, ?_⟩
  have f := ifermat (a := ((i + 1 : Nat) : Int)) h fun d => by
    have := Int.le_of_dvd (by omega) d; omega
  have e : p - 1 = m + m := by omega
  rw [e, Int.pow_add] at f
  have : (p : Int) ∣ (((i + 1 : Nat) : Int) ^ m - 1) * (((i + 1 : Nat) : Int) ^ m + 1) := by
    have e2 : (((i + 1 : Nat) : Int) ^ m - 1) * (((i + 1 : Nat) : Int) ^ m + 1) = ((i + 1 : Nat) : Int) ^ m * ((i + 1 : Nat) : Int) ^ m - 1 := by grind
    rw [e2]; exact f
  rcases h.idvd this with d | d
  · exact absurd d n
  · exact d

/-! ### sums of two squares -/
/-- a prime that leaves 3 by 4 divides x x + y y only by dividing both -/
theorem dvd_two {p : Nat} {x y : Int} (h : Pr p) (h3 : p % 4 = 3) (d : (p : Int) ∣ x * x + y * y) : (p : Int) ∣ x ∧ (p : Int) ∣ y := by
  have key : (p : Int) ∣ x := by
    by_cases n : (p : Int) ∣ x
    · exact n
    exfalso
    have ny : ¬ (p : Int) ∣ y := fun e => n (by
      have : (p : Int) ∣ x * x := by
        have e2 : x * x = (x * x + y * y) - y * y := by omega
        rw [e2]; exact Int.dvd_sub d (Int.dvd_mul_of_dvd_left e)
      rcases h.idvd this with z | z <;> exact z)
    obtain ⟨m, hm⟩ : ∃ m, p = 2 * (2 * m + 1) + 1 := ⟨p / 4, by omega⟩
    have f1 := ifermat h n
    have f2 := ifermat h ny
    have e : p - 1 = 2 * (2 * m + 1) := by omega
    rw [e, Int.pow_mul] at f1 f2
    have e3 : ∀ z : Int, z ^ 2 = z * z := fun z => by grind
    rw [e3] at f1 f2
    -- (xx)^(2m+1) + (yy)^(2m+1) is divided
    have g : ∀ k : Nat, (p : Int) ∣ (x * x) ^ (2 * k + 1) + (y * y) ^ (2 * k + 1) := fun k => by
      refine Int.dvd_trans d ?_
      exact odd_sum _ _ k
    have s := Int.dvd_sub (g m) (Int.dvd_add f1 f2)
    have e4 : (x * x) ^ (2 * m + 1) + (y * y) ^ (2 * m + 1) - ((x * x) ^ (2 * m + 1) - 1 + ((y * y) ^ (2 * m + 1) - 1)) = 2 := by omega
    rw [e4] at s
    have := Int.le_of_dvd (by decide) s
    have := h.1
    omega
  refine ⟨key, ?_⟩
  have : (p : Int) ∣ y * y := by
    have e2 : y * y = (x * x + y * y) - x * x := by omega
    rw [e2]; exact Int.dvd_sub d (Int.dvd_mul_of_dvd_left key)
  rcases h.idvd this with z | z <;> exact z
/-- p^e m, e odd, p no divisor of m, p leaves 3 by 4: no sum of two squares -/
theorem not_two {p m : Nat} (h : Pr p) (h3 : p % 4 = 3) (hm : ¬ p ∣ m) : ∀ (e : Nat) (x y : Int), e % 2 = 1 → x * x + y * y ≠ ((p ^ e * m : Nat) : Int)
  | 0, _, _, o => absurd o (by decide)
  | 1, x, y, _ => fun z => by
    obtain ⟨⟨a, ha⟩, ⟨b, hb⟩⟩ := dvd_two (x := x) (y := y) h h3 (by rw [z]; exact Int.natCast_dvd_natCast.mpr ⟨m, by rw [Nat.pow_one]⟩)
    have p0 : (p : Int) ≠ 0 := by have := h.1; omega
    have e : (p : Int) * (p * (a * a + b * b)) = p * m := by
      rw [Nat.pow_one, Int.natCast_mul] at z
      rw [← z, ha, hb]; grind
    have e2 := Int.eq_of_mul_eq_mul_left p0 e
    exact hm (Int.natCast_dvd_natCast.mp ⟨_, e2.symm⟩)
  | e + 2, x, y, o => fun z => by
    obtain ⟨⟨a, ha⟩, ⟨b, hb⟩⟩ := dvd_two (x := x) (y := y) h h3 (by rw [z]; exact Int.natCast_dvd_natCast.mpr ⟨p ^ (e + 1) * m, by rw [Nat.pow_succ]; grind⟩)
    have p0 : (p : Int) * p ≠ 0 := by
      have := h.1
      exact Int.mul_ne_zero (by omega) (by omega)
    have e3 : (p : Int) * p * (a * a + b * b) = p * p * ((p ^ e * m : Nat) : Int) := by
      have e4 : p ^ (e + 2) * m = p * p * (p ^ e * m) := by rw [Nat.pow_add]; grind
      rw [e4, Int.natCast_mul, Int.natCast_mul] at z
      rw [← z, ha, hb]; grind
    exact not_two h h3 hm e a b (by omega) (Int.eq_of_mul_eq_mul_left p0 e3)
end NT

set_option linter.all false
set_option maxRecDepth 100000
/-! Plain number theory, part B: a prime as two squares by Euclid's steps; factors; three squares. -/
namespace NT
/-! ### Euclid's steps at (p, r), r r = -1 -/
structure Cn (p a b u t : Int) : Prop where
  e : a * t + b * u = p
  d1 : p ∣ a * a + u * u
  d2 : p ∣ b * b + t * t
  d3 : p ∣ a * b - t * u
  hb : 0 ≤ b
  ba : b < a
  hu : 0 ≤ u
  ut : u ≤ t
  t1 : 1 ≤ t
  aa : p < a * a
theorem Cn.start {p r : Int} (h : 2 ≤ p) (h0 : 0 ≤ r) (hr : r < p) (d : p ∣ r * r + 1) : Cn p p r 0 1 where
  e := by omega
  d1 := ⟨p, by omega⟩
  d2 := by simpa using d
  d3 := ⟨r, by omega⟩
  hb := h0
  ba := hr
  hu := by omega
  ut := by omega
  t1 := by omega
  aa := by have := Int.mul_lt_mul_of_pos_left (show (1 : Int) < p by omega) (show 0 < p by omega); omega
theorem Cn.step {p a b u t : Int} (c : Cn p a b u t) (hp : 0 ≤ p) (h : p < b * b) : Cn p b (a % b) t (u + a / b * t) := by
  have hb : 0 < b := by
    rcases Int.lt_or_le 0 b with z | z
    · exact z
    · have : b = 0 := by have := c.hb; omega
      subst this; omega
  have e1 := Int.mul_ediv_add_emod a b
  have q1 : 1 ≤ a / b := (Int.le_ediv_iff_mul_le hb).mpr (by have := c.ba; omega)
  generalize a / b = q at *
  have m0 := Int.emod_nonneg a (show b ≠ 0 by omega)
  have m1 := Int.emod_lt_of_pos a hb
  generalize a % b = m at *
  obtain rfl : m = a - b * q := by omega
  have tq : t ≤ q * t := by
    have := Int.mul_le_mul_of_nonneg_right q1 (show 0 ≤ t by have := c.t1; omega)
    omega
  have hu := c.hu; have t1 := c.t1
  refine ⟨?_, c.d2, ?_, ?_, m0, m1, by omega, by omega, by omega, h⟩
  · have := c.e; grind
  · have e2 : (a - b * q) * (a - b * q) + (u + q * t) * (u + q * t) = (a * a + u * u) - (a * b - t * u) * (2 * q) + (b * b + t * t) * (q * q) := by grind
    rw [e2]
    exact Int.dvd_add (Int.dvd_sub c.d1 (Int.dvd_mul_of_dvd_left c.d3)) (Int.dvd_mul_of_dvd_left c.d2)
  · have e2 : b * (a - b * q) - (u + q * t) * t = (a * b - t * u) - (b * b + t * t) * q := by grind
    rw [e2]
    exact Int.dvd_sub c.d3 (Int.dvd_mul_of_dvd_left c.d2)
theorem cop_dvd {p : Nat} {b t x : Int} (h : Pr p) (e : b * b + t * t = p) (hb : 0 < b) (ht : 0 < t) (d : b ∣ t * x) : b ∣ x := by
  have g : Int.gcd b t = 1 := by
    have g1 : (Int.gcd b t : Int) ∣ b := Int.gcd_dvd_left ..
    have g2 : (Int.gcd b t : Int) ∣ t := Int.gcd_dvd_right ..
    have g3 : (Int.gcd b t : Int) ∣ p := by rw [← e]; exact Int.dvd_add (Int.dvd_mul_of_dvd_left g1) (Int.dvd_mul_of_dvd_left g2)
    rcases h.2 _ (Int.natCast_dvd_natCast.mp g3) with z | z
    · exact z
    · exfalso
      rw [z] at g1
      have h1 := Int.le_of_dvd hb g1
      have p2 := h.1
      have h2 : (p : Int) * 1 ≤ p * p := Int.mul_le_mul_of_nonneg_left (by omega) (by omega)
      have h3 : (p : Int) * p ≤ b * b := Int.mul_le_mul h1 h1 (by omega) (by omega)
      have h4 : 0 < t * t := Int.mul_pos ht ht
      omega
  have d' := Int.natAbs_dvd_natAbs.mpr d
  rw [Int.natAbs_mul] at d'
  have g' : Nat.Coprime b.natAbs t.natAbs := g
  exact Int.natAbs_dvd_natAbs.mp (g'.dvd_of_dvd_mul_left d')
theorem Cn.fin {p : Nat} {a b u t : Int} (c : Cn p a b u t) (h : Pr p) (h2 : p ≠ 2) (hb2 : b * b ≤ p) : b * b + t * t = p ∧ a % b = t ∧ 0 < b ∧ 0 < t := by
  have p2 := h.1
  have hb := c.hb; have t1 := c.t1; have hu := c.hu; have ut := c.ut; have ba := c.ba; have aa := c.aa
  have bu : 0 ≤ b * u := Int.mul_nonneg hb hu
  have at_ : a * t ≤ p := by have := c.e; omega
  have ta : t < a := by
    rcases Int.lt_or_le t a with z | z
    · exact z
    · have := Int.mul_le_mul_of_nonneg_left z (show 0 ≤ a by omega)
      omega
  have tt : t * t < p := by
    have : t * t < a * t := Int.mul_lt_mul_of_pos_right ta (by omega)
    omega
  have tp : 0 < t * t := Int.mul_pos (by omega) (by omega)
  have e : b * b + t * t = p := by
    obtain ⟨k, hk⟩ := c.d2
    have b0 : 0 ≤ b * b := Int.mul_nonneg hb hb
    have k1 : k = 1 := by
      rcases Int.lt_or_le k 1 with z | z
      · have : (p : Int) * k ≤ p * 0 := Int.mul_le_mul_of_nonneg_left (by omega) (by omega)
        omega
      · rcases Int.lt_or_le 1 k with y | y
        · have : (p : Int) * 2 ≤ p * k := Int.mul_le_mul_of_nonneg_left (by omega) (by omega)
          omega
        · omega
    rw [k1] at hk; omega
  have b0 : 0 < b := by
    rcases Int.lt_or_le 0 b with z | z
    · exact z
    · exfalso
      have : b = 0 := by omega
      subst this
      have e1 : (t.toNat * t.toNat : Nat) = p := by
        have : ((t.toNat : Nat) : Int) = t := Int.toNat_of_nonneg (by omega)
        have z : ((t.toNat * t.toNat : Nat) : Int) = (p : Int) := by rw [Int.natCast_mul, this]; omega
        exact Int.natCast_inj.mp z
      rcases h.2 t.toNat ⟨t.toNat, e1.symm⟩ with z | z
      · rw [z] at e1; omega
      · rw [z] at e1
        have : p * 2 ≤ p * p := Nat.mul_le_mul_left p p2
        omega
  have e2 : t * (a - t) = b * (b - u) := by
    have := c.e; grind
  have tb : t < b := by
    rcases Int.lt_or_le t b with z | z
    · exact z
    exfalso
    rcases Int.lt_or_le b t with y | y
    · have d : t ∣ b - u := cop_dvd h (by omega) (by omega) b0 ⟨a - t, e2.symm⟩
      by_cases z0 : b - u = 0
      · rw [z0, Int.mul_zero] at e2
        rcases Int.mul_eq_zero.mp e2 with q | q <;> omega
      · rcases Int.lt_or_le 0 (b - u) with q | q
        · have := Int.le_of_dvd q d; omega
        · have := Int.le_of_dvd (show 0 < -(b - u) by omega) (Int.dvd_neg.mpr d); omega
    · have : b = t := by omega
      subst this
      have d : b ∣ (p : Int) := ⟨2 * b, by grind⟩
      have d2 : b.toNat ∣ p := by
        have z : ((b.toNat : Nat) : Int) = b := Int.toNat_of_nonneg (by omega)
        exact Int.natCast_dvd_natCast.mp (by rw [z]; exact d)
      rcases h.2 _ d2 with q | q
      · have : b = 1 := by omega
        subst this; omega
      · have e3 : b = p := by omega
        have e4 : b * 2 ≤ b * b := Int.mul_le_mul_of_nonneg_left (by omega) (by omega)
        omega
  refine ⟨e, ?_, b0, by omega⟩
  have d : b ∣ a - t := cop_dvd h e b0 (by omega) ⟨b - u, e2⟩
  obtain ⟨k, hk⟩ := d
  have : a = t + b * k := by omega
  rw [this, Int.add_mul_emod_self_left, Int.emod_eq_of_lt (by omega) tb]

/-! ### factors -/
/-- n, with no prime divisor below lo, is the product of the powers -/
def FacL : Nat → Nat → List (Nat × Nat) → Prop
  | _, n, [] => n = 1
  | lo, n, (p, e) :: l => lo ≤ p ∧ Pr p ∧ 1 ≤ e ∧ ∃ m, n = p ^ e * m ∧ ¬ p ∣ m ∧ FacL (p + 1) m l
/-- no divisor from 2 on below p -/
def NoD (n p : Nat) : Prop := ∀ d, 2 ≤ d → d < p → ¬ d ∣ n
theorem NoD.pr {n p : Nat} (h : NoD n p) (h2 : 2 ≤ n) (hp : n < p * p) : Pr n := pr_of h2 fun d h1 h2 => by
  refine h d h1 ?_
  rcases Nat.lt_or_ge d p with z | z
  · exact z
  · have := Nat.mul_le_mul z z; omega
theorem NoD.pr_dvd {n p : Nat} (h : NoD n p) (h2 : 2 ≤ p) (d : p ∣ n) : Pr p := ⟨h2, fun e he => by
  by_cases z : e = 1
  · exact .inl z
  · right
    have le := Nat.le_of_dvd (by omega) he
    rcases Nat.lt_or_ge e p with y | y
    · exact absurd (Nat.dvd_trans he d) (h e (by
        rcases Nat.eq_zero_or_pos e with q | q
        · subst q; have := Nat.eq_zero_of_zero_dvd he; omega
        · omega) y)
    · omega⟩
theorem NoD.div {n m p : Nat} (h : NoD n p) (d : m ∣ n) : NoD m p := fun x h1 h2 h3 => h x h1 h2 (Nat.dvd_trans h3 d)
theorem NoD.succ {n p : Nat} (h : NoD n p) (d : ¬ p ∣ n) : NoD n (p + 1) := fun x h1 h2 h3 => by
  rcases Nat.lt_or_ge x p with y | y
  · exact h x h1 y h3
  · have : x = p := by omega
    exact d (this ▸ h3)
theorem FacL.le {l : List (Nat × Nat)} : ∀ {lo lo' n : Nat}, lo' ≤ lo → FacL lo n l → FacL lo' n l := by
  cases l with
  | nil => exact fun _ h => h
  | cons a l => exact fun k ⟨h1, h2⟩ => ⟨by omega, h2⟩
end NT

set_option maxRecDepth 100000
namespace NT
/-- the bits of the sums with one more square, up to k k -/
def orS (S : Nat) : Nat → Nat
  | 0 => S
  | k + 1 => orS S k ||| (S <<< ((k + 1) * (k + 1)))
theorem orS_mem (S : Nat) : ∀ (k n : Nat), (orS S k).testBit n = true → ∃ x : Nat, x ≤ k ∧ x * x ≤ n ∧ S.testBit (n - x * x) = true
  | 0, n, h => ⟨0, Nat.le_refl 0, by omega, by rw [orS] at h; simpa using h⟩
  | k + 1, n, h => by
    rw [orS, Nat.testBit_or] at h
    rcases Bool.or_eq_true_iff.mp h with h | h
    · obtain ⟨x, h1, h2⟩ := orS_mem S k n h
      exact ⟨x, by omega, h2⟩
    · rw [Nat.testBit_shiftLeft] at h
      simp only [Bool.and_eq_true, decide_eq_true_eq] at h
      exact ⟨k + 1, by omega, h.1, h.2⟩
def three : Nat := orS (orS (orS 1 1003) 1003) 1003
/-- the numbers that are no sum of three, or divided by 4 -/
def mD : Nat → Nat
  | 0 => 0x91
  | j + 1 => mD j ||| (mD j <<< (8 * 2 ^ j))
theorem mD_mem : ∀ (j n : Nat), (mD j).testBit n = true → n % 8 = 0 ∨ n % 8 = 4 ∨ n % 8 = 7
  | 0, n, h => by
    rw [mD] at h
    rcases Nat.lt_or_ge n 8 with z | z
    · have : ∀ n : Fin 8, (0x91 : Nat).testBit n.1 = true → n.1 % 8 = 0 ∨ n.1 % 8 = 4 ∨ n.1 % 8 = 7 := by decide
      exact this ⟨n, z⟩ h
    · rw [Nat.testBit_lt_two_pow (Nat.lt_of_lt_of_le (by decide : 0x91 < 2 ^ 8) (Nat.pow_le_pow_right (by decide) z))] at h
      cases h
  | j + 1, n, h => by
    rw [mD, Nat.testBit_or] at h
    rcases Bool.or_eq_true_iff.mp h with h | h
    · exact mD_mem j n h
    · rw [Nat.testBit_shiftLeft] at h
      simp only [Bool.and_eq_true, decide_eq_true_eq] at h
      have := mD_mem j _ h.2
      have h1 := h.1
      generalize 2 ^ j = w at *
      omega
theorem three_all : (three ||| mD 17) % 2 ^ 1006992 = 2 ^ 1006992 - 1 := by decide +kernel
theorem three_nat {n : Nat} (hn : n < 1006992) (h4 : n % 4 ≠ 0) (h7 : n % 8 ≠ 7) : ∃ x y z : Nat, x * x + y * y + z * z = n := by
  have e := congrArg (Nat.testBit · n) three_all
  simp only [Nat.testBit_mod_two_pow, Nat.testBit_two_pow_sub_one, decide_eq_true hn, Bool.true_and, Nat.testBit_or] at e
  rcases Bool.or_eq_true_iff.mp e with e | e
  · obtain ⟨x, _, h1, e1⟩ := orS_mem _ _ _ e
    obtain ⟨y, _, h2, e2⟩ := orS_mem _ _ _ e1
    obtain ⟨z, _, h3, e3⟩ := orS_mem _ _ _ e2
    have : n - x * x - y * y - z * z = 0 := by
      generalize n - x * x - y * y - z * z = w at e3
      cases w with
      | zero => rfl
      | succ w => rw [Nat.testBit_one_eq_true_iff_self_eq_zero] at e3; exact e3
    exact ⟨x, y, z, by omega⟩
  · have := mD_mem _ _ e; omega
/-- 4^a (8 b + 7) is no sum of three squares -/
theorem not_three (b : Int) (hb : 0 ≤ b) : ∀ (a : Nat) (x y z : Int), x * x + y * y + z * z ≠ 4 ^ a * (8 * b + 7)
  | 0, x, y, z => fun e => by
    rw [Int.pow_zero, Int.one_mul] at e
    have sq : ∀ w : Int, w * w % 8 = 0 ∨ w * w % 8 = 1 ∨ w * w % 8 = 4 := fun w => by
      have h : w % 8 = 0 ∨ w % 8 = 1 ∨ w % 8 = 2 ∨ w % 8 = 3 ∨ w % 8 = 4 ∨ w % 8 = 5 ∨ w % 8 = 6 ∨ w % 8 = 7 := by omega
      rw [Int.mul_emod]
      rcases h with h | h | h | h | h | h | h | h <;> rw [h] <;> decide
    have := sq x; have := sq y; have := sq z
    omega
  | a + 1, x, y, z => fun e => by
    have sq : ∀ w : Int, (w * w % 4 = 0 ∧ w % 2 = 0) ∨ w * w % 4 = 1 := fun w => by
      have h : w % 4 = 0 ∨ w % 4 = 1 ∨ w % 4 = 2 ∨ w % 4 = 3 := by omega
      rw [Int.mul_emod]
      rcases h with h | h | h | h <;> rw [h] <;> first | (left; constructor; decide; omega) | (right; decide)
    have e4 : (x * x + y * y + z * z) % 4 = 0 := by
      rw [e, Int.pow_succ]
      have e5 : (4 : Int) ^ a * 4 * (8 * b + 7) = 4 * (4 ^ a * (8 * b + 7)) := by grind
      rw [e5]; omega
    have h1 := sq x; have h2 := sq y; have h3 := sq z
    have ex : x = 2 * (x / 2) := by omega
    have ey : y = 2 * (y / 2) := by omega
    have ez : z = 2 * (z / 2) := by omega
    refine not_three b hb a (x / 2) (y / 2) (z / 2) ?_
    rw [ex, ey, ez, Int.pow_succ] at e
    grind
end NT

set_option linter.all false
set_option maxRecDepth 100000
/-! Plain law of whole quaternions, by doubled coordinates. -/
namespace NQ
structure Qn where
  a : Int
  b : Int
  c : Int
  d : Int
  deriving DecidableEq
theorem ext {x y : Qn} (h1 : x.a = y.a) (h2 : x.b = y.b) (h3 : x.c = y.c) (h4 : x.d = y.d) : x = y := by cases x; cases y; simp_all
def P (x y : Qn) : Qn := ⟨x.a * y.a - x.b * y.b - x.c * y.c - x.d * y.d, x.a * y.b + x.b * y.a + x.c * y.d - x.d * y.c, x.a * y.c - x.b * y.d + x.c * y.a + x.d * y.b, x.a * y.d + x.b * y.c - x.c * y.b + x.d * y.a⟩
def mul (x y : Qn) : Qn := ⟨(P x y).a / 2, (P x y).b / 2, (P x y).c / 2, (P x y).d / 2⟩
def conj (x : Qn) : Qn := ⟨x.a, 0 - x.b, 0 - x.c, 0 - x.d⟩
def sq (x : Qn) : Int := x.a * x.a + x.b * x.b + x.c * x.c + x.d * x.d
def nm (x : Qn) : Int := sq x / 4
def Wh (x : Qn) : Prop := x.a % 2 = x.b % 2 ∧ x.b % 2 = x.c % 2 ∧ x.c % 2 = x.d % 2
instance (x : Qn) : Decidable (Wh x) := inferInstanceAs (Decidable (_ ∧ _))
def smul (k : Int) (x : Qn) : Qn := ⟨k * x.a, k * x.b, k * x.c, k * x.d⟩
def sub (x y : Qn) : Qn := ⟨x.a - y.a, x.b - y.b, x.c - y.c, x.d - y.d⟩
def add (x y : Qn) : Qn := ⟨x.a + y.a, x.b + y.b, x.c + y.c, x.d + y.d⟩
def zero : Qn := ⟨0, 0, 0, 0⟩
def rq (n : Int) : Qn := ⟨2 * n, 0, 0, 0⟩
theorem smul_inj {k : Int} (hk : k ≠ 0) {x y : Qn} (h : smul k x = smul k y) : x = y := by
  have h1 := congrArg Qn.a h; have h2 := congrArg Qn.b h; have h3 := congrArg Qn.c h; have h4 := congrArg Qn.d h
  exact ext (Int.eq_of_mul_eq_mul_left hk h1) (Int.eq_of_mul_eq_mul_left hk h2) (Int.eq_of_mul_eq_mul_left hk h3) (Int.eq_of_mul_eq_mul_left hk h4)
theorem smul_smul (k j : Int) (x : Qn) : smul k (smul j x) = smul (k * j) x := by unfold smul; simp only [Int.mul_assoc]
theorem P_smul (k : Int) (x y : Qn) : P (smul k x) y = smul k (P x y) := by refine ext ?_ ?_ ?_ ?_ <;> simp only [P, smul] <;> grind
theorem P_smulR (k : Int) (x y : Qn) : P x (smul k y) = smul k (P x y) := by refine ext ?_ ?_ ?_ ?_ <;> simp only [P, smul] <;> grind
theorem P_assoc (x y z : Qn) : P (P x y) z = P x (P y z) := by refine ext ?_ ?_ ?_ ?_ <;> simp only [P] <;> grind
theorem sq_P (x y : Qn) : sq (P x y) = sq x * sq y := by simp only [P, sq]; grind
theorem P_sub (x y z : Qn) : P (sub x y) z = sub (P x z) (P y z) := by refine ext ?_ ?_ ?_ ?_ <;> simp only [P, sub] <;> grind
theorem P_add (x y z : Qn) : P (add x y) z = add (P x z) (P y z) := by refine ext ?_ ?_ ?_ ?_ <;> simp only [P, add] <;> grind
theorem P_conj (x : Qn) : P x (conj x) = ⟨sq x, 0, 0, 0⟩ := by refine ext ?_ ?_ ?_ ?_ <;> simp only [P, conj, sq] <;> grind
theorem P_conjL (x : Qn) : P (conj x) x = ⟨sq x, 0, 0, 0⟩ := by refine ext ?_ ?_ ?_ ?_ <;> simp only [P, conj, sq] <;> grind
theorem smul_sub (k : Int) (x y : Qn) : smul k (sub x y) = sub (smul k x) (smul k y) := by refine ext ?_ ?_ ?_ ?_ <;> simp only [smul, sub] <;> grind
theorem smul_add (k : Int) (x y : Qn) : smul k (add x y) = add (smul k x) (smul k y) := by refine ext ?_ ?_ ?_ ?_ <;> simp only [smul, add] <;> grind
/-- halves -/
theorem halves {x y : Qn} (hx : Wh x) (hy : Wh y) : ∃ (s t a b c d e f g h : Int), (s = 0 ∨ s = 1) ∧ (t = 0 ∨ t = 1) ∧ x = ⟨2 * a + s, 2 * b + s, 2 * c + s, 2 * d + s⟩ ∧ y = ⟨2 * e + t, 2 * f + t, 2 * g + t, 2 * h + t⟩ := by
  obtain ⟨h1, h2, h3⟩ := hx
  obtain ⟨k1, k2, k3⟩ := hy
  refine ⟨x.a % 2, y.a % 2, x.a / 2, x.b / 2, x.c / 2, x.d / 2, y.a / 2, y.b / 2, y.c / 2, y.d / 2, by omega, by omega, ext ?_ ?_ ?_ ?_, ext ?_ ?_ ?_ ?_⟩ <;> dsimp only <;> omega
theorem mul_ok {x y : Qn} (hx : Wh x) (hy : Wh y) : smul 2 (mul x y) = P x y ∧ Wh (mul x y) := by
  obtain ⟨s, t, a, b, c, d, e, f, g, h, hs, ht, rfl, rfl⟩ := halves hx hy
  have e1 : (P ⟨2 * a + s, 2 * b + s, 2 * c + s, 2 * d + s⟩ ⟨2 * e + t, 2 * f + t, 2 * g + t, 2 * h + t⟩).a = 2 * (2 * (a * e - b * f - c * g - d * h) + t * (a - b - c - d) + s * (e - f - g - h) - s * t) := by simp only [P]; grind
  have e2 : (P ⟨2 * a + s, 2 * b + s, 2 * c + s, 2 * d + s⟩ ⟨2 * e + t, 2 * f + t, 2 * g + t, 2 * h + t⟩).b = 2 * (2 * (a * f + b * e + c * h - d * g) + t * (a + b + c - d) + s * (f + e + h - g) + s * t) := by simp only [P]; grind
  have e3 : (P ⟨2 * a + s, 2 * b + s, 2 * c + s, 2 * d + s⟩ ⟨2 * e + t, 2 * f + t, 2 * g + t, 2 * h + t⟩).c = 2 * (2 * (a * g - b * h + c * e + d * f) + t * (a - b + c + d) + s * (g - h + e + f) + s * t) := by simp only [P]; grind
  have e4 : (P ⟨2 * a + s, 2 * b + s, 2 * c + s, 2 * d + s⟩ ⟨2 * e + t, 2 * f + t, 2 * g + t, 2 * h + t⟩).d = 2 * (2 * (a * h + b * g - c * f + d * e) + t * (a + b - c + d) + s * (h + g - f + e) + s * t) := by simp only [P]; grind
  constructor
  · refine ext ?_ ?_ ?_ ?_ <;> simp only [smul, mul]
    · rw [e1]; omega
    · rw [e2]; omega
    · rw [e3]; omega
    · rw [e4]; omega
  · simp only [Wh, mul, e1, e2, e3, e4]
    generalize a * e - b * f - c * g - d * h = X1
    generalize a * f + b * e + c * h - d * g = X2
    generalize a * g - b * h + c * e + d * f = X3
    generalize a * h + b * g - c * f + d * e = X4
    rcases hs with rfl | rfl <;> rcases ht with rfl | rfl <;> omega
theorem mul2 {x y : Qn} (hx : Wh x) (hy : Wh y) : smul 2 (mul x y) = P x y := (mul_ok hx hy).1
theorem wh_mul {x y : Qn} (hx : Wh x) (hy : Wh y) : Wh (mul x y) := (mul_ok hx hy).2
theorem wh_conj {x : Qn} (hx : Wh x) : Wh (conj x) := by
  obtain ⟨h1, h2, h3⟩ := hx
  refine ⟨?_, ?_, ?_⟩ <;> simp only [conj] <;> omega
theorem wh_sub {x y : Qn} (hx : Wh x) (hy : Wh y) : Wh (sub x y) := by
  obtain ⟨h1, h2, h3⟩ := hx
  obtain ⟨k1, k2, k3⟩ := hy
  refine ⟨?_, ?_, ?_⟩ <;> simp only [sub] <;> omega
theorem wh_add {x y : Qn} (hx : Wh x) (hy : Wh y) : Wh (add x y) := by
  obtain ⟨h1, h2, h3⟩ := hx
  obtain ⟨k1, k2, k3⟩ := hy
  refine ⟨?_, ?_, ?_⟩ <;> simp only [add] <;> omega
theorem wh_rq (n : Int) : Wh (rq n) := by refine ⟨?_, ?_, ?_⟩ <;> simp only [rq] <;> omega
theorem sq4 {x : Qn} (hx : Wh x) : sq x = 4 * nm x := by
  obtain ⟨s, t, a, b, c, d, e, f, g, h, hs, ht, rfl, _⟩ := halves hx hx
  have e1 : sq ⟨2 * a + s, 2 * b + s, 2 * c + s, 2 * d + s⟩ = 4 * (a * a + b * b + c * c + d * d + s * (a + b + c + d) + s * s) := by simp only [sq]; grind
  unfold nm
  rw [e1]; omega
theorem sq0 (x : Qn) : 0 ≤ sq x := by
  have h : ∀ z : Int, 0 ≤ z * z := fun z => by
    rcases Int.lt_or_le z 0 with c | c
    · exact Int.mul_nonneg_of_nonpos_of_nonpos (by omega) (by omega)
    · exact Int.mul_nonneg c c
  have := h x.a; have := h x.b; have := h x.c; have := h x.d
  unfold sq; omega
theorem nm0 (x : Qn) : 0 ≤ nm x := by have := sq0 x; unfold nm; omega
theorem sq_zero {x : Qn} (h : sq x = 0) : x = zero := by
  have q : ∀ z : Int, 0 ≤ z * z ∧ (z * z = 0 → z = 0) := fun z => by
    refine ⟨?_, fun e => by rcases Int.mul_eq_zero.mp e with e | e <;> exact e⟩
    rcases Int.lt_or_le z 0 with c | c
    · exact Int.mul_nonneg_of_nonpos_of_nonpos (by omega) (by omega)
    · exact Int.mul_nonneg c c
  unfold sq at h
  have h1 := q x.a; have h2 := q x.b; have h3 := q x.c; have h4 := q x.d
  exact ext (h1.2 (by omega)) (h2.2 (by omega)) (h3.2 (by omega)) (h4.2 (by omega))
theorem nm_zero {x : Qn} (hx : Wh x) (h : nm x = 0) : x = zero := sq_zero (by rw [sq4 hx, h]; rfl)
theorem nm_pos {x : Qn} (hx : Wh x) (h : x ≠ zero) : 0 < nm x := by
  have := nm0 x
  rcases Int.lt_or_eq_of_le this with c | c
  · exact c
  · exact absurd (nm_zero hx c.symm) h
theorem sq_smul (k : Int) (x : Qn) : sq (smul k x) = k * k * sq x := by simp only [sq, smul]; grind
theorem nm_mul {x y : Qn} (hx : Wh x) (hy : Wh y) : nm (mul x y) = nm x * nm y := by
  have e := congrArg sq (mul2 hx hy)
  rw [sq_smul, sq_P, sq4 hx, sq4 hy, sq4 (wh_mul hx hy)] at e
  have e2 : (16 : Int) * nm (mul x y) = 16 * (nm x * nm y) := by grind
  omega
theorem nm_conj (x : Qn) : nm (conj x) = nm x := by
  have : sq (conj x) = sq x := by simp only [sq, conj]; grind
  unfold nm; rw [this]
theorem mul_assoc {x y z : Qn} (hx : Wh x) (hy : Wh y) (hz : Wh z) : mul (mul x y) z = mul x (mul y z) := by
  refine smul_inj (k := 4) (by decide) ?_
  have a1 : smul 4 (mul (mul x y) z) = smul 2 (smul 2 (mul (mul x y) z)) := by rw [smul_smul]; rfl
  have a2 : smul 4 (mul x (mul y z)) = smul 2 (smul 2 (mul x (mul y z))) := by rw [smul_smul]; rfl
  rw [a1, a2, mul2 (wh_mul hx hy) hz, mul2 hx (wh_mul hy hz), ← P_smul, ← P_smulR, mul2 hx hy, mul2 hy hz, P_assoc]
theorem mul_sub {x y z : Qn} (hx : Wh x) (hy : Wh y) (hz : Wh z) : mul (sub x y) z = sub (mul x z) (mul y z) := by
  refine smul_inj (k := 2) (by decide) ?_
  rw [mul2 (wh_sub hx hy) hz, smul_sub, mul2 hx hz, mul2 hy hz, P_sub]
theorem mul_add {x y z : Qn} (hx : Wh x) (hy : Wh y) (hz : Wh z) : mul (add x y) z = add (mul x z) (mul y z) := by
  refine smul_inj (k := 2) (by decide) ?_
  rw [mul2 (wh_add hx hy) hz, smul_add, mul2 hx hz, mul2 hy hz, P_add]
theorem mul_conj {x : Qn} (hx : Wh x) : mul x (conj x) = rq (nm x) := by
  refine smul_inj (k := 2) (by decide) ?_
  rw [mul2 hx (wh_conj hx), P_conj, sq4 hx]
  refine ext ?_ ?_ ?_ ?_ <;> simp only [smul, rq] <;> omega
theorem mul_conjL {x : Qn} (hx : Wh x) : mul (conj x) x = rq (nm x) := by
  refine smul_inj (k := 2) (by decide) ?_
  rw [mul2 (wh_conj hx) hx, P_conjL, sq4 hx]
  refine ext ?_ ?_ ?_ ?_ <;> simp only [smul, rq] <;> omega
theorem mul_rq (x : Qn) (n : Int) : mul x (rq n) = smul n x := by
  have e : P x (rq n) = smul 2 (smul n x) := by refine ext ?_ ?_ ?_ ?_ <;> simp only [P, rq, smul] <;> grind
  refine ext ?_ ?_ ?_ ?_ <;> simp only [mul, e, smul] <;> omega
theorem rq_mul (x : Qn) (n : Int) : mul (rq n) x = smul n x := by
  have e : P (rq n) x = smul 2 (smul n x) := by refine ext ?_ ?_ ?_ ?_ <;> simp only [P, rq, smul] <;> grind
  refine ext ?_ ?_ ?_ ?_ <;> simp only [mul, e, smul] <;> omega
theorem conj_conj (x : Qn) : conj (conj x) = x := by refine ext ?_ ?_ ?_ ?_ <;> simp only [conj] <;> omega
theorem smul_one (x : Qn) : smul 1 x = x := by refine ext ?_ ?_ ?_ ?_ <;> simp only [smul] <;> omega
theorem conj_smul (k : Int) (x : Qn) : conj (smul k x) = smul k (conj x) := by refine ext ?_ ?_ ?_ ?_ <;> simp only [conj, smul] <;> grind
theorem sub_add (x y : Qn) : add (sub x y) y = x := by refine ext ?_ ?_ ?_ ?_ <;> simp only [add, sub] <;> omega
theorem mul_cancel {x y z : Qn} (hx : Wh x) (hy : Wh y) (hz : Wh z) (h0 : z ≠ zero) (e : mul x z = mul y z) : x = y := by
  have e2 : mul (mul x z) (conj z) = mul (mul y z) (conj z) := congrArg (fun t => mul t (conj z)) e
  rw [mul_assoc hx hz (wh_conj hz), mul_assoc hy hz (wh_conj hz), mul_conj hz, mul_rq, mul_rq] at e2
  exact smul_inj (by have := nm_pos hz h0; omega) e2

theorem P_addR (x y z : Qn) : P x (add y z) = add (P x y) (P x z) := by refine ext ?_ ?_ ?_ ?_ <;> simp only [P, add] <;> grind
theorem mul_addR {x y z : Qn} (hx : Wh x) (hy : Wh y) (hz : Wh z) : mul x (add y z) = add (mul x y) (mul x z) := by
  refine smul_inj (k := 2) (by decide) ?_
  rw [mul2 hx (wh_add hy hz), smul_add, mul2 hx hy, mul2 hx hz, P_addR]
theorem nm_sub_le {x y : Qn} (hx : Wh x) (hy : Wh y) : nm (sub x y) ≤ 2 * nm x + 2 * nm y := by
  have e1 := sq4 hx; have e2 := sq4 hy; have e3 := sq4 (wh_sub hx hy)
  have q := sq0 (add x y)
  have e : sq (sub x y) + sq (add x y) = 2 * sq x + 2 * sq y := by simp only [sq, sub, add]; grind
  omega
theorem sub_sub (x z : Qn) : sub x (sub x z) = z := by refine ext ?_ ?_ ?_ ?_ <;> simp only [sub] <;> omega
theorem comb_step {t u1 v1 u2 v2 x y : Qn} (ht : Wh t) (h1 : Wh u1) (h2 : Wh v1) (h3 : Wh u2) (h4 : Wh v2) (hx : Wh x) (hy : Wh y) :
    sub (add (mul u1 x) (mul v1 y)) (mul t (add (mul u2 x) (mul v2 y))) = add (mul (sub u1 (mul t u2)) x) (mul (sub v1 (mul t v2)) y) := by
  rw [mul_addR ht (wh_mul h3 hx) (wh_mul h4 hy), mul_sub h1 (wh_mul ht h3) hx, mul_sub h2 (wh_mul ht h4) hy, mul_assoc ht h3 hx, mul_assoc ht h4 hy]
  refine ext ?_ ?_ ?_ ?_ <;> simp only [sub, add] <;> omega
/-! ### right divisors -/
def RD (g x : Qn) : Prop := ∃ r, Wh r ∧ x = mul r g
theorem RD.comb {g x y u v : Qn} (hg : Wh g) (hu : Wh u) (hv : Wh v) (h1 : RD g x) (h2 : RD g y) : RD g (add (mul u x) (mul v y)) := by
  obtain ⟨r, hr, rfl⟩ := h1
  obtain ⟨s, hs, rfl⟩ := h2
  refine ⟨add (mul u r) (mul v s), wh_add (wh_mul hu hr) (wh_mul hv hs), ?_⟩
  rw [mul_add (wh_mul hu hr) (wh_mul hv hs) hg, mul_assoc hu hr hg, mul_assoc hv hs hg]
theorem rd_self {g : Qn} : RD g g := ⟨rq 1, wh_rq 1, by rw [rq_mul, smul_one]⟩
theorem rd_zero {g : Qn} (hg : Wh g) : RD g zero := ⟨zero, by decide, by refine ext ?_ ?_ ?_ ?_ <;> simp [mul, P, zero]⟩

/-! ### the nearest -/
def dist (n : Int) (x m : Qn) : Int := (n * x.a - m.a) * (n * x.a - m.a) + (n * x.b - m.b) * (n * x.b - m.b) + (n * x.c - m.c) * (n * x.c - m.c) + (n * x.d - m.d) * (n * x.d - m.d)
def evn (n : Int) (m : Qn) : Qn := ⟨2 * ((m.a + n) / (2 * n)), 2 * ((m.b + n) / (2 * n)), 2 * ((m.c + n) / (2 * n)), 2 * ((m.d + n) / (2 * n))⟩
def odn (n : Int) (m : Qn) : Qn := ⟨2 * (m.a / (2 * n)) + 1, 2 * (m.b / (2 * n)) + 1, 2 * (m.c / (2 * n)) + 1, 2 * (m.d / (2 * n)) + 1⟩
theorem near1 {n m : Int} (hn : 0 < n) : (n * (2 * ((m + n) / (2 * n))) - m) * (n * (2 * ((m + n) / (2 * n))) - m) + (n * (2 * (m / (2 * n)) + 1) - m) * (n * (2 * (m / (2 * n)) + 1) - m) ≤ n * n := by
  have e := Int.mul_ediv_add_emod m (2 * n)
  have r0 := Int.emod_nonneg m (show 2 * n ≠ 0 by omega)
  have r1 := Int.emod_lt_of_pos m (show 0 < 2 * n by omega)
  generalize m / (2 * n) = q at *
  generalize m % (2 * n) = r at *
  have do_ : n * (2 * q + 1) - m = n - r := by grind
  have key : ∀ t : Int, 0 ≤ t → t ≤ n → t * t + (n - t) * (n - t) ≤ n * n := fun t h1 h2 => by
    have : 0 ≤ t * (n - t) := Int.mul_nonneg h1 (by omega)
    have e3 : t * t + (n - t) * (n - t) = n * n - 2 * (t * (n - t)) := by grind
    omega
  rw [do_]
  rcases Int.lt_or_le r n with c | c
  · have : (m + n) / (2 * n) = q := by
      have e2 : m + n = r + n + (2 * n) * q := by omega
      rw [e2, Int.add_mul_ediv_left _ _ (by omega), Int.ediv_eq_zero_of_lt (by omega) (by omega)]; omega
    rw [this]
    have : n * (2 * q) - m = -r := by grind
    rw [this]
    have := key r r0 (by omega)
    have e3 : -r * -r = r * r := by grind
    omega
  · have : (m + n) / (2 * n) = q + 1 := by
      have e2 : m + n = r - n + (2 * n) * (q + 1) := by grind
      rw [e2, Int.add_mul_ediv_left _ _ (by omega), Int.ediv_eq_zero_of_lt (by omega) (by omega)]; omega
    rw [this]
    have : n * (2 * (q + 1)) - m = 2 * n - r := by grind
    rw [this]
    have := key (2 * n - r) (by omega) (by omega)
    have e3 : (n - (2 * n - r)) * (n - (2 * n - r)) = (n - r) * (n - r) := by grind
    omega
theorem near_sum {n : Int} (hn : 0 < n) (m : Qn) : dist n (evn n m) m + dist n (odn n m) m ≤ 4 * (n * n) := by
  have h1 := near1 (m := m.a) hn; have h2 := near1 (m := m.b) hn; have h3 := near1 (m := m.c) hn; have h4 := near1 (m := m.d) hn
  simp only [dist, evn, odn]; omega
theorem wh_evn (n : Int) (m : Qn) : Wh (evn n m) := by refine ⟨?_, ?_, ?_⟩ <;> simp only [evn] <;> omega
theorem wh_odn (n : Int) (m : Qn) : Wh (odn n m) := by refine ⟨?_, ?_, ?_⟩ <;> simp only [odn] <;> omega
theorem dist_sq (n : Int) (x m : Qn) : dist n x m = sq (sub (smul n x) m) := by simp only [dist, sq, sub, smul]
theorem dist0 {n : Int} (hn : 0 < n) {x r : Qn} (h : dist n x (smul n r) = 0) : x = r := by
  rw [dist_sq] at h
  have e := sq_zero h
  refine smul_inj (show n ≠ 0 by omega) ?_
  have h1 := congrArg Qn.a e; have h2 := congrArg Qn.b e; have h3 := congrArg Qn.c e; have h4 := congrArg Qn.d e
  refine ext ?_ ?_ ?_ ?_ <;> simp only [sub, smul, zero] at * <;> omega
/-- at a multiple one of the two is exact -/
theorem exact {n : Int} (hn : 0 < n) {r : Qn} (hr : Wh r) : evn n (smul n r) = r ∨ odn n (smul n r) = r := by
  obtain ⟨h1, h2, h3⟩ := hr
  have ev : ∀ k : Int, k % 2 = 0 → 2 * ((n * k + n) / (2 * n)) = k := fun k hk => by
    obtain ⟨j, rfl⟩ : ∃ j, k = 2 * j := ⟨k / 2, by omega⟩
    have e : n * (2 * j) + n = n + (2 * n) * j := by grind
    rw [e, Int.add_mul_ediv_left _ _ (by omega), Int.ediv_eq_zero_of_lt (by omega) (by omega)]; omega
  have od : ∀ k : Int, k % 2 = 1 → 2 * (n * k / (2 * n)) + 1 = k := fun k hk => by
    obtain ⟨j, rfl⟩ : ∃ j, k = 2 * j + 1 := ⟨k / 2, by omega⟩
    have e : n * (2 * j + 1) = n + (2 * n) * j := by grind
    rw [e, Int.add_mul_ediv_left _ _ (by omega), Int.ediv_eq_zero_of_lt (by omega) (by omega)]; omega
  rcases Int.emod_two_eq r.a with c | c
  · exact .inl (ext (ev _ c) (ev _ (by omega)) (ev _ (by omega)) (ev _ (by omega)))
  · exact .inr (ext (od _ c) (od _ (by omega)) (od _ (by omega)) (od _ (by omega)))
/-- the quotient that is nearest -/
def Near (n : Int) (m t : Qn) : Prop := Wh t ∧ dist n t m ≤ dist n (evn n m) m ∧ dist n t m ≤ dist n (odn n m) m
theorem near_div {x y t : Qn} (hx : Wh x) (hy : Wh y) (h0 : y ≠ zero) (h : Near (nm y) (mul x (conj y)) t) : nm (sub x (mul t y)) < nm y ∧ ∀ r, Wh r → x = mul r y → t = r := by
  obtain ⟨ht, h1, h2⟩ := h
  have n0 := nm_pos hy h0
  have s := near_sum n0 (mul x (conj y))
  constructor
  · have e1 : mul (sub x (mul t y)) (conj y) = sub (mul x (conj y)) (smul (nm y) t) := by
      rw [mul_sub hx (wh_mul ht hy) (wh_conj hy), mul_assoc ht hy (wh_conj hy), mul_conj hy, mul_rq]
    have wr := wh_sub hx (wh_mul ht hy)
    have e2 := nm_mul wr (wh_conj hy)
    rw [nm_conj, e1] at e2
    have e3 : sq (sub (mul x (conj y)) (smul (nm y) t)) = dist (nm y) t (mul x (conj y)) := by simp only [dist, sq, sub, smul]; grind
    have e4 := sq4 (wh_mul wr (wh_conj hy))
    rw [e1, e3, e2] at e4
    generalize nm y = n at *
    generalize nm (sub x (mul t y)) = k at *
    rcases Int.lt_or_le k n with c | c
    · exact c
    · have := Int.mul_le_mul_of_nonneg_right c (show 0 ≤ n by omega)
      have := Int.mul_pos n0 n0
      omega
  · intro r hr e
    have em : mul x (conj y) = smul (nm y) r := by rw [e, mul_assoc hr hy (wh_conj hy), mul_conj hy, mul_rq]
    rw [em] at h1 h2
    have z : dist (nm y) r (smul (nm y) r) = 0 := by simp only [dist, smul]; grind
    have d0 : 0 ≤ dist (nm y) t (smul (nm y) r) := by rw [dist_sq]; exact sq0 _
    refine dist0 n0 ?_
    rcases exact n0 hr with q | q
    · rw [q, z] at h1; omega
    · rw [q, z] at h2; omega
/-- the norm of a divisor that comes of p -/
theorem div_norm {p : Nat} (pr : NT.Pr p) {x g : Qn} (hx : Wh x) (hg : Wh g) (hp : (p : Int) ∣ nm x) (h1 : RD g x) (h2 : RD g (rq p)) {u v : Qn} (hu : Wh u) (hv : Wh v) (e : g = add (mul u x) (mul v (rq p))) (no : ¬ ∃ t, Wh t ∧ x = smul p t) : nm g = p := by
  have p2 := pr.1
  obtain ⟨s, hs, es⟩ := h2
  have en : nm s * nm g = p * p := by
    rw [← nm_mul hs hg, ← es]
    unfold nm; simp only [sq, rq]
    have : 2 * (p : Int) * (2 * p) + 0 * 0 + 0 * 0 + 0 * 0 = 4 * (p * p) := by grind
    rw [this]; omega
  have g0 := nm0 g
  have s0 := nm0 s
  -- the divisors of p p
  have dv : nm g = 1 ∨ nm g = p ∨ nm g = p * p := by
    by_cases d : (p : Int) ∣ nm g
    · obtain ⟨k, hk⟩ := d
      rw [hk] at en
      have en2 : nm s * k = p := by
        refine Int.eq_of_mul_eq_mul_left (show (p : Int) ≠ 0 by omega) ?_
        rw [← en]; grind
      have k0 : 0 ≤ k := by
        rcases Int.lt_or_le k 0 with c | c
        · have := Int.mul_le_mul_of_nonneg_left (show k ≤ -1 by omega) (show (0 : Int) ≤ p by omega)
          omega
        · exact c
      rcases pr.2 k.toNat (by
        have : (k.toNat : Int) ∣ (p : Int) := ⟨nm s, by rw [Int.toNat_of_nonneg k0, ← en2, Int.mul_comm]⟩
        exact Int.natCast_dvd_natCast.mp this) with c | c
      · right; left
        have : k = 1 := by omega
        rw [hk, this, Int.mul_one]
      · right; right
        have : k = p := by omega
        rw [hk, this]
    · left
      have d1 : (p : Int) ∣ nm s := by
        have : (p : Int) ∣ nm s * nm g := ⟨p, en⟩
        rcases pr.idvd this with c | c
        · exact c
        · exact absurd c d
      obtain ⟨k, hk⟩ := d1
      rw [hk] at en
      have en2 : k * nm g = p := by
        refine Int.eq_of_mul_eq_mul_left (show (p : Int) ≠ 0 by omega) ?_
        rw [← en]; grind
      rcases pr.2 (nm g).toNat (by
        have : ((nm g).toNat : Int) ∣ (p : Int) := ⟨k, by rw [Int.toNat_of_nonneg g0, ← en2, Int.mul_comm]⟩
        exact Int.natCast_dvd_natCast.mp this) with c | c
      · omega
      · exact absurd ⟨1, by omega⟩ d
  rcases dv with c | c | c
  · exfalso
    -- 1 = w x + w' p
    refine no ?_
    obtain ⟨k, hk⟩ := hp
    have w1 := wh_conj hg
    have wx := wh_conj hx
    have e1 : rq 1 = mul (conj g) g := by rw [mul_conjL hg, c]
    have a1 : Wh (mul u x) := wh_mul hu hx
    have a2 : Wh (mul v (rq p)) := wh_mul hv (wh_rq p)
    -- conj x = conj g (u x + v p) conj x
    have e2 : conj x = mul (conj g) (mul g (conj x)) := by rw [← mul_assoc w1 hg wx, ← e1, rq_mul, smul_one]
    have e3 : mul g (conj x) = add (smul (nm x) u) (smul p (mul v (conj x))) := by
      rw [e, mul_add a1 a2 wx, mul_assoc hu hx wx, mul_conj hx, mul_rq, mul_rq]
      congr 1
      refine smul_inj (k := 2) (by decide) ?_
      have ws : Wh (smul p v) := by rw [← mul_rq]; exact a2
      rw [mul2 ws wx, P_smul, smul_smul, Int.mul_comm, ← smul_smul, mul2 hv wx]
    have e4 : mul g (conj x) = smul p (add (smul k u) (mul v (conj x))) := by
      rw [e3, smul_add, smul_smul, ← hk]
    have wt : Wh (add (smul k u) (mul v (conj x))) := wh_add (by rw [← mul_rq]; exact wh_mul hu (wh_rq k)) (wh_mul hv wx)
    refine ⟨conj (mul (conj g) (add (smul k u) (mul v (conj x)))), wh_conj (wh_mul w1 wt), ?_⟩
    rw [← conj_smul]
    have e5 : conj x = smul p (mul (conj g) (add (smul k u) (mul v (conj x)))) := by
      rw [← mul_rq, mul_assoc w1 wt (wh_rq p), mul_rq, ← e4]; exact e2
    rw [← e5, conj_conj]
  · exact c
  · exfalso
    refine no ?_
    rw [c] at en
    have s1 : nm s = 1 := by
      refine Int.eq_of_mul_eq_mul_right (show (p : Int) * p ≠ 0 from Int.mul_ne_zero (by omega) (by omega)) ?_
      rw [en, Int.one_mul]
    have eg : g = smul p (conj s) := by
      have : mul (conj s) (rq p) = mul (mul (conj s) s) g := by rw [es, mul_assoc (wh_conj hs) hs hg]
      rw [mul_conjL hs, s1, rq_mul, smul_one, mul_rq] at this
      exact this.symm
    obtain ⟨r, hr, er⟩ := h1
    refine ⟨mul r (conj s), wh_mul hr (wh_conj hs), ?_⟩
    rw [er, eg, ← mul_rq (conj s), ← mul_assoc hr (wh_conj hs) (wh_rq p), mul_rq]
end NQ

set_option Elab.async false
set_option linter.all false
set_option maxRecDepth 100000
set_option maxHeartbeats 0
namespace HD
open PySem PySem.Spec PyProof.Rows L2
abbrev rw_ := PySem.Challenge.rw_allgrids_k42_quaternions_divided
abbrev pw_ := PySem.Challenge.pw_allgrids_k42_quaternions_divided
def top (i : Nat) : Stmt := pw_.main.body.getD i (.Pass ⟨0, 0, 0, 0⟩)
abbrev s_BadTable___init__ : Stmt := inClass (top 2) 0
abbrev s_root : Stmt := top 4
abbrev s_factors_of : Stmt := top 5
abbrev s_is_prime : Stmt := top 6
abbrev s_check_sum : Stmt := top 9
abbrev s_prime_squares : Stmt := top 10
abbrev s_power_by : Stmt := top 11
abbrev s_two_squares : Stmt := top 12
abbrev s_three_squares : Stmt := top 13
abbrev s_four_squares : Stmt := top 14
abbrev s_is_whole : Stmt := top 16
abbrev s_is_row : Stmt := top 17
abbrev s_is_whole_quaternion : Stmt := top 19
abbrev s_check_quaternion : Stmt := top 20
abbrev s_times_four : Stmt := top 21
abbrev s_turned_four : Stmt := top 22
abbrev s_norm_four : Stmt := top 23
abbrev s_less_four : Stmt := top 24
abbrev s_nearest_four : Stmt := top 25
abbrev s_divided_four : Stmt := top 26
abbrev s_common_four : Stmt := top 27
abbrev s_units_four : Stmt := top 28
abbrev s_over_prime : Stmt := top 29
abbrev s_prime_four : Stmt := top 30
abbrev s_factored_four : Stmt := top 31
abbrev s_whole_four : Stmt := top 32
abbrev s__law_cell : Stmt := top 34
abbrev s__law_digits : Stmt := top 35
abbrev s__law_draw : Stmt := top 36
abbrev s__law_pick : Stmt := top 37
abbrev s__law_primes : Stmt := top 38
abbrev s__law_reason : Stmt := top 39
abbrev s__law_four : Stmt := top 40
abbrev s__law_times_four : Stmt := top 41
abbrev s__law_norm_four : Stmt := top 42
abbrev s_law : Stmt := top 43
def d_root : He.DefD := ⟨("root", none), "root", "root", defArgs s_root, defBody s_root, defScope s_root, [], []⟩
def d_factors_of : He.DefD := ⟨("factors_of", none), "factors_of", "factors_of", defArgs s_factors_of, defBody s_factors_of, defScope s_factors_of, [], []⟩
def d_is_prime : He.DefD := ⟨("is_prime", none), "is_prime", "is_prime", defArgs s_is_prime, defBody s_is_prime, defScope s_is_prime, [], []⟩
def d_check_sum : He.DefD := ⟨("check_sum", none), "check_sum", "check_sum", defArgs s_check_sum, defBody s_check_sum, defScope s_check_sum, [], []⟩
def d_prime_squares : He.DefD := ⟨("prime_squares", none), "prime_squares", "prime_squares", defArgs s_prime_squares, defBody s_prime_squares, defScope s_prime_squares, [], []⟩
def d_power_by : He.DefD := ⟨("power_by", none), "power_by", "power_by", defArgs s_power_by, defBody s_power_by, defScope s_power_by, [], []⟩
def d_two_squares : He.DefD := ⟨("two_squares", none), "two_squares", "two_squares", defArgs s_two_squares, defBody s_two_squares, defScope s_two_squares, [], []⟩
def d_three_squares : He.DefD := ⟨("three_squares", none), "three_squares", "three_squares", defArgs s_three_squares, defBody s_three_squares, defScope s_three_squares, [], []⟩
def d_four_squares : He.DefD := ⟨("four_squares", none), "four_squares", "four_squares", defArgs s_four_squares, defBody s_four_squares, defScope s_four_squares, [], []⟩
def d_is_whole : He.DefD := ⟨("is_whole", none), "is_whole", "is_whole", defArgs s_is_whole, defBody s_is_whole, defScope s_is_whole, [], []⟩
def d_is_row : He.DefD := ⟨("is_row", none), "is_row", "is_row", defArgs s_is_row, defBody s_is_row, defScope s_is_row, [], []⟩
def d_is_whole_quaternion : He.DefD := ⟨("is_whole_quaternion", none), "is_whole_quaternion", "is_whole_quaternion", defArgs s_is_whole_quaternion, defBody s_is_whole_quaternion, defScope s_is_whole_quaternion, [], []⟩
def d_check_quaternion : He.DefD := ⟨("check_quaternion", none), "check_quaternion", "check_quaternion", defArgs s_check_quaternion, defBody s_check_quaternion, defScope s_check_quaternion, [], []⟩
def d_times_four : He.DefD := ⟨("times_four", none), "times_four", "times_four", defArgs s_times_four, defBody s_times_four, defScope s_times_four, [], []⟩
def d_turned_four : He.DefD := ⟨("turned_four", none), "turned_four", "turned_four", defArgs s_turned_four, defBody s_turned_four, defScope s_turned_four, [], []⟩
def d_norm_four : He.DefD := ⟨("norm_four", none), "norm_four", "norm_four", defArgs s_norm_four, defBody s_norm_four, defScope s_norm_four, [], []⟩
def d_less_four : He.DefD := ⟨("less_four", none), "less_four", "less_four", defArgs s_less_four, defBody s_less_four, defScope s_less_four, [], []⟩
def d_nearest_four : He.DefD := ⟨("nearest_four", none), "nearest_four", "nearest_four", defArgs s_nearest_four, defBody s_nearest_four, defScope s_nearest_four, [], []⟩
def d_divided_four : He.DefD := ⟨("divided_four", none), "divided_four", "divided_four", defArgs s_divided_four, defBody s_divided_four, defScope s_divided_four, [], []⟩
def d_common_four : He.DefD := ⟨("common_four", none), "common_four", "common_four", defArgs s_common_four, defBody s_common_four, defScope s_common_four, [], []⟩
def d_units_four : He.DefD := ⟨("units_four", none), "units_four", "units_four", defArgs s_units_four, defBody s_units_four, defScope s_units_four, [], []⟩
def d_over_prime : He.DefD := ⟨("over_prime", none), "over_prime", "over_prime", defArgs s_over_prime, defBody s_over_prime, defScope s_over_prime, [], []⟩
def d_prime_four : He.DefD := ⟨("prime_four", none), "prime_four", "prime_four", defArgs s_prime_four, defBody s_prime_four, defScope s_prime_four, [], []⟩
def d_factored_four : He.DefD := ⟨("factored_four", none), "factored_four", "factored_four", defArgs s_factored_four, defBody s_factored_four, defScope s_factored_four, [], []⟩
def d_whole_four : He.DefD := ⟨("whole_four", none), "whole_four", "whole_four", defArgs s_whole_four, defBody s_whole_four, defScope s_whole_four, [], []⟩
def d__law_cell : He.DefD := ⟨("_law_cell", none), "_law_cell", "_law_cell", defArgs s__law_cell, defBody s__law_cell, defScope s__law_cell, [], []⟩
def d__law_digits : He.DefD := ⟨("_law_digits", none), "_law_digits", "_law_digits", defArgs s__law_digits, defBody s__law_digits, defScope s__law_digits, [], []⟩
def d__law_draw : He.DefD := ⟨("_law_draw", none), "_law_draw", "_law_draw", defArgs s__law_draw, defBody s__law_draw, defScope s__law_draw, [], []⟩
def d__law_pick : He.DefD := ⟨("_law_pick", none), "_law_pick", "_law_pick", defArgs s__law_pick, defBody s__law_pick, defScope s__law_pick, [], []⟩
def d__law_primes : He.DefD := ⟨("_law_primes", none), "_law_primes", "_law_primes", defArgs s__law_primes, defBody s__law_primes, defScope s__law_primes, [], []⟩
def d__law_reason : He.DefD := ⟨("_law_reason", none), "_law_reason", "_law_reason", defArgs s__law_reason, defBody s__law_reason, defScope s__law_reason, [], []⟩
def d__law_four : He.DefD := ⟨("_law_four", none), "_law_four", "_law_four", defArgs s__law_four, defBody s__law_four, defScope s__law_four, [], []⟩
def d__law_times_four : He.DefD := ⟨("_law_times_four", none), "_law_times_four", "_law_times_four", defArgs s__law_times_four, defBody s__law_times_four, defScope s__law_times_four, [], []⟩
def d__law_norm_four : He.DefD := ⟨("_law_norm_four", none), "_law_norm_four", "_law_norm_four", defArgs s__law_norm_four, defBody s__law_norm_four, defScope s__law_norm_four, [], []⟩
def d_law : He.DefD := ⟨("law", none), "law", "law", defArgs s_law, defBody s_law, defScope s_law, [], []⟩
def fn : List He.DefD := [d_root, d_factors_of, d_is_prime, d_check_sum, d_prime_squares, d_power_by, d_two_squares, d_three_squares, d_four_squares, d_is_whole, d_is_row, d_is_whole_quaternion, d_check_quaternion, d_times_four, d_turned_four, d_norm_four, d_less_four, d_nearest_four, d_divided_four, d_common_four, d_units_four, d_over_prime, d_prime_four, d_factored_four, d_whole_four, d__law_cell, d__law_digits, d__law_draw, d__law_pick, d__law_primes, d__law_reason, d__law_four, d__law_times_four, d__law_norm_four, d_law]
def fa : List He.Fa := [.glo "GridError", .glo "BadTable", .glo "root", .glo "factors_of", .glo "is_prime", .glo "check_sum", .glo "prime_squares", .glo "power_by", .glo "two_squares", .glo "three_squares", .glo "four_squares", .glo "is_whole", .glo "is_row", .glo "is_whole_quaternion", .glo "check_quaternion", .glo "times_four", .glo "turned_four", .glo "norm_four", .glo "less_four", .glo "nearest_four", .glo "divided_four", .glo "common_four", .glo "units_four", .glo "over_prime", .glo "prime_four", .glo "factored_four", .glo "whole_four", .glo "_law_cell", .glo "_law_digits", .glo "_law_draw", .glo "_law_pick", .glo "_law_primes", .glo "_law_reason", .glo "_law_four", .glo "_law_times_four", .glo "_law_norm_four", .glo "law", .free "ValueError", .free "abs", .free "all", .free "any", .free "bool", .free "int", .free "isinstance", .free "len", .free "max", .free "min", .free "range", .free "set", .free "sorted", .free "sum", .free "super", .free "tuple", .free "zip"]
def cs : VX.Cons := [("MOST", PyData.int 10000000)]
def ini : VX.InitD := ⟨"BadTable.__init__", defArgs s_BadTable___init__, defBody s_BadTable___init__, defScope s_BadTable___init__⟩
theorem ini_ok : VX.InitOk pw_ ini where
  ex := ⟨_, _, _, _, _, _, _, _, _, _, fun env => plainOf (.Call (.Name "super" _) [] [] _) env, _, rfl, fun _ _ _ _ => rfl, fun _ _ _ _ => ⟨rfl, rfl, rfl, rfl⟩, rfl, rfl⟩
  bind := fun _ _ _ _ _ _ _ _ _ => rfl
  ks := rfl
  kc := rfl
  ka := rfl
  kf := rfl
  kind := rfl
  co := rfl
  gen := rfl
  cell := by decide +kernel
  top := by decide +kernel
abbrev R : PySem.W.OpenRow := PySem.W.OpenLaw.row rw_
def mainF : Str := pw_.main.file
abbrev hk : PySem.W.Hook := VX.hookB 4 cs fa fn mainF ini
def ob (s : PySem.W.SharedT) : VX.AlB := VX.obB 4 cs fa fn mainF (HandSHeadRun.getT s)
theorem ob_eq (s : PySem.W.SharedT) : ob s = hk.obs s.abs := VX.obB_eq (HandSHeadRun.getT_eq s)
def loose : List Str := [("GridError" : Str), ("BadTable" : Str), ("root" : Str), ("factors_of" : Str), ("is_prime" : Str), ("check_sum" : Str), ("prime_squares" : Str), ("power_by" : Str), ("two_squares" : Str), ("three_squares" : Str), ("four_squares" : Str), ("is_whole" : Str), ("is_row" : Str), ("is_whole_quaternion" : Str), ("check_quaternion" : Str), ("times_four" : Str), ("turned_four" : Str), ("norm_four" : Str), ("less_four" : Str), ("nearest_four" : Str), ("divided_four" : Str), ("common_four" : Str), ("units_four" : Str), ("over_prime" : Str), ("prime_four" : Str), ("factored_four" : Str), ("whole_four" : Str), ("_law_cell" : Str), ("_law_digits" : Str), ("_law_draw" : Str), ("_law_pick" : Str), ("_law_primes" : Str), ("_law_reason" : Str), ("_law_four" : Str), ("_law_times_four" : Str), ("_law_norm_four" : Str), ("MOST" : Str)]
theorem run (w : World) : HandSHeadRun.RunEq R (PySem.W.view R.prog [43]) hk ob 3000 loose w := by
  intro os
  kernel_rfl
end HD

set_option Elab.async false
set_option linter.all false
set_option maxRecDepth 100000
set_option maxHeartbeats 4000000
namespace VL
open PySem PySem.Spec PyProof.Rows L2 HD
/-! ### data -/
def tI (xs : List Int) : D := .tuple (xs.map .int)
abbrev tL (xs : List Int) : D := .list (xs.map .int)
def small (a : Int) : Prop := -18446744073709551616 < a ∧ a < 18446744073709551616
/-! ### promises -/
def digsOk (ds : List Int) : Prop := ∀ d ∈ ds, 0 ≤ d ∧ d < 1009
def sp__law_digits : VSC := fun _ ds Q => ∃ lo hi : Int, ds = [.int lo, .int hi] ∧ 0 ≤ lo ∧ lo ≤ hi ∧ hi ≤ 63 ∧ ∀ gs : List Int, digsOk gs → 6 * (hi - lo) ≤ gs.length → Q (.list (gs.map .int))
def sp__law_draw : VIO := fun xs ds Q => ∃ (gs : List Int) (at_ m g : Int), xs = [.list (gs.map .int), .int at_] ∧ ds = [.int m] ∧ 0 < m ∧ 0 ≤ at_ ∧ gs[at_.toNat]? = some g ∧ Q [.list (gs.map .int), .int (at_ + 1)] (.int (g % m))
def isRoot (n r : Int) : Prop := 0 ≤ r ∧ r * r ≤ n ∧ n < (r + 1) * (r + 1)
def sp_root : VN := fun ds Q => ∃ n : Int, ds = [.int n] ∧ 0 ≤ n ∧ n < 18446744073709551616 ∧ ∀ r, isRoot n r → Q (.int r)
def facD (x : Nat × Nat) : D := .tuple [.int x.1, .int x.2]
def sp_factors_of : VN := fun ds Q => ∃ n : Nat, ds = [.int n] ∧ 1 ≤ n ∧ n < 18446744073709551616 ∧ ∀ l, NT.FacL 2 n l → Q (.list (l.map facD))
def sp_check_sum : VN := fun ds Q => ∃ n : Int, ds = [.int n] ∧ 0 ≤ n ∧ n ≤ 10000000 ∧ Q .none
def sp_power_by : VN := fun ds Q => ∃ (b e p : Nat), ds = [.int b, .int e, .int p] ∧ 2 ≤ p ∧ p < 4294967296 ∧ b < 18446744073709551616 ∧ Q (.int ((b ^ e % p : Nat)))
def sp_prime_squares : VN := fun ds Q => ∃ p : Nat, ds = [.int p] ∧ NT.Pr p ∧ p < 4294967296 ∧ (p = 2 ∨ p % 4 = 1) ∧ ∀ x y : Int, x * x + y * y = p → 0 ≤ y → y ≤ x → Q (tI [x, y])
def sp_two_squares : VN := fun ds Q => ∃ n : Int, ds = [.int n] ∧ 0 ≤ n ∧ n ≤ 10000000 ∧ (∀ x y : Int, x * x + y * y = n → 0 ≤ y → y ≤ x → Q (.tuple [.bool true, tI [x, y]])) ∧
  ∀ p e m : Nat, n = ((p ^ e * m : Nat) : Int) → NT.Pr p → p % 4 = 3 → e % 2 = 1 → ¬ p ∣ m → Q (.tuple [.bool false, .int p])
def sp_three_squares : VN := fun ds Q => ∃ n : Int, ds = [.int n] ∧ 0 ≤ n ∧ n < 1006992 ∧ (∀ x y z : Int, x * x + y * y + z * z = n → 0 ≤ z → z ≤ y → y ≤ x → Q (.tuple [.bool true, tI [x, y, z]])) ∧
  ∀ a b : Nat, n = 4 ^ a * (8 * b + 7) → Q (.tuple [.bool false, tI [a, b]])
def sp_four_squares : VN := fun ds Q => ∃ n : Int, ds = [.int n] ∧ 0 ≤ n ∧ n < 1006992 ∧ ∀ x y z w : Int, x * x + y * y + z * z + w * w = n → 0 ≤ w → w ≤ z → z ≤ y → y ≤ x → Q (tI [x, y, z, w])
/-! ### quaternions -/
open NQ (Qn Wh mul conj nm RD Near)
def qD (q : Qn) : D := tI [q.a, q.b, q.c, q.d]
def lim : Int := 67108864
def sp__law_primes : VN := fun ds Q => ∃ p : Nat, ds = [.int p] ∧ NT.Pr p ∧ p < 4294967296 ∧ Q (tL [p])
def sp_is_prime : VN := fun ds Q => ∃ p : Nat, ds = [.int p] ∧ NT.Pr p ∧ p < 4294967296 ∧ Q (.bool true)
def sp_is_whole : VN := fun ds Q => ∃ i : Int, ds = [.int i] ∧ Q (.bool true)
def sp_is_row : VN := fun ds Q => ∃ xs : List Int, ds = [tI xs] ∧ xs.length ≤ 1000 ∧ Q (.bool true)
def sp_is_whole_quaternion : VN := fun ds Q => ∃ q : Qn, ds = [qD q] ∧ Q (.bool (decide (Wh q)))
def sp_check_quaternion : VN := fun ds Q => ∃ q : Qn, ds = [qD q] ∧ Wh q ∧ Q .none
def spx_check_quaternion : VNX := fun ds Q Rv => ∃ q : Qn, ds = [qD q] ∧ ¬ Wh q ∧ Rv "quaternion"
def big : Int := 18014398509481984
def sp_times_four : VN := fun ds Q => ∃ x y : Qn, ds = [qD x, qD y] ∧ Wh x ∧ nm x ≤ big ∧ Wh y ∧ nm y ≤ big ∧ Q (qD (mul x y))
def spx_times_four : VNX := fun ds Q Rv => ∃ x y : Qn, ds = [qD x, qD y] ∧ ¬ Wh x ∧ Rv "quaternion"
def sp_turned_four : VN := fun ds Q => ∃ x : Qn, ds = [qD x] ∧ Q (qD (conj x))
def sp_norm_four : VN := fun ds Q => ∃ x : Qn, ds = [qD x] ∧ Wh x ∧ nm x ≤ big ∧ Q (.int (nm x))
def sp_less_four : VN := fun ds Q => ∃ x y : Qn, ds = [qD x, qD y] ∧ Q (qD (NQ.sub x y))
def sp_nearest_four : VN := fun ds Q => ∃ (m : Qn) (n : Int), ds = [qD m, .int n] ∧ 0 < n ∧ n ≤ lim ∧ ∀ t, Near n m t → Q (qD t)
def sp_divided_four : VN := fun ds Q => ∃ x y : Qn, ds = [qD x, qD y] ∧ Wh x ∧ nm x ≤ lim ∧ Wh y ∧ nm y ≤ lim ∧ y ≠ NQ.zero ∧
  ∀ t, Wh t → nm (NQ.sub x (mul t y)) < nm y → (∀ r, Wh r → x = mul r y → t = r) → Q (.tuple [qD t, qD (NQ.sub x (mul t y))])
def spx_divided_four : VNX := fun ds Q Rv => ∃ x : Qn, ds = [qD x, qD NQ.zero] ∧ Wh x ∧ Rv "zero"
def sp_common_four : VN := fun ds Q => ∃ x y : Qn, ds = [qD x, qD y] ∧ Wh x ∧ nm x ≤ lim ∧ Wh y ∧ nm y ≤ lim ∧
  ∀ g u v, Wh g → Wh u → Wh v → g = NQ.add (mul u x) (mul v y) → RD g x → RD g y → nm g ≤ lim → Q (qD g)
def units24 : List Qn := [⟨-2, 0, 0, 0⟩, ⟨-1, -1, -1, -1⟩, ⟨-1, -1, -1, 1⟩, ⟨-1, -1, 1, -1⟩, ⟨-1, -1, 1, 1⟩, ⟨-1, 1, -1, -1⟩, ⟨-1, 1, -1, 1⟩, ⟨-1, 1, 1, -1⟩, ⟨-1, 1, 1, 1⟩, ⟨0, -2, 0, 0⟩, ⟨0, 0, -2, 0⟩, ⟨0, 0, 0, -2⟩,
  ⟨0, 0, 0, 2⟩, ⟨0, 0, 2, 0⟩, ⟨0, 2, 0, 0⟩, ⟨1, -1, -1, -1⟩, ⟨1, -1, -1, 1⟩, ⟨1, -1, 1, -1⟩, ⟨1, -1, 1, 1⟩, ⟨1, 1, -1, -1⟩, ⟨1, 1, -1, 1⟩, ⟨1, 1, 1, -1⟩, ⟨1, 1, 1, 1⟩, ⟨2, 0, 0, 0⟩]
def sp_units_four : VN := fun ds Q => ds = [] ∧ Q (.list (units24.map qD))
def sp_over_prime : VN := fun ds Q => ∃ (x : Qn) (p : Nat), ds = [qD x, .int p] ∧ Wh x ∧ NT.Pr p ∧ p < 1000 ∧ (p : Int) ∣ nm x ∧ 0 < nm x ∧ nm x ≤ 1000000 ∧ ∀ g r, Wh g → Wh r → nm g = p → x = mul r g → Q (.tuple [qD g, qD r])
def sp_prime_four : VN := fun ds Q => ∃ p : Nat, ds = [.int p] ∧ p < 100000 ∧ ∀ g, Wh g → nm g = p → Q (qD g)
def sp_factored_four : VN := fun ds Q => ∃ x : Qn, ds = [qD x] ∧ Wh x ∧ 0 < nm x ∧ nm x < 1000 ∧ ∀ (u : Qn) (fs : List Qn) (ps : List Nat), Wh u → nm u = 1 → (∀ f ∈ fs, Wh f ∧ nm f < 1000) → fs.foldl mul u = x → fs.map nm = ps.map Int.ofNat → (∀ p ∈ ps, NT.Pr p) → ps.Pairwise (· ≥ ·) → fs.length ≤ 1000 → Q (.tuple (qD u :: fs.map qD))
def sp_whole_four : VN := fun ds Q => ∃ x : Qn, ds = [qD x] ∧ Wh x ∧ nm x ≤ 1000000 ∧ ∀ g, Wh g → g.a % 2 = 0 → nm g = nm x → Q (qD g)
def sp__law_pick : VIO := fun xs ds Q => ∃ (gs : List Int) (at_ g : Int) (rows : List D) (r : D), xs = [.list (gs.map .int), .int at_] ∧ ds = [.list rows] ∧ 0 < rows.length ∧ rows.length ≤ 100000 ∧ 0 ≤ at_ ∧ gs[at_.toNat]? = some g ∧ rows[(g % (rows.length : Int)).toNat]? = some r ∧ Q [.list (gs.map .int), .int (at_ + 1)] r
def sp__law_four : VIO := fun xs ds Q => ∃ (gs : List Int) (at_ most : Int), xs = [.list (gs.map .int), .int at_] ∧ ds = [.int most] ∧ 1 ≤ most ∧ most ≤ 10 ∧ digsOk gs ∧ 0 ≤ at_ ∧ at_ + 5 ≤ gs.length ∧
  ∀ q : Qn, Wh q → (-(2 * most) ≤ q.a ∧ q.a ≤ 2 * most + 1) → (-(2 * most) ≤ q.b ∧ q.b ≤ 2 * most + 1) → (-(2 * most) ≤ q.c ∧ q.c ≤ 2 * most + 1) → (-(2 * most) ≤ q.d ∧ q.d ≤ 2 * most + 1) → Q [.list (gs.map .int), .int (at_ + 5)] (qD q)
def sp__law_times_four : VN := fun ds Q => ∃ x y : Qn, ds = [qD x, qD y] ∧ Wh x ∧ nm x ≤ big ∧ Q (qD (mul x y))
def sp__law_norm_four : VN := fun ds Q => ∃ x : Qn, ds = [qD x] ∧ Wh x ∧ nm x ≤ big ∧ Q (.int (nm x))
structure ZZ (K : PySem.W.Frag) (mg : Str → Option Value) : Prop where
  z_abs : mg "abs" = none
  z_all : mg "all" = none
  z_any : mg "any" = none
  z_int : mg "int" = none
  z_isinstance : mg "isinstance" = none
  z_len : mg "len" = none
  z_max : mg "max" = none
  z_min : mg "min" = none
  z_range : mg "range" = none
  z_set : mg "set" = none
  z_sorted : mg "sorted" = none
  z_sum : mg "sum" = none
  z_tuple : mg "tuple" = none
  z_zip : mg "zip" = none
  z_bool : mg "bool" = none
  c_MOST : VX.Con K mg "MOST" (PyData.int 10000000)
end VL

set_option Elab.async false
set_option linter.all false
set_option maxRecDepth 100000
set_option maxHeartbeats 8000000
namespace VL
open PySem PySem.Spec PyProof.Rows L2 LamX HD
section
variable {P : Program} {w : World} {K : PySem.W.Frag} {mg : Str → Option Value} {base : Heap}
/-! ### root: ["number", "found"] -/
theorem sc_root : FnScope ["number", "found"] ["number"] (defScope s_root) := ⟨rfl, rfl, rfl, by decide +kernel, rfl, by decide +kernel, by decide +kernel⟩
def rd_root_w1c : VTB := (vB (vBin (d20 fun i j => .bool (decide (j < i))) (vBin dMul (vVar 1) (vVar 1)) (vVar 0)))
def rd_root_w1b : VS := (vSet 1 (vBin (d2 (fun _ j => divOk j) fun i j => .int (i.fdiv j)) (vBin dAdd (vVar 1) (vBin (d2 (fun _ j => divOk j) fun i j => .int (i.fdiv j)) (vVar 0) (vVar 1))) (vC (.int 2))))

def rd_root : VS := (vSeq (vSet 1 (vBin (d2 shlOk fun i j => .int (i * 2 ^ j.toNat)) (vC (.int 1)) (vBin (d2 (fun _ j => divOk j) fun i j => .int (i.fdiv j)) (vBin dAdd (vBits (vVar 0)) (vC (.int 1))) (vC (.int 2)))))
  (vSeq (vWhile rd_root_w1c rd_root_w1b)
  (vRet (vVar 1))))
theorem der_root (Zm : ZZ K mg) {f : Addr} {cdv : Value} {A : Around} {outer : List Env} {s : Shared} {H : Hp} {E : XK} {B : Addr → Prop} (hr : Room 0 (A.deeper (envOfC "root" (defScope s_root) s.heap.objs.size f cdv))) :
    VSs (cxOf CX0 P w K mg base ["number", "found"] "root" (defScope s_root) f cdv A outer s H E).nox ⟨B, none⟩ (defBody s_root) rd_root :=
  (vs_cons (vs_set 1 sc_root.nd rfl (by first | exact Or.inl rfl | exact Or.inr rfl) (Or.inl rfl) (ve_bin ov_I (fun h1 h2 => pe_op (op_shlV) h1 h2) ve_int (ve_bin ov_I (fun h1 h2 => pe_op (op_fdivV) h1 h2) (ve_bin ov_add (fun h1 h2 => pe_op (op_add.or (op_catA.or op_cat)) h1 h2) (ve_bits (fun h => pe_bits h) (ve_var 0)) ve_int) ve_int)))
  (vs_cons (vs_while PassesOwn.never (vb_cmp (op_gt) ov_B0 (nomark _) (ve_bin ov_mul (fun h1 h2 => pe_op (op_mulV.or op_repT) h1 h2) (ve_var 1) (ve_var 1)) (ve_var 0)) (vs_one (vs_set 1 sc_root.nd rfl (by first | exact Or.inl rfl | exact Or.inr rfl) (Or.inl rfl) (ve_bin ov_I (fun h1 h2 => pe_op (op_fdivV) h1 h2) (ve_bin ov_add (fun h1 h2 => pe_op (op_add.or (op_catA.or op_cat)) h1 h2) (ve_var 1) (ve_bin ov_I (fun h1 h2 => pe_op (op_fdivV) h1 h2) (ve_var 0) (ve_var 1))) ve_int))))
  (vs_one (vs_ret (ve_var 1)))))
theorem ok_root {f : Addr} {fd : FuncData} (F : FnP K "root" s_root f fd) (m : mg "root" = some (.ref f)) (Zm : ZZ K mg)
    (hl : ∀ ds Q, sp_root ds Q → ds.length = 1) (hq : ∀ ds Q, sp_root ds Q → rd_root { nx := fun _ => Q .none, rt := fun d _ => Q d } (ev0 ["number", "found"] ds)) :
    Cal P w K mg base 1 "root" ["number"] (LF K sp_root) f fd :=
  ⟨fn_ok F sc_root hl (fun cdv A outer s H E B hr => der_root Zm  hr) hq, F.bindsN fun _ _ _ _ _ _ us hl => match us, hl with | [_], _ => rfl, F.kp, m⟩

/-! ### factors_of: ["number", "found", "prime", "power"] -/
theorem sc_factors_of : FnScope ["number", "found", "prime", "power"] ["number"] (defScope s_factors_of) := ⟨rfl, rfl, rfl, by decide +kernel, rfl, by decide +kernel, by decide +kernel⟩
def rd_factors_of_w2c : VTB := (vB (vBin dEq (vBin (d2 (fun _ j => j ≠ 0) fun i j => .int (i.fmod j)) (vVar 0) (vVar 2)) (vC (.int 0))))
def rd_factors_of_w2b : VS := (vSeq (vAug (d2 (fun _ j => divOk j) fun i j => .int (i.fdiv j)) 0 (vVar 2))
  (vAug (d20 fun i j => .int (i + j)) 3 (vC (.int 1))))

def rd_factors_of_w1c : VTB := (vB (vBin (d20 fun i j => .bool (decide (i ≤ j))) (vBin dMul (vVar 2) (vVar 2)) (vVar 0)))
def rd_factors_of_w1b : VS := (vSeq (vSet 3 (vC (.int 0)))
  (vSeq (vWhile rd_factors_of_w2c rd_factors_of_w2b)
  (vSeq (vIfS (vTru (vVar 3)) (vAppend 1 (vTup (vCons (vVar 2) (vCons (vVar 3) vNil)))) vNext)
  (vAug (d20 fun i j => .int (i + j)) 2 (vC (.int 1))))))

def rd_factors_of : VS := (vSeq (vSetO 1 vNil)
  (vSeq (vSet 2 (vC (.int 2)))
  (vSeq (vWhile rd_factors_of_w1c rd_factors_of_w1b)
  (vFz 1 (vRet (vIf (vB (vBin (d20 fun i j => .bool (decide (j < i))) (vVar 0) (vC (.int 1)))) (vBinL dAdd 1 (vOf (vCons (vTup (vCons (vVar 0) (vCons (vC (.int 1)) vNil))) vNil))) (vVar 1)))))))
theorem der_factors_of (Zm : ZZ K mg) {f : Addr} {cdv : Value} {A : Around} {outer : List Env} {s : Shared} {H : Hp} {E : XK} {B : Addr → Prop} (hr : Room 0 (A.deeper (envOfC "factors_of" (defScope s_factors_of) s.heap.objs.size f cdv))) :
    VSs (cxOf CX0 P w K mg base ["number", "found", "prime", "power"] "factors_of" (defScope s_factors_of) f cdv A outer s H E).nox ⟨B, none⟩ (defBody s_factors_of) rd_factors_of :=
  (vs_cons (vs_setO 1 sc_factors_of.nd rfl (by first | exact Or.inl rfl | exact Or.inr rfl) (Or.inl rfl) (vo_lst va_nil))
  (vs_cons (vs_set 2 sc_factors_of.nd rfl (by first | exact Or.inl rfl | exact Or.inr rfl) (Or.inl rfl) ve_int)
  (vs_cons (vs_while PassesOwn.never (vb_cmp (op_le) ov_B0 (nomark _) (ve_bin ov_mul (fun h1 h2 => pe_op (op_mulV.or op_repT) h1 h2) (ve_var 2) (ve_var 2)) (ve_var 0)) (vs_cons (vs_set 3 sc_factors_of.nd rfl (by first | exact Or.inl rfl | exact Or.inr rfl) (Or.inl rfl) ve_int)
  (vs_cons (vs_while PassesOwn.never (vb_cmp (op_eqD hr.units) ov_eq (nomark _) (ve_bin ov_I (fun h1 h2 => pe_op (op_modV) h1 h2) (ve_var 0) (ve_var 2)) ve_int) (vs_cons (vs_aug 0 sc_factors_of.nd rfl (by first | exact Or.inl rfl | exact Or.inr rfl) (Or.inl rfl) (ve_var 2) iop_fdivV ov_I)
  (vs_one (vs_aug 3 sc_factors_of.nd rfl (by first | exact Or.inl rfl | exact Or.inr rfl) (Or.inl rfl) ve_int iop_add ov_I0))))
  (vs_cons (vs_if (vb_tru (ve_var 3)) (vs_one (vs_append 1 (pv 1) (ve_tup (va_cons (ve_var 2) (va_cons (ve_var 3) va_nil))) (fun h => mk_append (pv 1) (he := h)))) vs_nil)
  (vs_one (vs_aug 2 sc_factors_of.nd rfl (by first | exact Or.inl rfl | exact Or.inr rfl) (Or.inl rfl) ve_int iop_add ov_I0))))))
  (vs_one (vs_fz 1 (Or.inl rfl) (vs_ret (ve_if (vb_cmp (op_gt) ov_B0 (nomark _) (ve_var 0) ve_int) (ve_binL 1 ov_add (fun h1 h2 => pe_op (op_add.or (op_catA.or op_cat)) h1 h2) (pv 1) (VO.ve (vo_lst (va_cons (ve_tup (va_cons (ve_var 0) (va_cons ve_int va_nil))) va_nil)))) (ve_var 1))))))))
theorem ok_factors_of {f : Addr} {fd : FuncData} (F : FnP K "factors_of" s_factors_of f fd) (m : mg "factors_of" = some (.ref f)) (Zm : ZZ K mg)
    (hl : ∀ ds Q, sp_factors_of ds Q → ds.length = 1) (hq : ∀ ds Q, sp_factors_of ds Q → rd_factors_of { nx := fun _ => Q .none, rt := fun d _ => Q d } (ev0 ["number", "found", "prime", "power"] ds)) :
    Cal P w K mg base 1 "factors_of" ["number"] (LF K sp_factors_of) f fd :=
  ⟨fn_ok F sc_factors_of hl (fun cdv A outer s H E B hr => der_factors_of Zm  hr) hq, F.bindsN fun _ _ _ _ _ _ us hl => match us, hl with | [_], _ => rfl, F.kp, m⟩

/-! ### is_prime: ["number"] -/
theorem sc_is_prime : FnScope ["number"] ["number"] (defScope s_is_prime) := ⟨rfl, rfl, rfl, by decide +kernel, rfl, by decide +kernel, by decide +kernel⟩
def rd_is_prime : VS := (vRet (vAndV (vBin (d20 fun i j => .bool (decide (j < i))) (vVar 0) (vC (.int 1))) (vBin dEq (vCall sp_factors_of (vCons (vVar 0) vNil)) (vOf (vCons (vTup (vCons (vVar 0) (vCons (vC (.int 1)) vNil))) vNil)))))
theorem der_is_prime (Zm : ZZ K mg) {f_factors_of : Addr} {d_factors_of : FuncData} (C_factors_of : Cal P w K mg base 1 "factors_of" ["number"] (LF K sp_factors_of) f_factors_of d_factors_of) {f : Addr} {cdv : Value} {A : Around} {outer : List Env} {s : Shared} {H : Hp} {E : XK} {B : Addr → Prop} (hr : Room 1 (A.deeper (envOfC "is_prime" (defScope s_is_prime) s.heap.objs.size f cdv))) :
    VSs (cxOf CX0 P w K mg base ["number"] "is_prime" (defScope s_is_prime) f cdv A outer s H E).nox ⟨B, none⟩ (defBody s_is_prime) rd_is_prime :=
  (vs_one (vs_ret (ve_and (ve_bin ov_B0 (fun h1 h2 => pe_cmpR (op_gt) h1 h2 (nomark _)) (ve_var 0) ve_int) (ve_one (ve_bin ov_eq (fun h1 h2 => pe_cmpR (op_eqD hr.units) h1 h2 (nomark _)) (ve_call C_factors_of.ok (hr.mono (by decide)) (by rfl) C_factors_of.m C_factors_of.kp C_factors_of.b (va_cons (ve_var 0) va_nil)) (VO.ve (vo_lst (va_cons (ve_tup (va_cons (ve_var 0) (va_cons ve_int va_nil))) va_nil))))))))
theorem ok_is_prime {f : Addr} {fd : FuncData} (F : FnP K "is_prime" s_is_prime f fd) (m : mg "is_prime" = some (.ref f)) (Zm : ZZ K mg) {f_factors_of : Addr} {d_factors_of : FuncData} (C_factors_of : Cal P w K mg base 1 "factors_of" ["number"] (LF K sp_factors_of) f_factors_of d_factors_of)
    (hl : ∀ ds Q, sp_is_prime ds Q → ds.length = 1) (hq : ∀ ds Q, sp_is_prime ds Q → rd_is_prime { nx := fun _ => Q .none, rt := fun d _ => Q d } (ev0 ["number"] ds)) :
    Cal P w K mg base 2 "is_prime" ["number"] (LF K sp_is_prime) f fd :=
  ⟨fn_ok F sc_is_prime hl (fun cdv A outer s H E B hr => der_is_prime Zm C_factors_of hr) hq, F.bindsN fun _ _ _ _ _ _ us hl => match us, hl with | [_], _ => rfl, F.kp, m⟩

/-! ### check_sum: ["number"] -/
theorem sc_check_sum : FnScope ["number"] ["number"] (defScope s_check_sum) := ⟨rfl, rfl, rfl, by decide +kernel, rfl, by decide +kernel, by decide +kernel⟩
def rd_check_sum : VS := (vIfS (vOr (vNot (vTru (vIsi "int" (vVar 0)))) (vOr (vTru (vIsi "bool" (vVar 0))) (vNot (vB (vChain (d20 fun i j => .bool (decide (i ≤ j))) (d20 fun i j => .bool (decide (i ≤ j))) (vC (.int 0)) (vVar 0) (vC (PyData.int 10000000))))))) vNever vNext)
theorem der_check_sum (Zm : ZZ K mg) {f : Addr} {cdv : Value} {A : Around} {outer : List Env} {s : Shared} {H : Hp} {E : XK} {B : Addr → Prop} (hr : Room 1 (A.deeper (envOfC "check_sum" (defScope s_check_sum) s.heap.objs.size f cdv))) :
    VSs (cxOf CX0 P w K mg base ["number"] "check_sum" (defScope s_check_sum) f cdv A outer s H E).nox ⟨B, none⟩ (defBody s_check_sum) rd_check_sum :=
  (vs_one (vs_if (VW.vb (vw_or (vb_not (vb_tru (ve_isi (T := "int") (by unfold knownT; simp) (by rfl) Zm.z_isinstance (by rfl) Zm.z_int (by decide +kernel) (by decide +kernel) (ve_var 0) (by decide) (by decide)))) (vw_or (vb_tru (ve_isi (T := "bool") (by unfold knownT; simp) (by rfl) Zm.z_isinstance (by rfl) Zm.z_bool (by decide +kernel) (by decide +kernel) (ve_var 0) (by decide) (by decide))) (vw_or1 (vb_not (vb_chain (op_le) (op_le) ov_B0 ov_B0 ve_int (ve_var 0) (ve_con (by rfl) Zm.c_MOST))))))) (vs_one vs_never) vs_nil))
theorem ok_check_sum {f : Addr} {fd : FuncData} (F : FnP K "check_sum" s_check_sum f fd) (m : mg "check_sum" = some (.ref f)) (Zm : ZZ K mg)
    (hl : ∀ ds Q, sp_check_sum ds Q → ds.length = 1) (hq : ∀ ds Q, sp_check_sum ds Q → rd_check_sum { nx := fun _ => Q .none, rt := fun d _ => Q d } (ev0 ["number"] ds)) :
    Cal P w K mg base 2 "check_sum" ["number"] (LF K sp_check_sum) f fd :=
  ⟨fn_ok F sc_check_sum hl (fun cdv A outer s H E B hr => der_check_sum Zm  hr) hq, F.bindsN fun _ _ _ _ _ _ us hl => match us, hl with | [_], _ => rfl, F.kp, m⟩

/-! ### prime_squares: ["prime", "number", "one", "other", "rest"] -/
theorem sc_prime_squares : FnScope ["prime", "number", "one", "other", "rest"] ["prime"] (defScope s_prime_squares) := ⟨rfl, rfl, rfl, by decide +kernel, rfl, by decide +kernel, by decide +kernel⟩
def rd_prime_squares_w1c : VTB := (vB (vBin dNe (vCall sp_power_by (vCons (vVar 1) (vCons (vBin (d2 (fun _ j => divOk j) fun i j => .int (i.fdiv j)) (vBin (d20 fun i j => .int (i - j)) (vVar 0) (vC (.int 1))) (vC (.int 2))) (vCons (vVar 0) vNil)))) (vBin (d20 fun i j => .int (i - j)) (vVar 0) (vC (.int 1)))))
def rd_prime_squares_w1b : VS := (vAug (d20 fun i j => .int (i + j)) 1 (vC (.int 1)))

def rd_prime_squares_w2c : VTB := (vB (vBin (d20 fun i j => .bool (decide (j < i))) (vBin dMul (vVar 3) (vVar 3)) (vVar 0)))
def rd_prime_squares_w2b : VS := (vPar 2 3 (vVar 3) (vBin (d2 (fun _ j => j ≠ 0) fun i j => .int (i.fmod j)) (vVar 2) (vVar 3)))

def rd_prime_squares : VS := (vSeq (vIfS (vB (vBin dEq (vVar 0) (vC (.int 2)))) (vRet (vTup (vCons (vC (.int 1)) (vCons (vC (.int 1)) vNil)))) vNext)
  (vSeq (vSet 1 (vC (.int 1)))
  (vSeq (vWhile rd_prime_squares_w1c rd_prime_squares_w1b)
  (vSeq (vPar 2 3 (vVar 0) (vCall sp_power_by (vCons (vVar 1) (vCons (vBin (d2 (fun _ j => divOk j) fun i j => .int (i.fdiv j)) (vBin (d20 fun i j => .int (i - j)) (vVar 0) (vC (.int 1))) (vC (.int 4))) (vCons (vVar 0) vNil)))))
  (vSeq (vWhile rd_prime_squares_w2c rd_prime_squares_w2b)
  (vSeq (vSet 4 (vBin (d2 (fun _ j => j ≠ 0) fun i j => .int (i.fmod j)) (vVar 2) (vVar 3)))
  (vRet (vTup (vCons (vCall cMax2 (vCons (vVar 3) (vCons (vVar 4) vNil))) (vCons (vCall cMin2 (vCons (vVar 3) (vCons (vVar 4) vNil))) vNil))))))))))
theorem der_prime_squares (Zm : ZZ K mg) {f_power_by : Addr} {d_power_by : FuncData} (C_power_by : Cal P w K mg base 1 "power_by" ["number", "power", "prime"] (LF K sp_power_by) f_power_by d_power_by) {f : Addr} {cdv : Value} {A : Around} {outer : List Env} {s : Shared} {H : Hp} {E : XK} {B : Addr → Prop} (hr : Room 1 (A.deeper (envOfC "prime_squares" (defScope s_prime_squares) s.heap.objs.size f cdv))) :
    VSs (cxOf CX0 P w K mg base ["prime", "number", "one", "other", "rest"] "prime_squares" (defScope s_prime_squares) f cdv A outer s H E).nox ⟨B, none⟩ (defBody s_prime_squares) rd_prime_squares :=
  (vs_cons (vs_if (vb_cmp (op_eqD hr.units) ov_eq (nomark _) (ve_var 0) ve_int) (vs_one (vs_ret (ve_tup (va_cons ve_int (va_cons ve_int va_nil))))) vs_nil)
  (vs_cons (vs_set 1 sc_prime_squares.nd rfl (by first | exact Or.inl rfl | exact Or.inr rfl) (Or.inl rfl) ve_int)
  (vs_cons (vs_while PassesOwn.never (vb_cmp (op_neD hr.units) ov_ne (nomark _) (ve_call C_power_by.ok (hr.mono (by decide)) (by rfl) C_power_by.m C_power_by.kp C_power_by.b (va_cons (ve_var 1) (va_cons (ve_bin ov_I (fun h1 h2 => pe_op (op_fdivV) h1 h2) (ve_bin ov_I0 (fun h1 h2 => pe_op (op_sub) h1 h2) (ve_var 0) ve_int) ve_int) (va_cons (ve_var 0) va_nil)))) (ve_bin ov_I0 (fun h1 h2 => pe_op (op_sub) h1 h2) (ve_var 0) ve_int)) (vs_one (vs_aug 1 sc_prime_squares.nd rfl (by first | exact Or.inl rfl | exact Or.inr rfl) (Or.inl rfl) ve_int iop_add ov_I0)))
  (vs_cons (vs_par 2 3 (by rfl) sc_prime_squares.nd rfl rfl (by decide) (Or.inl rfl) rfl rfl (ve_var 0) (ve_call C_power_by.ok (hr.mono (by decide)) (by rfl) C_power_by.m C_power_by.kp C_power_by.b (va_cons (ve_var 1) (va_cons (ve_bin ov_I (fun h1 h2 => pe_op (op_fdivV) h1 h2) (ve_bin ov_I0 (fun h1 h2 => pe_op (op_sub) h1 h2) (ve_var 0) ve_int) ve_int) (va_cons (ve_var 0) va_nil)))) (by rfl))
  (vs_cons (vs_while PassesOwn.never (vb_cmp (op_gt) ov_B0 (nomark _) (ve_bin ov_mul (fun h1 h2 => pe_op (op_mulV.or op_repT) h1 h2) (ve_var 3) (ve_var 3)) (ve_var 0)) (vs_one (vs_par 2 3 (by rfl) sc_prime_squares.nd rfl rfl (by decide) (Or.inl rfl) rfl rfl (ve_var 3) (ve_bin ov_I (fun h1 h2 => pe_op (op_modV) h1 h2) (ve_var 2) (ve_var 3)) (by rfl))))
  (vs_cons (vs_set 4 sc_prime_squares.nd rfl (by first | exact Or.inl rfl | exact Or.inr rfl) (Or.inl rfl) (ve_bin ov_I (fun h1 h2 => pe_op (op_modV) h1 h2) (ve_var 2) (ve_var 3)))
  (vs_one (vs_ret (ve_tup (va_cons (ve_callC cv_max2 (fun h => pe_callB (call_max2 rfl) (by rfl) Zm.z_max (by decide +kernel) h) (VA.vt (va_cons (ve_var 3) (va_cons (ve_var 4) va_nil)))) (va_cons (ve_callC cv_min2 (fun h => pe_callB (call_min2 rfl) (by rfl) Zm.z_min (by decide +kernel) h) (VA.vt (va_cons (ve_var 3) (va_cons (ve_var 4) va_nil)))) va_nil)))))))))))
theorem ok_prime_squares {f : Addr} {fd : FuncData} (F : FnP K "prime_squares" s_prime_squares f fd) (m : mg "prime_squares" = some (.ref f)) (Zm : ZZ K mg) {f_power_by : Addr} {d_power_by : FuncData} (C_power_by : Cal P w K mg base 1 "power_by" ["number", "power", "prime"] (LF K sp_power_by) f_power_by d_power_by)
    (hl : ∀ ds Q, sp_prime_squares ds Q → ds.length = 1) (hq : ∀ ds Q, sp_prime_squares ds Q → rd_prime_squares { nx := fun _ => Q .none, rt := fun d _ => Q d } (ev0 ["prime", "number", "one", "other", "rest"] ds)) :
    Cal P w K mg base 2 "prime_squares" ["prime"] (LF K sp_prime_squares) f fd :=
  ⟨fn_ok F sc_prime_squares hl (fun cdv A outer s H E B hr => der_prime_squares Zm C_power_by hr) hq, F.bindsN fun _ _ _ _ _ _ us hl => match us, hl with | [_], _ => rfl, F.kp, m⟩

/-! ### power_by: ["number", "power", "prime", "found"] -/
theorem sc_power_by : FnScope ["number", "power", "prime", "found"] ["number", "power", "prime"] (defScope s_power_by) := ⟨rfl, rfl, rfl, by decide +kernel, rfl, by decide +kernel, by decide +kernel⟩
def rd_power_by_w1c : VTB := (vTru (vVar 1))
def rd_power_by_w1b : VS := (vSeq (vIfS (vTru (vBin (d2 (fun _ j => j ≠ 0) fun i j => .int (i.fmod j)) (vVar 1) (vC (.int 2)))) (vSet 3 (vBin (d2 (fun _ j => j ≠ 0) fun i j => .int (i.fmod j)) (vBin dMul (vVar 3) (vVar 0)) (vVar 2))) vNext)
  (vSeq (vSet 0 (vBin (d2 (fun _ j => j ≠ 0) fun i j => .int (i.fmod j)) (vBin dMul (vVar 0) (vVar 0)) (vVar 2)))
  (vAug (d2 (fun _ j => divOk j) fun i j => .int (i.fdiv j)) 1 (vC (.int 2)))))

def rd_power_by : VS := (vSeq (vSet 3 (vC (.int 1)))
  (vSeq (vWhile rd_power_by_w1c rd_power_by_w1b)
  (vRet (vVar 3))))
theorem der_power_by (Zm : ZZ K mg) {f : Addr} {cdv : Value} {A : Around} {outer : List Env} {s : Shared} {H : Hp} {E : XK} {B : Addr → Prop} (hr : Room 0 (A.deeper (envOfC "power_by" (defScope s_power_by) s.heap.objs.size f cdv))) :
    VSs (cxOf CX0 P w K mg base ["number", "power", "prime", "found"] "power_by" (defScope s_power_by) f cdv A outer s H E).nox ⟨B, none⟩ (defBody s_power_by) rd_power_by :=
  (vs_cons (vs_set 3 sc_power_by.nd rfl (by first | exact Or.inl rfl | exact Or.inr rfl) (Or.inl rfl) ve_int)
  (vs_cons (vs_while PassesOwn.never (vb_tru (ve_var 1)) (vs_cons (vs_if (vb_tru (ve_bin ov_I (fun h1 h2 => pe_op (op_modV) h1 h2) (ve_var 1) ve_int)) (vs_one (vs_set 3 sc_power_by.nd rfl (by first | exact Or.inl rfl | exact Or.inr rfl) (Or.inl rfl) (ve_bin ov_I (fun h1 h2 => pe_op (op_modV) h1 h2) (ve_bin ov_mul (fun h1 h2 => pe_op (op_mulV.or op_repT) h1 h2) (ve_var 3) (ve_var 0)) (ve_var 2)))) vs_nil)
  (vs_cons (vs_set 0 sc_power_by.nd rfl (by first | exact Or.inl rfl | exact Or.inr rfl) (Or.inl rfl) (ve_bin ov_I (fun h1 h2 => pe_op (op_modV) h1 h2) (ve_bin ov_mul (fun h1 h2 => pe_op (op_mulV.or op_repT) h1 h2) (ve_var 0) (ve_var 0)) (ve_var 2)))
  (vs_one (vs_aug 1 sc_power_by.nd rfl (by first | exact Or.inl rfl | exact Or.inr rfl) (Or.inl rfl) ve_int iop_fdivV ov_I)))))
  (vs_one (vs_ret (ve_var 3)))))
theorem ok_power_by {f : Addr} {fd : FuncData} (F : FnP K "power_by" s_power_by f fd) (m : mg "power_by" = some (.ref f)) (Zm : ZZ K mg)
    (hl : ∀ ds Q, sp_power_by ds Q → ds.length = 3) (hq : ∀ ds Q, sp_power_by ds Q → rd_power_by { nx := fun _ => Q .none, rt := fun d _ => Q d } (ev0 ["number", "power", "prime", "found"] ds)) :
    Cal P w K mg base 1 "power_by" ["number", "power", "prime"] (LF K sp_power_by) f fd :=
  ⟨fn_ok F sc_power_by hl (fun cdv A outer s H E B hr => der_power_by Zm  hr) hq, F.bindsN fun _ _ _ _ _ _ us hl => match us, hl with | [_, _, _], _ => rfl, F.kp, m⟩

/-! ### two_squares: ["number", "x", "y", "prime", "power", "turn", "a", "b"] -/
theorem sc_two_squares : FnScope ["number", "x", "y", "prime", "power", "turn", "a", "b"] ["number"] (defScope s_two_squares) := ⟨rfl, rfl, rfl, by decide +kernel, rfl, by decide +kernel, by decide +kernel⟩
def rd_two_squares_f2g : VG := (gN 5)
def rd_two_squares_f2b : VS := (vPar 1 2 (vBin dMul (vVar 1) (vVar 3)) (vBin dMul (vVar 2) (vVar 3)))

def rd_two_squares_f3g : VG := (gN 5)
def rd_two_squares_f3b : VS := (vPar 1 2 (vCall cAbs (vCons (vBin (d20 fun i j => .int (i - j)) (vBin dMul (vVar 6) (vVar 1)) (vBin dMul (vVar 7) (vVar 2))) vNil)) (vBin dAdd (vBin dMul (vVar 6) (vVar 2)) (vBin dMul (vVar 7) (vVar 1))))

def rd_two_squares_f1g : VG := (gT 2 (gsC (gN 3) (gsC (gN 4) gs0)))
def rd_two_squares_f1b : VS := (vIfS (vB (vBin dEq (vBin (d2 (fun _ j => j ≠ 0) fun i j => .int (i.fmod j)) (vVar 3) (vC (.int 4))) (vC (.int 3)))) (vSeq (vIfS (vTru (vBin (d2 (fun _ j => j ≠ 0) fun i j => .int (i.fmod j)) (vVar 4) (vC (.int 2)))) (vRet (vTup (vCons (vC (.bool false)) (vCons (vVar 3) vNil)))) vNext)
  (vForS (wR1 (vBin (d2 (fun _ j => divOk j) fun i j => .int (i.fdiv j)) (vVar 4) (vC (.int 2)))) rd_two_squares_f2g rd_two_squares_f2b)) (vSeq (vAsg (vCall sp_prime_squares (vCons (vVar 3) vNil)) (gT 2 (gsC (gN 6) (gsC (gN 7) gs0))))
  (vForS (wR1 (vVar 4)) rd_two_squares_f3g rd_two_squares_f3b)))

def rd_two_squares : VS := (vSeq (vDrop (vCall sp_check_sum (vCons (vVar 0) vNil)))
  (vSeq (vIfS (vB (vBin dEq (vVar 0) (vC (.int 0)))) (vRet (vTup (vCons (vC (.bool true)) (vCons (vTup (vCons (vC (.int 0)) (vCons (vC (.int 0)) vNil))) vNil)))) vNext)
  (vSeq (vAsg (vTup (vCons (vC (.int 1)) (vCons (vC (.int 0)) vNil))) (gT 2 (gsC (gN 1) (gsC (gN 2) gs0))))
  (vSeq (vForS (wL (vCall sp_factors_of (vCons (vVar 0) vNil))) rd_two_squares_f1g rd_two_squares_f1b)
  (vRet (vTup (vCons (vC (.bool true)) (vCons (vTup (vCons (vCall cMax2 (vCons (vVar 1) (vCons (vVar 2) vNil))) (vCons (vCall cMin2 (vCons (vVar 1) (vCons (vVar 2) vNil))) vNil))) vNil))))))))
theorem der_two_squares (Zm : ZZ K mg) {f_check_sum : Addr} {d_check_sum : FuncData} (C_check_sum : Cal P w K mg base 2 "check_sum" ["number"] (LF K sp_check_sum) f_check_sum d_check_sum) {f_factors_of : Addr} {d_factors_of : FuncData} (C_factors_of : Cal P w K mg base 1 "factors_of" ["number"] (LF K sp_factors_of) f_factors_of d_factors_of) {f_prime_squares : Addr} {d_prime_squares : FuncData} (C_prime_squares : Cal P w K mg base 2 "prime_squares" ["prime"] (LF K sp_prime_squares) f_prime_squares d_prime_squares) {f : Addr} {cdv : Value} {A : Around} {outer : List Env} {s : Shared} {H : Hp} {E : XK} {B : Addr → Prop} (hr : Room 2 (A.deeper (envOfC "two_squares" (defScope s_two_squares) s.heap.objs.size f cdv))) :
    VSs (cxOf CX0 P w K mg base ["number", "x", "y", "prime", "power", "turn", "a", "b"] "two_squares" (defScope s_two_squares) f cdv A outer s H E).nox ⟨B, none⟩ (defBody s_two_squares) rd_two_squares :=
  (vs_cons (vs_expr (ve_call C_check_sum.ok (hr.mono (by decide)) (by rfl) C_check_sum.m C_check_sum.kp C_check_sum.b (va_cons (ve_var 0) va_nil)))
  (vs_cons (vs_if (vb_cmp (op_eqD hr.units) ov_eq (nomark _) (ve_var 0) ve_int) (vs_one (vs_ret (ve_tup (va_cons ve_bl (va_cons (ve_tup (va_cons ve_int (va_cons ve_int va_nil))) va_nil))))) vs_nil)
  (vs_cons (vs_asg (vs := [1, 2]) (ve_tup (va_cons ve_int (va_cons ve_int va_nil))) (vg_tup (by rfl) (vgs_cons (vg_name 1 sc_two_squares.nd rfl (by first | exact Or.inl rfl | exact Or.inr rfl) (Or.inl rfl) (by decide)) (vgs_cons (vg_name 2 sc_two_squares.nd rfl (by first | exact Or.inl rfl | exact Or.inr rfl) (Or.inl rfl) (by decide)) vgs_nil))))
  (vs_cons (vs_for (vs := [3, 4]) PassesOwn.never (by rfl) (vw_list (ve_call C_factors_of.ok (hr.mono (by decide)) (by rfl) C_factors_of.m C_factors_of.kp C_factors_of.b (va_cons (ve_var 0) va_nil))) (vg_tup (by rfl) (vgs_cons (vg_name 3 sc_two_squares.nd rfl (by first | exact Or.inl rfl | exact Or.inr rfl) (Or.inl rfl) (by decide)) (vgs_cons (vg_name 4 sc_two_squares.nd rfl (by first | exact Or.inl rfl | exact Or.inr rfl) (Or.inl rfl) (by decide)) vgs_nil))) (vs_one (vs_if (vb_cmp (op_eqD hr.units) ov_eq (nomark _) (ve_bin ov_I (fun h1 h2 => pe_op (op_modV) h1 h2) (ve_var 3) ve_int) ve_int) (vs_cons (vs_if (vb_tru (ve_bin ov_I (fun h1 h2 => pe_op (op_modV) h1 h2) (ve_var 4) ve_int)) (vs_one (vs_ret (ve_tup (va_cons ve_bl (va_cons (ve_var 3) va_nil))))) vs_nil)
  (vs_one (vs_for (vs := [5]) PassesOwn.never (by rfl) (vw_rng1 (by rfl) Zm.z_range (ve_bin ov_I (fun h1 h2 => pe_op (op_fdivV) h1 h2) (ve_var 4) ve_int)) (vg_name 5 sc_two_squares.nd rfl (by first | exact Or.inl rfl | exact Or.inr rfl) (Or.inl rfl) (by decide)) (vs_one (vs_par 1 2 (by rfl) sc_two_squares.nd rfl rfl (by decide) (Or.inl rfl) rfl rfl (ve_bin ov_mul (fun h1 h2 => pe_op (op_mulV.or op_repT) h1 h2) (ve_var 1) (ve_var 3)) (ve_bin ov_mul (fun h1 h2 => pe_op (op_mulV.or op_repT) h1 h2) (ve_var 2) (ve_var 3)) (by rfl)))))) (vs_cons (vs_asg (vs := [6, 7]) (ve_call C_prime_squares.ok (hr.mono (by decide)) (by rfl) C_prime_squares.m C_prime_squares.kp C_prime_squares.b (va_cons (ve_var 3) va_nil)) (vg_tup (by rfl) (vgs_cons (vg_name 6 sc_two_squares.nd rfl (by first | exact Or.inl rfl | exact Or.inr rfl) (Or.inl rfl) (by decide)) (vgs_cons (vg_name 7 sc_two_squares.nd rfl (by first | exact Or.inl rfl | exact Or.inr rfl) (Or.inl rfl) (by decide)) vgs_nil))))
  (vs_one (vs_for (vs := [5]) PassesOwn.never (by rfl) (vw_rng1 (by rfl) Zm.z_range (ve_var 4)) (vg_name 5 sc_two_squares.nd rfl (by first | exact Or.inl rfl | exact Or.inr rfl) (Or.inl rfl) (by decide)) (vs_one (vs_par 1 2 (by rfl) sc_two_squares.nd rfl rfl (by decide) (Or.inl rfl) rfl rfl (ve_callC cv_abs (fun h => pe_callB call_abs (by rfl) Zm.z_abs (by decide +kernel) h) (VA.vt (va_cons (ve_bin ov_I0 (fun h1 h2 => pe_op (op_sub) h1 h2) (ve_bin ov_mul (fun h1 h2 => pe_op (op_mulV.or op_repT) h1 h2) (ve_var 6) (ve_var 1)) (ve_bin ov_mul (fun h1 h2 => pe_op (op_mulV.or op_repT) h1 h2) (ve_var 7) (ve_var 2))) va_nil))) (ve_bin ov_add (fun h1 h2 => pe_op (op_add.or (op_catA.or op_cat)) h1 h2) (ve_bin ov_mul (fun h1 h2 => pe_op (op_mulV.or op_repT) h1 h2) (ve_var 6) (ve_var 2)) (ve_bin ov_mul (fun h1 h2 => pe_op (op_mulV.or op_repT) h1 h2) (ve_var 7) (ve_var 1))) (by rfl)))))))))
  (vs_one (vs_ret (ve_tup (va_cons ve_bl (va_cons (ve_tup (va_cons (ve_callC cv_max2 (fun h => pe_callB (call_max2 rfl) (by rfl) Zm.z_max (by decide +kernel) h) (VA.vt (va_cons (ve_var 1) (va_cons (ve_var 2) va_nil)))) (va_cons (ve_callC cv_min2 (fun h => pe_callB (call_min2 rfl) (by rfl) Zm.z_min (by decide +kernel) h) (VA.vt (va_cons (ve_var 1) (va_cons (ve_var 2) va_nil)))) va_nil))) va_nil)))))))))
theorem ok_two_squares {f : Addr} {fd : FuncData} (F : FnP K "two_squares" s_two_squares f fd) (m : mg "two_squares" = some (.ref f)) (Zm : ZZ K mg) {f_check_sum : Addr} {d_check_sum : FuncData} (C_check_sum : Cal P w K mg base 2 "check_sum" ["number"] (LF K sp_check_sum) f_check_sum d_check_sum) {f_factors_of : Addr} {d_factors_of : FuncData} (C_factors_of : Cal P w K mg base 1 "factors_of" ["number"] (LF K sp_factors_of) f_factors_of d_factors_of) {f_prime_squares : Addr} {d_prime_squares : FuncData} (C_prime_squares : Cal P w K mg base 2 "prime_squares" ["prime"] (LF K sp_prime_squares) f_prime_squares d_prime_squares)
    (hl : ∀ ds Q, sp_two_squares ds Q → ds.length = 1) (hq : ∀ ds Q, sp_two_squares ds Q → rd_two_squares { nx := fun _ => Q .none, rt := fun d _ => Q d } (ev0 ["number", "x", "y", "prime", "power", "turn", "a", "b"] ds)) :
    Cal P w K mg base 3 "two_squares" ["number"] (LF K sp_two_squares) f fd :=
  ⟨fn_ok F sc_two_squares hl (fun cdv A outer s H E B hr => der_two_squares Zm C_check_sum C_factors_of C_prime_squares hr) hq, F.bindsN fun _ _ _ _ _ _ us hl => match us, hl with | [_], _ => rfl, F.kp, m⟩

/-! ### three_squares: ["number", "times", "rest", "x", "answer", "pair", "found", "one"] -/
theorem sc_three_squares : FnScope ["number", "times", "rest", "x", "answer", "pair", "found", "one"] ["number"] (defScope s_three_squares) := ⟨rfl, rfl, rfl, by decide +kernel, rfl, by decide +kernel, by decide +kernel⟩
def rd_three_squares_w1c : VTB := (vAnd (vTru (vVar 2)) (vB (vBin dEq (vBin (d2 (fun _ j => j ≠ 0) fun i j => .int (i.fmod j)) (vVar 2) (vC (.int 4))) (vC (.int 0)))))
def rd_three_squares_w1b : VS := (vAsg (vTup (vCons (vBin dAdd (vVar 1) (vC (.int 1))) (vCons (vBin (d2 (fun _ j => divOk j) fun i j => .int (i.fdiv j)) (vVar 2) (vC (.int 4))) vNil))) (gT 2 (gsC (gN 1) (gsC (gN 2) gs0))))

def rd_three_squares_c3_g : VG := (gN 7)
def rd_three_squares_c3_t : VTB := vYes
def rd_three_squares_c3_e : VT := (vBin dMul (vBin (d2 shlOk fun i j => .int (i * 2 ^ j.toNat)) (vC (.int 1)) (vVar 1)) (vVar 7))

def rd_three_squares_f2g : VG := (gN 3)
def rd_three_squares_f2b : VS := (vSeq (vAsg (vCall sp_two_squares (vCons (vBin (d20 fun i j => .int (i - j)) (vVar 2) (vBin dMul (vVar 3) (vVar 3))) vNil)) (gT 2 (gsC (gN 4) (gsC (gN 5) gs0))))
  (vIfS (vTru (vVar 4)) (vSeq (vSet 6 (vOf (vCallO (cSrt true) (vCons (vOf (vCons (vVar 3) (vCons (vBin dIx (vVar 5) (vC (.int 0))) (vCons (vBin dIx (vVar 5) (vC (.int 1))) vNil)))) vNil))))
  (vRet (vTup (vCons (vC (.bool true)) (vCons (vCall cTup (vCons (vOf (vLc (wL (vVar 6)) rd_three_squares_c3_g rd_three_squares_c3_t rd_three_squares_c3_e [7])) vNil)) vNil))))) vNext))

def rd_three_squares : VS := (vSeq (vDrop (vCall sp_check_sum (vCons (vVar 0) vNil)))
  (vSeq (vAsg (vTup (vCons (vC (.int 0)) (vCons (vVar 0) vNil))) (gT 2 (gsC (gN 1) (gsC (gN 2) gs0))))
  (vSeq (vWhile rd_three_squares_w1c rd_three_squares_w1b)
  (vSeq (vIfS (vB (vBin dEq (vBin (d2 (fun _ j => j ≠ 0) fun i j => .int (i.fmod j)) (vVar 2) (vC (.int 8))) (vC (.int 7)))) (vRet (vTup (vCons (vC (.bool false)) (vCons (vTup (vCons (vVar 1) (vCons (vBin (d2 (fun _ j => divOk j) fun i j => .int (i.fdiv j)) (vVar 2) (vC (.int 8))) vNil))) vNil)))) vNext)
  (vSeq (vForS (wR3 (vCall sp_root (vCons (vVar 2) vNil)) (vUn dNeg (vC (.int 1))) (vUn dNeg (vC (.int 1)))) rd_three_squares_f2g rd_three_squares_f2b)
  vNever)))))
theorem der_three_squares (Zm : ZZ K mg) {f_check_sum : Addr} {d_check_sum : FuncData} (C_check_sum : Cal P w K mg base 2 "check_sum" ["number"] (LF K sp_check_sum) f_check_sum d_check_sum) {f_root : Addr} {d_root : FuncData} (C_root : Cal P w K mg base 1 "root" ["number"] (LF K sp_root) f_root d_root) {f_two_squares : Addr} {d_two_squares : FuncData} (C_two_squares : Cal P w K mg base 3 "two_squares" ["number"] (LF K sp_two_squares) f_two_squares d_two_squares) {f : Addr} {cdv : Value} {A : Around} {outer : List Env} {s : Shared} {H : Hp} {E : XK} {B : Addr → Prop} (hr : Room 3 (A.deeper (envOfC "three_squares" (defScope s_three_squares) s.heap.objs.size f cdv))) :
    VSs (cxOf CX0 P w K mg base ["number", "times", "rest", "x", "answer", "pair", "found", "one"] "three_squares" (defScope s_three_squares) f cdv A outer s H E).nox ⟨B, none⟩ (defBody s_three_squares) rd_three_squares :=
  (vs_cons (vs_expr (ve_call C_check_sum.ok (hr.mono (by decide)) (by rfl) C_check_sum.m C_check_sum.kp C_check_sum.b (va_cons (ve_var 0) va_nil)))
  (vs_cons (vs_asg (vs := [1, 2]) (ve_tup (va_cons ve_int (va_cons (ve_var 0) va_nil))) (vg_tup (by rfl) (vgs_cons (vg_name 1 sc_three_squares.nd rfl (by first | exact Or.inl rfl | exact Or.inr rfl) (Or.inl rfl) (by decide)) (vgs_cons (vg_name 2 sc_three_squares.nd rfl (by first | exact Or.inl rfl | exact Or.inr rfl) (Or.inl rfl) (by decide)) vgs_nil))))
  (vs_cons (vs_while PassesOwn.never (VW.vb (vw_and (vb_tru (ve_var 2)) (vw_and1 (vb_cmp (op_eqD hr.units) ov_eq (nomark _) (ve_bin ov_I (fun h1 h2 => pe_op (op_modV) h1 h2) (ve_var 2) ve_int) ve_int)))) (vs_one (vs_asg (vs := [1, 2]) (ve_tup (va_cons (ve_bin ov_add (fun h1 h2 => pe_op (op_add.or (op_catA.or op_cat)) h1 h2) (ve_var 1) ve_int) (va_cons (ve_bin ov_I (fun h1 h2 => pe_op (op_fdivV) h1 h2) (ve_var 2) ve_int) va_nil))) (vg_tup (by rfl) (vgs_cons (vg_name 1 sc_three_squares.nd rfl (by first | exact Or.inl rfl | exact Or.inr rfl) (Or.inl rfl) (by decide)) (vgs_cons (vg_name 2 sc_three_squares.nd rfl (by first | exact Or.inl rfl | exact Or.inr rfl) (Or.inl rfl) (by decide)) vgs_nil))))))
  (vs_cons (vs_if (vb_cmp (op_eqD hr.units) ov_eq (nomark _) (ve_bin ov_I (fun h1 h2 => pe_op (op_modV) h1 h2) (ve_var 2) ve_int) ve_int) (vs_one (vs_ret (ve_tup (va_cons ve_bl (va_cons (ve_tup (va_cons (ve_var 1) (va_cons (ve_bin ov_I (fun h1 h2 => pe_op (op_fdivV) h1 h2) (ve_var 2) ve_int) va_nil))) va_nil))))) vs_nil)
  (vs_cons (vs_for (vs := [3]) PassesOwn.never (by rfl) (vw_rng3 (by rfl) Zm.z_range (ve_call C_root.ok (hr.mono (by decide)) (by rfl) C_root.m C_root.kp C_root.b (va_cons (ve_var 2) va_nil)) (ve_un uv_neg (fun h => pe_un un_neg h) ve_int) (ve_un uv_neg (fun h => pe_un un_neg h) ve_int)) (vg_name 3 sc_three_squares.nd rfl (by first | exact Or.inl rfl | exact Or.inr rfl) (Or.inl rfl) (by decide)) (vs_cons (vs_asg (vs := [4, 5]) (ve_call C_two_squares.ok (hr.mono (by decide)) (by rfl) C_two_squares.m C_two_squares.kp C_two_squares.b (va_cons (ve_bin ov_I0 (fun h1 h2 => pe_op (op_sub) h1 h2) (ve_var 2) (ve_bin ov_mul (fun h1 h2 => pe_op (op_mulV.or op_repT) h1 h2) (ve_var 3) (ve_var 3))) va_nil)) (vg_tup (by rfl) (vgs_cons (vg_name 4 sc_three_squares.nd rfl (by first | exact Or.inl rfl | exact Or.inr rfl) (Or.inl rfl) (by decide)) (vgs_cons (vg_name 5 sc_three_squares.nd rfl (by first | exact Or.inl rfl | exact Or.inr rfl) (Or.inl rfl) (by decide)) vgs_nil))))
  (vs_one (vs_if (vb_tru (ve_var 4)) (vs_cons (vs_set 6 sc_three_squares.nd rfl (by first | exact Or.inl rfl | exact Or.inr rfl) (Or.inl rfl) (VO.ve (vo_srtRev (by rfl) Zm.z_sorted (VA.vt (va_cons (VO.ve (vo_lst (va_cons (ve_var 3) (va_cons (ve_bin ov_ix (fun h1 h2 => pe_ix (ix_list.or ix_tup) h1 h2 (fun _ _ => rfl)) (ve_var 5) ve_int) (va_cons (ve_bin ov_ix (fun h1 h2 => pe_ix (ix_list.or ix_tup) h1 h2 (fun _ _ => rfl)) (ve_var 5) ve_int) va_nil))))) va_nil)))))
  (vs_one (vs_ret (ve_tup (va_cons ve_bl (va_cons (ve_callC cv_tup (fun h => pe_callTy call_tuple_of (by rfl) Zm.z_tuple (by decide +kernel) h) (VA.vt (va_cons (VO.ve (vo_lc (own := [("one", 7)]) (by rfl) sc_three_squares.nd (vw_list (ve_var 6)) (blkOk_by (own := [("one", 7)]) (by first | decide +kernel | kernel_rfl | rfl)) (fun _ _ _ _ _ _ => (vg_name 7 sc_three_squares.nd rfl (by first | exact Or.inl rfl | exact Or.inr rfl) (Or.inl rfl) (by decide))) (fun _ _ _ _ _ _ => vbs_nil) (fun _ _ _ _ _ _ => (ve_bin ov_mul (fun h1 h2 => pe_op (op_mulV.or op_repT) h1 h2) (ve_bin ov_I (fun h1 h2 => pe_op (op_shlV) h1 h2) ve_int (ve_var 1)) (ve_var 7))))) va_nil))) va_nil)))))) vs_nil))))
  (vs_one vs_never))))))
theorem ok_three_squares {f : Addr} {fd : FuncData} (F : FnP K "three_squares" s_three_squares f fd) (m : mg "three_squares" = some (.ref f)) (Zm : ZZ K mg) {f_check_sum : Addr} {d_check_sum : FuncData} (C_check_sum : Cal P w K mg base 2 "check_sum" ["number"] (LF K sp_check_sum) f_check_sum d_check_sum) {f_root : Addr} {d_root : FuncData} (C_root : Cal P w K mg base 1 "root" ["number"] (LF K sp_root) f_root d_root) {f_two_squares : Addr} {d_two_squares : FuncData} (C_two_squares : Cal P w K mg base 3 "two_squares" ["number"] (LF K sp_two_squares) f_two_squares d_two_squares)
    (hl : ∀ ds Q, sp_three_squares ds Q → ds.length = 1) (hq : ∀ ds Q, sp_three_squares ds Q → rd_three_squares { nx := fun _ => Q .none, rt := fun d _ => Q d } (ev0 ["number", "times", "rest", "x", "answer", "pair", "found", "one"] ds)) :
    Cal P w K mg base 4 "three_squares" ["number"] (LF K sp_three_squares) f fd :=
  ⟨fn_ok F sc_three_squares hl (fun cdv A outer s H E B hr => der_three_squares Zm C_check_sum C_root C_two_squares hr) hq, F.bindsN fun _ _ _ _ _ _ us hl => match us, hl with | [_], _ => rfl, F.kp, m⟩

/-! ### four_squares: ["number", "answer", "row", "one"] -/
theorem sc_four_squares : FnScope ["number", "answer", "row", "one"] ["number"] (defScope s_four_squares) := ⟨rfl, rfl, rfl, by decide +kernel, rfl, by decide +kernel, by decide +kernel⟩
def rd_four_squares : VS := (vSeq (vDrop (vCall sp_check_sum (vCons (vVar 0) vNil)))
  (vSeq (vAsg (vCall sp_three_squares (vCons (vVar 0) vNil)) (gT 2 (gsC (gN 1) (gsC (gN 2) gs0))))
  (vSeq (vIfS (vTru (vVar 1)) (vRet (vBin dAdd (vVar 2) (vTup (vCons (vC (.int 0)) vNil)))) vNext)
  (vSeq (vSet 3 (vBin (d2 shlOk fun i j => .int (i * 2 ^ j.toNat)) (vC (.int 1)) (vBin dIx (vVar 2) (vC (.int 0)))))
  (vRet (vCall cTup (vCons (vOf (vCallO (cSrt true) (vCons (vBin dAdd (vBin dIx (vCall sp_three_squares (vCons (vBin (d20 fun i j => .int (i - j)) (vVar 0) (vBin dMul (vVar 3) (vVar 3))) vNil)) (vC (.int 1))) (vTup (vCons (vVar 3) vNil))) vNil))) vNil)))))))
theorem der_four_squares (Zm : ZZ K mg) {f_check_sum : Addr} {d_check_sum : FuncData} (C_check_sum : Cal P w K mg base 2 "check_sum" ["number"] (LF K sp_check_sum) f_check_sum d_check_sum) {f_three_squares : Addr} {d_three_squares : FuncData} (C_three_squares : Cal P w K mg base 4 "three_squares" ["number"] (LF K sp_three_squares) f_three_squares d_three_squares) {f : Addr} {cdv : Value} {A : Around} {outer : List Env} {s : Shared} {H : Hp} {E : XK} {B : Addr → Prop} (hr : Room 4 (A.deeper (envOfC "four_squares" (defScope s_four_squares) s.heap.objs.size f cdv))) :
    VSs (cxOf CX0 P w K mg base ["number", "answer", "row", "one"] "four_squares" (defScope s_four_squares) f cdv A outer s H E).nox ⟨B, none⟩ (defBody s_four_squares) rd_four_squares :=
  (vs_cons (vs_expr (ve_call C_check_sum.ok (hr.mono (by decide)) (by rfl) C_check_sum.m C_check_sum.kp C_check_sum.b (va_cons (ve_var 0) va_nil)))
  (vs_cons (vs_asg (vs := [1, 2]) (ve_call C_three_squares.ok (hr.mono (by decide)) (by rfl) C_three_squares.m C_three_squares.kp C_three_squares.b (va_cons (ve_var 0) va_nil)) (vg_tup (by rfl) (vgs_cons (vg_name 1 sc_four_squares.nd rfl (by first | exact Or.inl rfl | exact Or.inr rfl) (Or.inl rfl) (by decide)) (vgs_cons (vg_name 2 sc_four_squares.nd rfl (by first | exact Or.inl rfl | exact Or.inr rfl) (Or.inl rfl) (by decide)) vgs_nil))))
  (vs_cons (vs_if (vb_tru (ve_var 1)) (vs_one (vs_ret (ve_bin ov_add (fun h1 h2 => pe_op (op_add.or (op_catA.or op_cat)) h1 h2) (ve_var 2) (ve_tup (va_cons ve_int va_nil))))) vs_nil)
  (vs_cons (vs_set 3 sc_four_squares.nd rfl (by first | exact Or.inl rfl | exact Or.inr rfl) (Or.inl rfl) (ve_bin ov_I (fun h1 h2 => pe_op (op_shlV) h1 h2) ve_int (ve_bin ov_ix (fun h1 h2 => pe_ix (ix_list.or ix_tup) h1 h2 (fun _ _ => rfl)) (ve_var 2) ve_int)))
  (vs_one (vs_ret (ve_callC cv_tup (fun h => pe_callTy call_tuple_of (by rfl) Zm.z_tuple (by decide +kernel) h) (VA.vt (va_cons (VO.ve (vo_srtRev (by rfl) Zm.z_sorted (VA.vt (va_cons (ve_bin ov_add (fun h1 h2 => pe_op (op_add.or (op_catA.or op_cat)) h1 h2) (ve_bin ov_ix (fun h1 h2 => pe_ix (ix_list.or ix_tup) h1 h2 (fun _ _ => rfl)) (ve_call C_three_squares.ok (hr.mono (by decide)) (by rfl) C_three_squares.m C_three_squares.kp C_three_squares.b (va_cons (ve_bin ov_I0 (fun h1 h2 => pe_op (op_sub) h1 h2) (ve_var 0) (ve_bin ov_mul (fun h1 h2 => pe_op (op_mulV.or op_repT) h1 h2) (ve_var 3) (ve_var 3))) va_nil)) ve_int) (ve_tup (va_cons (ve_var 3) va_nil))) va_nil)))) va_nil)))))))))
theorem ok_four_squares {f : Addr} {fd : FuncData} (F : FnP K "four_squares" s_four_squares f fd) (m : mg "four_squares" = some (.ref f)) (Zm : ZZ K mg) {f_check_sum : Addr} {d_check_sum : FuncData} (C_check_sum : Cal P w K mg base 2 "check_sum" ["number"] (LF K sp_check_sum) f_check_sum d_check_sum) {f_three_squares : Addr} {d_three_squares : FuncData} (C_three_squares : Cal P w K mg base 4 "three_squares" ["number"] (LF K sp_three_squares) f_three_squares d_three_squares)
    (hl : ∀ ds Q, sp_four_squares ds Q → ds.length = 1) (hq : ∀ ds Q, sp_four_squares ds Q → rd_four_squares { nx := fun _ => Q .none, rt := fun d _ => Q d } (ev0 ["number", "answer", "row", "one"] ds)) :
    Cal P w K mg base 5 "four_squares" ["number"] (LF K sp_four_squares) f fd :=
  ⟨fn_ok F sc_four_squares hl (fun cdv A outer s H E B hr => der_four_squares Zm C_check_sum C_three_squares hr) hq, F.bindsN fun _ _ _ _ _ _ us hl => match us, hl with | [_], _ => rfl, F.kp, m⟩

/-! ### is_whole: ["number"] -/
theorem sc_is_whole : FnScope ["number"] ["number"] (defScope s_is_whole) := ⟨rfl, rfl, rfl, by decide +kernel, rfl, by decide +kernel, by decide +kernel⟩
def rd_is_whole : VS := (vRet (vAndV (vIsi "int" (vVar 0)) (vNotV (vIsi "bool" (vVar 0)))))
theorem der_is_whole (Zm : ZZ K mg) {f : Addr} {cdv : Value} {A : Around} {outer : List Env} {s : Shared} {H : Hp} {E : XK} {B : Addr → Prop} (hr : Room 0 (A.deeper (envOfC "is_whole" (defScope s_is_whole) s.heap.objs.size f cdv))) :
    VSs (cxOf CX0 P w K mg base ["number"] "is_whole" (defScope s_is_whole) f cdv A outer s H E).nox ⟨B, none⟩ (defBody s_is_whole) rd_is_whole :=
  (vs_one (vs_ret (ve_and (ve_isi (T := "int") (by unfold knownT; simp) (by rfl) Zm.z_isinstance (by rfl) Zm.z_int (by decide +kernel) (by decide +kernel) (ve_var 0) (by decide) (by decide)) (ve_one (ve_not (ve_isi (T := "bool") (by unfold knownT; simp) (by rfl) Zm.z_isinstance (by rfl) Zm.z_bool (by decide +kernel) (by decide +kernel) (ve_var 0) (by decide) (by decide)))))))
theorem ok_is_whole {f : Addr} {fd : FuncData} (F : FnP K "is_whole" s_is_whole f fd) (m : mg "is_whole" = some (.ref f)) (Zm : ZZ K mg)
    (hl : ∀ ds Q, sp_is_whole ds Q → ds.length = 1) (hq : ∀ ds Q, sp_is_whole ds Q → rd_is_whole { nx := fun _ => Q .none, rt := fun d _ => Q d } (ev0 ["number"] ds)) :
    Cal P w K mg base 1 "is_whole" ["number"] (LF K sp_is_whole) f fd :=
  ⟨fn_ok F sc_is_whole hl (fun cdv A outer s H E B hr => der_is_whole Zm  hr) hq, F.bindsN fun _ _ _ _ _ _ us hl => match us, hl with | [_], _ => rfl, F.kp, m⟩

/-! ### is_row: ["row", "number"] -/
theorem sc_is_row : FnScope ["row", "number"] ["row"] (defScope s_is_row) := ⟨rfl, rfl, rfl, by decide +kernel, rfl, by decide +kernel, by decide +kernel⟩
def rd_is_row_c1_g : VG := (gN 1)
def rd_is_row_c1_t : VTB := vYes
def rd_is_row_c1_e : VT := (vCall sp_is_whole (vCons (vVar 1) vNil))

def rd_is_row : VS := (vRet (vAndV (vIsi "tuple" (vVar 0)) (vCall cAll (vCons (vOf (vLc (wT (vVar 0)) rd_is_row_c1_g rd_is_row_c1_t rd_is_row_c1_e [1])) vNil))))
theorem der_is_row (Zm : ZZ K mg) {f_is_whole : Addr} {d_is_whole : FuncData} (C_is_whole : Cal P w K mg base 1 "is_whole" ["number"] (LF K sp_is_whole) f_is_whole d_is_whole) {f : Addr} {cdv : Value} {A : Around} {outer : List Env} {s : Shared} {H : Hp} {E : XK} {B : Addr → Prop} (hr : Room 1 (A.deeper (envOfC "is_row" (defScope s_is_row) s.heap.objs.size f cdv))) :
    VSs (cxOf CX0 P w K mg base ["row", "number"] "is_row" (defScope s_is_row) f cdv A outer s H E).nox ⟨B, none⟩ (defBody s_is_row) rd_is_row :=
  (vs_one (vs_ret (ve_and (ve_isi (T := "tuple") (by unfold knownT; simp) (by rfl) Zm.z_isinstance (by rfl) Zm.z_tuple (by decide +kernel) (by decide +kernel) (ve_var 0) (by decide) (by decide)) (ve_one (ve_callC cv_all (fun h => pe_callB (cr_all rfl) (by rfl) Zm.z_all (by decide +kernel) h) (VA.vt (va_cons (VO.ve (vo_lc (own := [("number", 1)]) (by rfl) sc_is_row.nd (vw_tup (ve_var 0)) (blkOk_by (own := [("number", 1)]) (by first | decide +kernel | kernel_rfl | rfl)) (fun _ _ _ _ _ _ => (vg_name 1 sc_is_row.nd rfl (by first | exact Or.inl rfl | exact Or.inr rfl) (Or.inl rfl) (by decide))) (fun _ _ _ _ _ _ => vbs_nil) (fun _ _ _ _ _ _ => (ve_call C_is_whole.ok (hr.mono (by decide)) (by rfl) C_is_whole.m C_is_whole.kp C_is_whole.b (va_cons (ve_var 1) va_nil))))) va_nil)))))))
theorem ok_is_row {f : Addr} {fd : FuncData} (F : FnP K "is_row" s_is_row f fd) (m : mg "is_row" = some (.ref f)) (Zm : ZZ K mg) {f_is_whole : Addr} {d_is_whole : FuncData} (C_is_whole : Cal P w K mg base 1 "is_whole" ["number"] (LF K sp_is_whole) f_is_whole d_is_whole)
    (hl : ∀ ds Q, sp_is_row ds Q → ds.length = 1) (hq : ∀ ds Q, sp_is_row ds Q → rd_is_row { nx := fun _ => Q .none, rt := fun d _ => Q d } (ev0 ["row", "number"] ds)) :
    Cal P w K mg base 2 "is_row" ["row"] (LF K sp_is_row) f fd :=
  ⟨fn_ok F sc_is_row hl (fun cdv A outer s H E B hr => der_is_row Zm C_is_whole hr) hq, F.bindsN fun _ _ _ _ _ _ us hl => match us, hl with | [_], _ => rfl, F.kp, m⟩

/-! ### is_whole_quaternion: ["shape", "number"] -/
theorem sc_is_whole_quaternion : FnScope ["shape", "number"] ["shape"] (defScope s_is_whole_quaternion) := ⟨rfl, rfl, rfl, by decide +kernel, rfl, by decide +kernel, by decide +kernel⟩
def rd_is_whole_quaternion_c1_g : VG := (gN 1)
def rd_is_whole_quaternion_c1_t : VTB := vYes
def rd_is_whole_quaternion_c1_e : VT := (vBin (d2 (fun _ j => j ≠ 0) fun i j => .int (i.fmod j)) (vVar 1) (vC (.int 2)))

def rd_is_whole_quaternion : VS := (vRet (vAndV (vCall sp_is_row (vCons (vVar 0) vNil)) (vAndV (vBin dEq (vCall cLen (vCons (vVar 0) vNil)) (vC (.int 4))) (vBin dEq (vLenSet (vOf (vLc (wT (vVar 0)) rd_is_whole_quaternion_c1_g rd_is_whole_quaternion_c1_t rd_is_whole_quaternion_c1_e [1]))) (vC (.int 1))))))
theorem der_is_whole_quaternion (Zm : ZZ K mg) {f_is_row : Addr} {d_is_row : FuncData} (C_is_row : Cal P w K mg base 2 "is_row" ["row"] (LF K sp_is_row) f_is_row d_is_row) {f : Addr} {cdv : Value} {A : Around} {outer : List Env} {s : Shared} {H : Hp} {E : XK} {B : Addr → Prop} (hr : Room 2 (A.deeper (envOfC "is_whole_quaternion" (defScope s_is_whole_quaternion) s.heap.objs.size f cdv))) :
    VSs (cxOf CX0 P w K mg base ["shape", "number"] "is_whole_quaternion" (defScope s_is_whole_quaternion) f cdv A outer s H E).nox ⟨B, none⟩ (defBody s_is_whole_quaternion) rd_is_whole_quaternion :=
  (vs_one (vs_ret (ve_and (ve_call C_is_row.ok (hr.mono (by decide)) (by rfl) C_is_row.m C_is_row.kp C_is_row.b (va_cons (ve_var 0) va_nil)) (ve_and (ve_bin ov_eq (fun h1 h2 => pe_cmpR (op_eqD hr.units) h1 h2 (nomark _)) (ve_callC cv_len (fun h => pe_callB call_len_seq (by rfl) Zm.z_len PySem.boot_len h) (VA.vt (va_cons (ve_var 0) va_nil))) ve_int) (ve_one (ve_bin ov_eq (fun h1 h2 => pe_cmpR (op_eqD hr.units) h1 h2 (nomark _)) (ve_lenSet (by rfl) (by rfl) Zm.z_len (by rfl) Zm.z_set (VO.ve (vo_lc (own := [("number", 1)]) (by rfl) sc_is_whole_quaternion.nd (vw_tup (ve_var 0)) (blkOk_by (own := [("number", 1)]) (by first | decide +kernel | kernel_rfl | rfl)) (fun _ _ _ _ _ _ => (vg_name 1 sc_is_whole_quaternion.nd rfl (by first | exact Or.inl rfl | exact Or.inr rfl) (Or.inl rfl) (by decide))) (fun _ _ _ _ _ _ => vbs_nil) (fun _ _ _ _ _ _ => (ve_bin ov_I (fun h1 h2 => pe_op (op_modV) h1 h2) (ve_var 1) ve_int))))) ve_int))))))
theorem ok_is_whole_quaternion {f : Addr} {fd : FuncData} (F : FnP K "is_whole_quaternion" s_is_whole_quaternion f fd) (m : mg "is_whole_quaternion" = some (.ref f)) (Zm : ZZ K mg) {f_is_row : Addr} {d_is_row : FuncData} (C_is_row : Cal P w K mg base 2 "is_row" ["row"] (LF K sp_is_row) f_is_row d_is_row)
    (hl : ∀ ds Q, sp_is_whole_quaternion ds Q → ds.length = 1) (hq : ∀ ds Q, sp_is_whole_quaternion ds Q → rd_is_whole_quaternion { nx := fun _ => Q .none, rt := fun d _ => Q d } (ev0 ["shape", "number"] ds)) :
    Cal P w K mg base 3 "is_whole_quaternion" ["shape"] (LF K sp_is_whole_quaternion) f fd :=
  ⟨fn_ok F sc_is_whole_quaternion hl (fun cdv A outer s H E B hr => der_is_whole_quaternion Zm C_is_row hr) hq, F.bindsN fun _ _ _ _ _ _ us hl => match us, hl with | [_], _ => rfl, F.kp, m⟩

/-! ### check_quaternion: ["one"] -/
theorem sc_check_quaternion : FnScope ["one"] ["one"] (defScope s_check_quaternion) := ⟨rfl, rfl, rfl, by decide +kernel, rfl, by decide +kernel, by decide +kernel⟩
def rd_check_quaternion : VS := (vIfS (vNot (vTru (vCall sp_is_whole_quaternion (vCons (vVar 0) vNil)))) vNever vNext)
theorem der_check_quaternion (Zm : ZZ K mg) {f_is_whole_quaternion : Addr} {d_is_whole_quaternion : FuncData} (C_is_whole_quaternion : Cal P w K mg base 3 "is_whole_quaternion" ["shape"] (LF K sp_is_whole_quaternion) f_is_whole_quaternion d_is_whole_quaternion) {f : Addr} {cdv : Value} {A : Around} {outer : List Env} {s : Shared} {H : Hp} {E : XK} {B : Addr → Prop} (hr : Room 3 (A.deeper (envOfC "check_quaternion" (defScope s_check_quaternion) s.heap.objs.size f cdv))) :
    VSs (cxOf CX0 P w K mg base ["one"] "check_quaternion" (defScope s_check_quaternion) f cdv A outer s H E).nox ⟨B, none⟩ (defBody s_check_quaternion) rd_check_quaternion :=
  (vs_one (vs_if (vb_not (vb_tru (ve_call C_is_whole_quaternion.ok (hr.mono (by decide)) (by rfl) C_is_whole_quaternion.m C_is_whole_quaternion.kp C_is_whole_quaternion.b (va_cons (ve_var 0) va_nil)))) (vs_one vs_never) vs_nil))
theorem ok_check_quaternion {f : Addr} {fd : FuncData} (F : FnP K "check_quaternion" s_check_quaternion f fd) (m : mg "check_quaternion" = some (.ref f)) (Zm : ZZ K mg) {f_is_whole_quaternion : Addr} {d_is_whole_quaternion : FuncData} (C_is_whole_quaternion : Cal P w K mg base 3 "is_whole_quaternion" ["shape"] (LF K sp_is_whole_quaternion) f_is_whole_quaternion d_is_whole_quaternion)
    (hl : ∀ ds Q, sp_check_quaternion ds Q → ds.length = 1) (hq : ∀ ds Q, sp_check_quaternion ds Q → rd_check_quaternion { nx := fun _ => Q .none, rt := fun d _ => Q d } (ev0 ["one"] ds)) :
    Cal P w K mg base 4 "check_quaternion" ["one"] (LF K sp_check_quaternion) f fd :=
  ⟨fn_ok F sc_check_quaternion hl (fun cdv A outer s H E B hr => der_check_quaternion Zm C_is_whole_quaternion hr) hq, F.bindsN fun _ _ _ _ _ _ us hl => match us, hl with | [_], _ => rfl, F.kp, m⟩

/-! ### times_four: ["one", "other", "a", "b", "c", "d", "e", "f", "g", "h", "found", "number"] -/
theorem sc_times_four : FnScope ["one", "other", "a", "b", "c", "d", "e", "f", "g", "h", "found", "number"] ["one", "other"] (defScope s_times_four) := ⟨rfl, rfl, rfl, by decide +kernel, rfl, by decide +kernel, by decide +kernel⟩
def rd_times_four_c1_g : VG := (gN 11)
def rd_times_four_c1_t : VTB := vYes
def rd_times_four_c1_e : VT := (vBin (d2 (fun _ j => divOk j) fun i j => .int (i.fdiv j)) (vVar 11) (vC (.int 2)))

def rd_times_four : VS := (vSeq (vDrop (vCall sp_check_quaternion (vCons (vVar 0) vNil)))
  (vSeq (vDrop (vCall sp_check_quaternion (vCons (vVar 1) vNil)))
  (vSeq (vAsg (vTup (vCons (vVar 0) (vCons (vVar 1) vNil))) (gT 2 (gsC (gT 4 (gsC (gN 2) (gsC (gN 3) (gsC (gN 4) (gsC (gN 5) gs0))))) (gsC (gT 4 (gsC (gN 6) (gsC (gN 7) (gsC (gN 8) (gsC (gN 9) gs0))))) gs0))))
  (vSeq (vSet 10 (vTup (vCons (vBin (d20 fun i j => .int (i - j)) (vBin (d20 fun i j => .int (i - j)) (vBin (d20 fun i j => .int (i - j)) (vBin dMul (vVar 2) (vVar 6)) (vBin dMul (vVar 3) (vVar 7))) (vBin dMul (vVar 4) (vVar 8))) (vBin dMul (vVar 5) (vVar 9))) (vCons (vBin (d20 fun i j => .int (i - j)) (vBin dAdd (vBin dAdd (vBin dMul (vVar 2) (vVar 7)) (vBin dMul (vVar 3) (vVar 6))) (vBin dMul (vVar 4) (vVar 9))) (vBin dMul (vVar 5) (vVar 8))) (vCons (vBin dAdd (vBin dAdd (vBin (d20 fun i j => .int (i - j)) (vBin dMul (vVar 2) (vVar 8)) (vBin dMul (vVar 3) (vVar 9))) (vBin dMul (vVar 4) (vVar 6))) (vBin dMul (vVar 5) (vVar 7))) (vCons (vBin dAdd (vBin (d20 fun i j => .int (i - j)) (vBin dAdd (vBin dMul (vVar 2) (vVar 9)) (vBin dMul (vVar 3) (vVar 8))) (vBin dMul (vVar 4) (vVar 7))) (vBin dMul (vVar 5) (vVar 6))) vNil))))))
  (vRet (vCall cTup (vCons (vOf (vLc (wT (vVar 10)) rd_times_four_c1_g rd_times_four_c1_t rd_times_four_c1_e [11])) vNil)))))))
theorem der_times_four (Zm : ZZ K mg) {f_check_quaternion : Addr} {d_check_quaternion : FuncData} (C_check_quaternion : Cal P w K mg base 4 "check_quaternion" ["one"] (LF K sp_check_quaternion) f_check_quaternion d_check_quaternion) {f : Addr} {cdv : Value} {A : Around} {outer : List Env} {s : Shared} {H : Hp} {E : XK} {B : Addr → Prop} (hr : Room 4 (A.deeper (envOfC "times_four" (defScope s_times_four) s.heap.objs.size f cdv))) :
    VSs (cxOf CX0 P w K mg base ["one", "other", "a", "b", "c", "d", "e", "f", "g", "h", "found", "number"] "times_four" (defScope s_times_four) f cdv A outer s H E).nox ⟨B, none⟩ (defBody s_times_four) rd_times_four :=
  (vs_cons (vs_expr (ve_call C_check_quaternion.ok (hr.mono (by decide)) (by rfl) C_check_quaternion.m C_check_quaternion.kp C_check_quaternion.b (va_cons (ve_var 0) va_nil)))
  (vs_cons (vs_expr (ve_call C_check_quaternion.ok (hr.mono (by decide)) (by rfl) C_check_quaternion.m C_check_quaternion.kp C_check_quaternion.b (va_cons (ve_var 1) va_nil)))
  (vs_cons (vs_asg (vs := [2, 3, 4, 5, 6, 7, 8, 9]) (ve_tup (va_cons (ve_var 0) (va_cons (ve_var 1) va_nil))) (vg_tup (by rfl) (vgs_cons (vg_tup (by rfl) (vgs_cons (vg_name 2 sc_times_four.nd rfl (by first | exact Or.inl rfl | exact Or.inr rfl) (Or.inl rfl) (by decide)) (vgs_cons (vg_name 3 sc_times_four.nd rfl (by first | exact Or.inl rfl | exact Or.inr rfl) (Or.inl rfl) (by decide)) (vgs_cons (vg_name 4 sc_times_four.nd rfl (by first | exact Or.inl rfl | exact Or.inr rfl) (Or.inl rfl) (by decide)) (vgs_cons (vg_name 5 sc_times_four.nd rfl (by first | exact Or.inl rfl | exact Or.inr rfl) (Or.inl rfl) (by decide)) vgs_nil))))) (vgs_cons (vg_tup (by rfl) (vgs_cons (vg_name 6 sc_times_four.nd rfl (by first | exact Or.inl rfl | exact Or.inr rfl) (Or.inl rfl) (by decide)) (vgs_cons (vg_name 7 sc_times_four.nd rfl (by first | exact Or.inl rfl | exact Or.inr rfl) (Or.inl rfl) (by decide)) (vgs_cons (vg_name 8 sc_times_four.nd rfl (by first | exact Or.inl rfl | exact Or.inr rfl) (Or.inl rfl) (by decide)) (vgs_cons (vg_name 9 sc_times_four.nd rfl (by first | exact Or.inl rfl | exact Or.inr rfl) (Or.inl rfl) (by decide)) vgs_nil))))) vgs_nil))))
  (vs_cons (vs_set 10 sc_times_four.nd rfl (by first | exact Or.inl rfl | exact Or.inr rfl) (Or.inl rfl) (ve_tup (va_cons (ve_bin ov_I0 (fun h1 h2 => pe_op (op_sub) h1 h2) (ve_bin ov_I0 (fun h1 h2 => pe_op (op_sub) h1 h2) (ve_bin ov_I0 (fun h1 h2 => pe_op (op_sub) h1 h2) (ve_bin ov_mul (fun h1 h2 => pe_op (op_mulV.or op_repT) h1 h2) (ve_var 2) (ve_var 6)) (ve_bin ov_mul (fun h1 h2 => pe_op (op_mulV.or op_repT) h1 h2) (ve_var 3) (ve_var 7))) (ve_bin ov_mul (fun h1 h2 => pe_op (op_mulV.or op_repT) h1 h2) (ve_var 4) (ve_var 8))) (ve_bin ov_mul (fun h1 h2 => pe_op (op_mulV.or op_repT) h1 h2) (ve_var 5) (ve_var 9))) (va_cons (ve_bin ov_I0 (fun h1 h2 => pe_op (op_sub) h1 h2) (ve_bin ov_add (fun h1 h2 => pe_op (op_add.or (op_catA.or op_cat)) h1 h2) (ve_bin ov_add (fun h1 h2 => pe_op (op_add.or (op_catA.or op_cat)) h1 h2) (ve_bin ov_mul (fun h1 h2 => pe_op (op_mulV.or op_repT) h1 h2) (ve_var 2) (ve_var 7)) (ve_bin ov_mul (fun h1 h2 => pe_op (op_mulV.or op_repT) h1 h2) (ve_var 3) (ve_var 6))) (ve_bin ov_mul (fun h1 h2 => pe_op (op_mulV.or op_repT) h1 h2) (ve_var 4) (ve_var 9))) (ve_bin ov_mul (fun h1 h2 => pe_op (op_mulV.or op_repT) h1 h2) (ve_var 5) (ve_var 8))) (va_cons (ve_bin ov_add (fun h1 h2 => pe_op (op_add.or (op_catA.or op_cat)) h1 h2) (ve_bin ov_add (fun h1 h2 => pe_op (op_add.or (op_catA.or op_cat)) h1 h2) (ve_bin ov_I0 (fun h1 h2 => pe_op (op_sub) h1 h2) (ve_bin ov_mul (fun h1 h2 => pe_op (op_mulV.or op_repT) h1 h2) (ve_var 2) (ve_var 8)) (ve_bin ov_mul (fun h1 h2 => pe_op (op_mulV.or op_repT) h1 h2) (ve_var 3) (ve_var 9))) (ve_bin ov_mul (fun h1 h2 => pe_op (op_mulV.or op_repT) h1 h2) (ve_var 4) (ve_var 6))) (ve_bin ov_mul (fun h1 h2 => pe_op (op_mulV.or op_repT) h1 h2) (ve_var 5) (ve_var 7))) (va_cons (ve_bin ov_add (fun h1 h2 => pe_op (op_add.or (op_catA.or op_cat)) h1 h2) (ve_bin ov_I0 (fun h1 h2 => pe_op (op_sub) h1 h2) (ve_bin ov_add (fun h1 h2 => pe_op (op_add.or (op_catA.or op_cat)) h1 h2) (ve_bin ov_mul (fun h1 h2 => pe_op (op_mulV.or op_repT) h1 h2) (ve_var 2) (ve_var 9)) (ve_bin ov_mul (fun h1 h2 => pe_op (op_mulV.or op_repT) h1 h2) (ve_var 3) (ve_var 8))) (ve_bin ov_mul (fun h1 h2 => pe_op (op_mulV.or op_repT) h1 h2) (ve_var 4) (ve_var 7))) (ve_bin ov_mul (fun h1 h2 => pe_op (op_mulV.or op_repT) h1 h2) (ve_var 5) (ve_var 6))) va_nil))))))
  (vs_one (vs_ret (ve_callC cv_tup (fun h => pe_callTy call_tuple_of (by rfl) Zm.z_tuple (by decide +kernel) h) (VA.vt (va_cons (VO.ve (vo_lc (own := [("number", 11)]) (by rfl) sc_times_four.nd (vw_tup (ve_var 10)) (blkOk_by (own := [("number", 11)]) (by first | decide +kernel | kernel_rfl | rfl)) (fun _ _ _ _ _ _ => (vg_name 11 sc_times_four.nd rfl (by first | exact Or.inl rfl | exact Or.inr rfl) (Or.inl rfl) (by decide))) (fun _ _ _ _ _ _ => vbs_nil) (fun _ _ _ _ _ _ => (ve_bin ov_I (fun h1 h2 => pe_op (op_fdivV) h1 h2) (ve_var 11) ve_int)))) va_nil)))))))))
theorem ok_times_four {f : Addr} {fd : FuncData} (F : FnP K "times_four" s_times_four f fd) (m : mg "times_four" = some (.ref f)) (Zm : ZZ K mg) {f_check_quaternion : Addr} {d_check_quaternion : FuncData} (C_check_quaternion : Cal P w K mg base 4 "check_quaternion" ["one"] (LF K sp_check_quaternion) f_check_quaternion d_check_quaternion)
    (hl : ∀ ds Q, sp_times_four ds Q → ds.length = 2) (hq : ∀ ds Q, sp_times_four ds Q → rd_times_four { nx := fun _ => Q .none, rt := fun d _ => Q d } (ev0 ["one", "other", "a", "b", "c", "d", "e", "f", "g", "h", "found", "number"] ds)) :
    Cal P w K mg base 5 "times_four" ["one", "other"] (LF K sp_times_four) f fd :=
  ⟨fn_ok F sc_times_four hl (fun cdv A outer s H E B hr => der_times_four Zm C_check_quaternion hr) hq, F.bindsN fun _ _ _ _ _ _ us hl => match us, hl with | [_, _], _ => rfl, F.kp, m⟩

/-! ### turned_four: ["one"] -/
theorem sc_turned_four : FnScope ["one"] ["one"] (defScope s_turned_four) := ⟨rfl, rfl, rfl, by decide +kernel, rfl, by decide +kernel, by decide +kernel⟩
def rd_turned_four : VS := (vRet (vTup (vCons (vBin dIx (vVar 0) (vC (.int 0))) (vCons (vBin (d20 fun i j => .int (i - j)) (vC (.int 0)) (vBin dIx (vVar 0) (vC (.int 1)))) (vCons (vBin (d20 fun i j => .int (i - j)) (vC (.int 0)) (vBin dIx (vVar 0) (vC (.int 2)))) (vCons (vBin (d20 fun i j => .int (i - j)) (vC (.int 0)) (vBin dIx (vVar 0) (vC (.int 3)))) vNil))))))
theorem der_turned_four (Zm : ZZ K mg) {f : Addr} {cdv : Value} {A : Around} {outer : List Env} {s : Shared} {H : Hp} {E : XK} {B : Addr → Prop} (hr : Room 0 (A.deeper (envOfC "turned_four" (defScope s_turned_four) s.heap.objs.size f cdv))) :
    VSs (cxOf CX0 P w K mg base ["one"] "turned_four" (defScope s_turned_four) f cdv A outer s H E).nox ⟨B, none⟩ (defBody s_turned_four) rd_turned_four :=
  (vs_one (vs_ret (ve_tup (va_cons (ve_bin ov_ix (fun h1 h2 => pe_ix (ix_list.or ix_tup) h1 h2 (fun _ _ => rfl)) (ve_var 0) ve_int) (va_cons (ve_bin ov_I0 (fun h1 h2 => pe_op (op_sub) h1 h2) ve_int (ve_bin ov_ix (fun h1 h2 => pe_ix (ix_list.or ix_tup) h1 h2 (fun _ _ => rfl)) (ve_var 0) ve_int)) (va_cons (ve_bin ov_I0 (fun h1 h2 => pe_op (op_sub) h1 h2) ve_int (ve_bin ov_ix (fun h1 h2 => pe_ix (ix_list.or ix_tup) h1 h2 (fun _ _ => rfl)) (ve_var 0) ve_int)) (va_cons (ve_bin ov_I0 (fun h1 h2 => pe_op (op_sub) h1 h2) ve_int (ve_bin ov_ix (fun h1 h2 => pe_ix (ix_list.or ix_tup) h1 h2 (fun _ _ => rfl)) (ve_var 0) ve_int)) va_nil)))))))
theorem ok_turned_four {f : Addr} {fd : FuncData} (F : FnP K "turned_four" s_turned_four f fd) (m : mg "turned_four" = some (.ref f)) (Zm : ZZ K mg)
    (hl : ∀ ds Q, sp_turned_four ds Q → ds.length = 1) (hq : ∀ ds Q, sp_turned_four ds Q → rd_turned_four { nx := fun _ => Q .none, rt := fun d _ => Q d } (ev0 ["one"] ds)) :
    Cal P w K mg base 1 "turned_four" ["one"] (LF K sp_turned_four) f fd :=
  ⟨fn_ok F sc_turned_four hl (fun cdv A outer s H E B hr => der_turned_four Zm  hr) hq, F.bindsN fun _ _ _ _ _ _ us hl => match us, hl with | [_], _ => rfl, F.kp, m⟩

/-! ### norm_four: ["one", "number"] -/
theorem sc_norm_four : FnScope ["one", "number"] ["one"] (defScope s_norm_four) := ⟨rfl, rfl, rfl, by decide +kernel, rfl, by decide +kernel, by decide +kernel⟩
def rd_norm_four_c1_g : VG := (gN 1)
def rd_norm_four_c1_t : VTB := vYes
def rd_norm_four_c1_e : VT := (vBin dMul (vVar 1) (vVar 1))

def rd_norm_four : VS := (vSeq (vDrop (vCall sp_check_quaternion (vCons (vVar 0) vNil)))
  (vRet (vBin (d2 (fun _ j => divOk j) fun i j => .int (i.fdiv j)) (vCall cSum (vCons (vOf (vLc (wT (vVar 0)) rd_norm_four_c1_g rd_norm_four_c1_t rd_norm_four_c1_e [1])) vNil)) (vC (.int 4)))))
theorem der_norm_four (Zm : ZZ K mg) {f_check_quaternion : Addr} {d_check_quaternion : FuncData} (C_check_quaternion : Cal P w K mg base 4 "check_quaternion" ["one"] (LF K sp_check_quaternion) f_check_quaternion d_check_quaternion) {f : Addr} {cdv : Value} {A : Around} {outer : List Env} {s : Shared} {H : Hp} {E : XK} {B : Addr → Prop} (hr : Room 4 (A.deeper (envOfC "norm_four" (defScope s_norm_four) s.heap.objs.size f cdv))) :
    VSs (cxOf CX0 P w K mg base ["one", "number"] "norm_four" (defScope s_norm_four) f cdv A outer s H E).nox ⟨B, none⟩ (defBody s_norm_four) rd_norm_four :=
  (vs_cons (vs_expr (ve_call C_check_quaternion.ok (hr.mono (by decide)) (by rfl) C_check_quaternion.m C_check_quaternion.kp C_check_quaternion.b (va_cons (ve_var 0) va_nil)))
  (vs_one (vs_ret (ve_bin ov_I (fun h1 h2 => pe_op (op_fdivV) h1 h2) (ve_callC cv_sum (fun h => pe_callB (cr_sum rfl) (by rfl) Zm.z_sum (by decide +kernel) h) (VA.vt (va_cons (VO.ve (vo_lc (own := [("number", 1)]) (by rfl) sc_norm_four.nd (vw_tup (ve_var 0)) (blkOk_by (own := [("number", 1)]) (by first | decide +kernel | kernel_rfl | rfl)) (fun _ _ _ _ _ _ => (vg_name 1 sc_norm_four.nd rfl (by first | exact Or.inl rfl | exact Or.inr rfl) (Or.inl rfl) (by decide))) (fun _ _ _ _ _ _ => vbs_nil) (fun _ _ _ _ _ _ => (ve_bin ov_mul (fun h1 h2 => pe_op (op_mulV.or op_repT) h1 h2) (ve_var 1) (ve_var 1))))) va_nil))) ve_int))))
theorem ok_norm_four {f : Addr} {fd : FuncData} (F : FnP K "norm_four" s_norm_four f fd) (m : mg "norm_four" = some (.ref f)) (Zm : ZZ K mg) {f_check_quaternion : Addr} {d_check_quaternion : FuncData} (C_check_quaternion : Cal P w K mg base 4 "check_quaternion" ["one"] (LF K sp_check_quaternion) f_check_quaternion d_check_quaternion)
    (hl : ∀ ds Q, sp_norm_four ds Q → ds.length = 1) (hq : ∀ ds Q, sp_norm_four ds Q → rd_norm_four { nx := fun _ => Q .none, rt := fun d _ => Q d } (ev0 ["one", "number"] ds)) :
    Cal P w K mg base 5 "norm_four" ["one"] (LF K sp_norm_four) f fd :=
  ⟨fn_ok F sc_norm_four hl (fun cdv A outer s H E B hr => der_norm_four Zm C_check_quaternion hr) hq, F.bindsN fun _ _ _ _ _ _ us hl => match us, hl with | [_], _ => rfl, F.kp, m⟩

/-! ### less_four: ["one", "other", "a", "b"] -/
theorem sc_less_four : FnScope ["one", "other", "a", "b"] ["one", "other"] (defScope s_less_four) := ⟨rfl, rfl, rfl, by decide +kernel, rfl, by decide +kernel, by decide +kernel⟩
def rd_less_four_c1_g : VG := (gT 2 (gsC (gN 2) (gsC (gN 3) gs0)))
def rd_less_four_c1_t : VTB := vYes
def rd_less_four_c1_e : VT := (vBin (d20 fun i j => .int (i - j)) (vVar 2) (vVar 3))

def rd_less_four : VS := (vRet (vCall cTup (vCons (vOf (vLc (wZip (vVar 0) (vVar 1)) rd_less_four_c1_g rd_less_four_c1_t rd_less_four_c1_e [2, 3])) vNil)))
theorem der_less_four (Zm : ZZ K mg) {f : Addr} {cdv : Value} {A : Around} {outer : List Env} {s : Shared} {H : Hp} {E : XK} {B : Addr → Prop} (hr : Room 0 (A.deeper (envOfC "less_four" (defScope s_less_four) s.heap.objs.size f cdv))) :
    VSs (cxOf CX0 P w K mg base ["one", "other", "a", "b"] "less_four" (defScope s_less_four) f cdv A outer s H E).nox ⟨B, none⟩ (defBody s_less_four) rd_less_four :=
  (vs_one (vs_ret (ve_callC cv_tup (fun h => pe_callTy call_tuple_of (by rfl) Zm.z_tuple (by decide +kernel) h) (VA.vt (va_cons (VO.ve (vo_lc (own := [("a", 2), ("b", 3)]) (by rfl) sc_less_four.nd (vw_zip (by rfl) Zm.z_zip (ve_var 0) (ve_var 1)) (blkOk_by (own := [("a", 2), ("b", 3)]) (by first | decide +kernel | kernel_rfl | rfl)) (fun _ _ _ _ _ _ => (vg_tup (by rfl) (vgs_cons (vg_name 2 sc_less_four.nd rfl (by first | exact Or.inl rfl | exact Or.inr rfl) (Or.inl rfl) (by decide)) (vgs_cons (vg_name 3 sc_less_four.nd rfl (by first | exact Or.inl rfl | exact Or.inr rfl) (Or.inl rfl) (by decide)) vgs_nil)))) (fun _ _ _ _ _ _ => vbs_nil) (fun _ _ _ _ _ _ => (ve_bin ov_I0 (fun h1 h2 => pe_op (op_sub) h1 h2) (ve_var 2) (ve_var 3))))) va_nil)))))
theorem ok_less_four {f : Addr} {fd : FuncData} (F : FnP K "less_four" s_less_four f fd) (m : mg "less_four" = some (.ref f)) (Zm : ZZ K mg)
    (hl : ∀ ds Q, sp_less_four ds Q → ds.length = 2) (hq : ∀ ds Q, sp_less_four ds Q → rd_less_four { nx := fun _ => Q .none, rt := fun d _ => Q d } (ev0 ["one", "other", "a", "b"] ds)) :
    Cal P w K mg base 1 "less_four" ["one", "other"] (LF K sp_less_four) f fd :=
  ⟨fn_ok F sc_less_four hl (fun cdv A outer s H E B hr => der_less_four Zm  hr) hq, F.bindsN fun _ _ _ _ _ _ us hl => match us, hl with | [_, _], _ => rfl, F.kp, m⟩

/-! ### nearest_four: ["numbers", "below", "even", "odd", "distances", "one", "number", "a", "b"] -/
theorem sc_nearest_four : FnScope ["numbers", "below", "even", "odd", "distances", "one", "number", "a", "b"] ["numbers", "below"] (defScope s_nearest_four) := ⟨rfl, rfl, rfl, by decide +kernel, rfl, by decide +kernel, by decide +kernel⟩
def rd_nearest_four_c1_g : VG := (gN 6)
def rd_nearest_four_c1_t : VTB := vYes
def rd_nearest_four_c1_e : VT := (vBin dMul (vC (.int 2)) (vBin (d2 (fun _ j => divOk j) fun i j => .int (i.fdiv j)) (vBin dAdd (vVar 6) (vVar 1)) (vBin dMul (vC (.int 2)) (vVar 1))))

def rd_nearest_four_c2_g : VG := (gN 6)
def rd_nearest_four_c2_t : VTB := vYes
def rd_nearest_four_c2_e : VT := (vBin dAdd (vBin dMul (vC (.int 2)) (vBin (d2 (fun _ j => divOk j) fun i j => .int (i.fdiv j)) (vVar 6) (vBin dMul (vC (.int 2)) (vVar 1)))) (vC (.int 1)))

def rd_nearest_four_c4_g : VG := (gT 2 (gsC (gN 7) (gsC (gN 8) gs0)))
def rd_nearest_four_c4_t : VTB := vYes
def rd_nearest_four_c4_e : VT := (vBin dMul (vBin (d20 fun i j => .int (i - j)) (vBin dMul (vVar 1) (vVar 7)) (vVar 8)) (vBin (d20 fun i j => .int (i - j)) (vBin dMul (vVar 1) (vVar 7)) (vVar 8)))

def rd_nearest_four_f3g : VG := (gN 5)
def rd_nearest_four_f3b : VS := (vAppend 4 (vTup (vCons (vCall cSum (vCons (vOf (vLc (wZip (vVar 5) (vVar 0)) rd_nearest_four_c4_g rd_nearest_four_c4_t rd_nearest_four_c4_e [7, 8])) vNil)) (vCons (vVar 5) vNil))))

def rd_nearest_four : VS := (vSeq (vSet 2 (vCall cTup (vCons (vOf (vLc (wT (vVar 0)) rd_nearest_four_c1_g rd_nearest_four_c1_t rd_nearest_four_c1_e [6])) vNil)))
  (vSeq (vSet 3 (vCall cTup (vCons (vOf (vLc (wT (vVar 0)) rd_nearest_four_c2_g rd_nearest_four_c2_t rd_nearest_four_c2_e [6])) vNil)))
  (vSeq (vSetO 4 vNil)
  (vSeq (vForS (wT (vTup (vCons (vVar 2) (vCons (vVar 3) vNil)))) rd_nearest_four_f3g rd_nearest_four_f3b)
  (vRet (vBin dIx (vCall cMinD (vLookA 4)) (vC (.int 1))))))))
theorem der_nearest_four (Zm : ZZ K mg) {f : Addr} {cdv : Value} {A : Around} {outer : List Env} {s : Shared} {H : Hp} {E : XK} {B : Addr → Prop} (hr : Room 0 (A.deeper (envOfC "nearest_four" (defScope s_nearest_four) s.heap.objs.size f cdv))) :
    VSs (cxOf CX0 P w K mg base ["numbers", "below", "even", "odd", "distances", "one", "number", "a", "b"] "nearest_four" (defScope s_nearest_four) f cdv A outer s H E).nox ⟨B, none⟩ (defBody s_nearest_four) rd_nearest_four :=
  (vs_cons (vs_set 2 sc_nearest_four.nd rfl (by first | exact Or.inl rfl | exact Or.inr rfl) (Or.inl rfl) (ve_callC cv_tup (fun h => pe_callTy call_tuple_of (by rfl) Zm.z_tuple (by decide +kernel) h) (VA.vt (va_cons (VO.ve (vo_lc (own := [("number", 6)]) (by rfl) sc_nearest_four.nd (vw_tup (ve_var 0)) (blkOk_by (own := [("number", 6)]) (by first | decide +kernel | kernel_rfl | rfl)) (fun _ _ _ _ _ _ => (vg_name 6 sc_nearest_four.nd rfl (by first | exact Or.inl rfl | exact Or.inr rfl) (Or.inl rfl) (by decide))) (fun _ _ _ _ _ _ => vbs_nil) (fun _ _ _ _ _ _ => (ve_bin ov_mul (fun h1 h2 => pe_op (op_mulV.or op_repT) h1 h2) ve_int (ve_bin ov_I (fun h1 h2 => pe_op (op_fdivV) h1 h2) (ve_bin ov_add (fun h1 h2 => pe_op (op_add.or (op_catA.or op_cat)) h1 h2) (ve_var 6) (ve_var 1)) (ve_bin ov_mul (fun h1 h2 => pe_op (op_mulV.or op_repT) h1 h2) ve_int (ve_var 1))))))) va_nil))))
  (vs_cons (vs_set 3 sc_nearest_four.nd rfl (by first | exact Or.inl rfl | exact Or.inr rfl) (Or.inl rfl) (ve_callC cv_tup (fun h => pe_callTy call_tuple_of (by rfl) Zm.z_tuple (by decide +kernel) h) (VA.vt (va_cons (VO.ve (vo_lc (own := [("number", 6)]) (by rfl) sc_nearest_four.nd (vw_tup (ve_var 0)) (blkOk_by (own := [("number", 6)]) (by first | decide +kernel | kernel_rfl | rfl)) (fun _ _ _ _ _ _ => (vg_name 6 sc_nearest_four.nd rfl (by first | exact Or.inl rfl | exact Or.inr rfl) (Or.inl rfl) (by decide))) (fun _ _ _ _ _ _ => vbs_nil) (fun _ _ _ _ _ _ => (ve_bin ov_add (fun h1 h2 => pe_op (op_add.or (op_catA.or op_cat)) h1 h2) (ve_bin ov_mul (fun h1 h2 => pe_op (op_mulV.or op_repT) h1 h2) ve_int (ve_bin ov_I (fun h1 h2 => pe_op (op_fdivV) h1 h2) (ve_var 6) (ve_bin ov_mul (fun h1 h2 => pe_op (op_mulV.or op_repT) h1 h2) ve_int (ve_var 1)))) ve_int)))) va_nil))))
  (vs_cons (vs_setO 4 sc_nearest_four.nd rfl (by first | exact Or.inl rfl | exact Or.inr rfl) (Or.inl rfl) (vo_lst va_nil))
  (vs_cons (vs_for (vs := [5]) PassesOwn.never (by rfl) (vw_tup (ve_tup (va_cons (ve_var 2) (va_cons (ve_var 3) va_nil)))) (vg_name 5 sc_nearest_four.nd rfl (by first | exact Or.inl rfl | exact Or.inr rfl) (Or.inl rfl) (by decide)) (vs_one (vs_append 4 (pv 4) (ve_tup (va_cons (ve_callC cv_sum (fun h => pe_callB (cr_sum rfl) (by rfl) Zm.z_sum (by decide +kernel) h) (VA.vt (va_cons (VO.ve (vo_lc (own := [("a", 7), ("b", 8)]) (by rfl) sc_nearest_four.nd (vw_zip (by rfl) Zm.z_zip (ve_var 5) (ve_var 0)) (blkOk_by (own := [("a", 7), ("b", 8)]) (by first | decide +kernel | kernel_rfl | rfl)) (fun _ _ _ _ _ _ => (vg_tup (by rfl) (vgs_cons (vg_name 7 sc_nearest_four.nd rfl (by first | exact Or.inl rfl | exact Or.inr rfl) (Or.inl rfl) (by decide)) (vgs_cons (vg_name 8 sc_nearest_four.nd rfl (by first | exact Or.inl rfl | exact Or.inr rfl) (Or.inl rfl) (by decide)) vgs_nil)))) (fun _ _ _ _ _ _ => vbs_nil) (fun _ _ _ _ _ _ => (ve_bin ov_mul (fun h1 h2 => pe_op (op_mulV.or op_repT) h1 h2) (ve_bin ov_I0 (fun h1 h2 => pe_op (op_sub) h1 h2) (ve_bin ov_mul (fun h1 h2 => pe_op (op_mulV.or op_repT) h1 h2) (ve_var 1) (ve_var 7)) (ve_var 8)) (ve_bin ov_I0 (fun h1 h2 => pe_op (op_sub) h1 h2) (ve_bin ov_mul (fun h1 h2 => pe_op (op_mulV.or op_repT) h1 h2) (ve_var 1) (ve_var 7)) (ve_var 8)))))) va_nil))) (va_cons (ve_var 5) va_nil))) (fun h => mk_append (pv 4) (he := h)))))
  (vs_one (vs_ret (ve_bin ov_ix (fun h1 h2 => pe_ix (ix_list.or ix_tup) h1 h2 (fun _ _ => rfl)) (ve_callC cv_minD (fun h => pe_callB (cr_minD rfl hr.units65) (by rfl) Zm.z_min (by decide +kernel) h) (vt_lookP 4 (pv 4))) ve_int)))))))
theorem ok_nearest_four {f : Addr} {fd : FuncData} (F : FnP K "nearest_four" s_nearest_four f fd) (m : mg "nearest_four" = some (.ref f)) (Zm : ZZ K mg)
    (hl : ∀ ds Q, sp_nearest_four ds Q → ds.length = 2) (hq : ∀ ds Q, sp_nearest_four ds Q → rd_nearest_four { nx := fun _ => Q .none, rt := fun d _ => Q d } (ev0 ["numbers", "below", "even", "odd", "distances", "one", "number", "a", "b"] ds)) :
    Cal P w K mg base 1 "nearest_four" ["numbers", "below"] (LF K sp_nearest_four) f fd :=
  ⟨fn_ok F sc_nearest_four hl (fun cdv A outer s H E B hr => der_nearest_four Zm  hr) hq, F.bindsN fun _ _ _ _ _ _ us hl => match us, hl with | [_, _], _ => rfl, F.kp, m⟩

/-! ### divided_four: ["one", "other", "whole", "quotient"] -/
theorem sc_divided_four : FnScope ["one", "other", "whole", "quotient"] ["one", "other"] (defScope s_divided_four) := ⟨rfl, rfl, rfl, by decide +kernel, rfl, by decide +kernel, by decide +kernel⟩
def rd_divided_four : VS := (vSeq (vDrop (vCall sp_check_quaternion (vCons (vVar 0) vNil)))
  (vSeq (vSet 2 (vCall sp_norm_four (vCons (vVar 1) vNil)))
  (vSeq (vIfS (vB (vBin dEq (vVar 2) (vC (.int 0)))) vNever vNext)
  (vSeq (vSet 3 (vCall sp_nearest_four (vCons (vCall sp_times_four (vCons (vVar 0) (vCons (vCall sp_turned_four (vCons (vVar 1) vNil)) vNil))) (vCons (vVar 2) vNil))))
  (vRet (vTup (vCons (vVar 3) (vCons (vCall sp_less_four (vCons (vVar 0) (vCons (vCall sp_times_four (vCons (vVar 3) (vCons (vVar 1) vNil))) vNil))) vNil))))))))
theorem der_divided_four (Zm : ZZ K mg) {f_check_quaternion : Addr} {d_check_quaternion : FuncData} (C_check_quaternion : Cal P w K mg base 4 "check_quaternion" ["one"] (LF K sp_check_quaternion) f_check_quaternion d_check_quaternion) {f_norm_four : Addr} {d_norm_four : FuncData} (C_norm_four : Cal P w K mg base 5 "norm_four" ["one"] (LF K sp_norm_four) f_norm_four d_norm_four) {f_nearest_four : Addr} {d_nearest_four : FuncData} (C_nearest_four : Cal P w K mg base 1 "nearest_four" ["numbers", "below"] (LF K sp_nearest_four) f_nearest_four d_nearest_four) {f_times_four : Addr} {d_times_four : FuncData} (C_times_four : Cal P w K mg base 5 "times_four" ["one", "other"] (LF K sp_times_four) f_times_four d_times_four) {f_turned_four : Addr} {d_turned_four : FuncData} (C_turned_four : Cal P w K mg base 1 "turned_four" ["one"] (LF K sp_turned_four) f_turned_four d_turned_four) {f_less_four : Addr} {d_less_four : FuncData} (C_less_four : Cal P w K mg base 1 "less_four" ["one", "other"] (LF K sp_less_four) f_less_four d_less_four) {f : Addr} {cdv : Value} {A : Around} {outer : List Env} {s : Shared} {H : Hp} {E : XK} {B : Addr → Prop} (hr : Room 5 (A.deeper (envOfC "divided_four" (defScope s_divided_four) s.heap.objs.size f cdv))) :
    VSs (cxOf CX0 P w K mg base ["one", "other", "whole", "quotient"] "divided_four" (defScope s_divided_four) f cdv A outer s H E).nox ⟨B, none⟩ (defBody s_divided_four) rd_divided_four :=
  (vs_cons (vs_expr (ve_call C_check_quaternion.ok (hr.mono (by decide)) (by rfl) C_check_quaternion.m C_check_quaternion.kp C_check_quaternion.b (va_cons (ve_var 0) va_nil)))
  (vs_cons (vs_set 2 sc_divided_four.nd rfl (by first | exact Or.inl rfl | exact Or.inr rfl) (Or.inl rfl) (ve_call C_norm_four.ok (hr.mono (by decide)) (by rfl) C_norm_four.m C_norm_four.kp C_norm_four.b (va_cons (ve_var 1) va_nil)))
  (vs_cons (vs_if (vb_cmp (op_eqD hr.units) ov_eq (nomark _) (ve_var 2) ve_int) (vs_one vs_never) vs_nil)
  (vs_cons (vs_set 3 sc_divided_four.nd rfl (by first | exact Or.inl rfl | exact Or.inr rfl) (Or.inl rfl) (ve_call C_nearest_four.ok (hr.mono (by decide)) (by rfl) C_nearest_four.m C_nearest_four.kp C_nearest_four.b (va_cons (ve_call C_times_four.ok (hr.mono (by decide)) (by rfl) C_times_four.m C_times_four.kp C_times_four.b (va_cons (ve_var 0) (va_cons (ve_call C_turned_four.ok (hr.mono (by decide)) (by rfl) C_turned_four.m C_turned_four.kp C_turned_four.b (va_cons (ve_var 1) va_nil)) va_nil))) (va_cons (ve_var 2) va_nil))))
  (vs_one (vs_ret (ve_tup (va_cons (ve_var 3) (va_cons (ve_call C_less_four.ok (hr.mono (by decide)) (by rfl) C_less_four.m C_less_four.kp C_less_four.b (va_cons (ve_var 0) (va_cons (ve_call C_times_four.ok (hr.mono (by decide)) (by rfl) C_times_four.m C_times_four.kp C_times_four.b (va_cons (ve_var 3) (va_cons (ve_var 1) va_nil))) va_nil))) va_nil)))))))))
theorem ok_divided_four {f : Addr} {fd : FuncData} (F : FnP K "divided_four" s_divided_four f fd) (m : mg "divided_four" = some (.ref f)) (Zm : ZZ K mg) {f_check_quaternion : Addr} {d_check_quaternion : FuncData} (C_check_quaternion : Cal P w K mg base 4 "check_quaternion" ["one"] (LF K sp_check_quaternion) f_check_quaternion d_check_quaternion) {f_norm_four : Addr} {d_norm_four : FuncData} (C_norm_four : Cal P w K mg base 5 "norm_four" ["one"] (LF K sp_norm_four) f_norm_four d_norm_four) {f_nearest_four : Addr} {d_nearest_four : FuncData} (C_nearest_four : Cal P w K mg base 1 "nearest_four" ["numbers", "below"] (LF K sp_nearest_four) f_nearest_four d_nearest_four) {f_times_four : Addr} {d_times_four : FuncData} (C_times_four : Cal P w K mg base 5 "times_four" ["one", "other"] (LF K sp_times_four) f_times_four d_times_four) {f_turned_four : Addr} {d_turned_four : FuncData} (C_turned_four : Cal P w K mg base 1 "turned_four" ["one"] (LF K sp_turned_four) f_turned_four d_turned_four) {f_less_four : Addr} {d_less_four : FuncData} (C_less_four : Cal P w K mg base 1 "less_four" ["one", "other"] (LF K sp_less_four) f_less_four d_less_four)
    (hl : ∀ ds Q, sp_divided_four ds Q → ds.length = 2) (hq : ∀ ds Q, sp_divided_four ds Q → rd_divided_four { nx := fun _ => Q .none, rt := fun d _ => Q d } (ev0 ["one", "other", "whole", "quotient"] ds)) :
    Cal P w K mg base 6 "divided_four" ["one", "other"] (LF K sp_divided_four) f fd :=
  ⟨fn_ok F sc_divided_four hl (fun cdv A outer s H E B hr => der_divided_four Zm C_check_quaternion C_norm_four C_nearest_four C_times_four C_turned_four C_less_four hr) hq, F.bindsN fun _ _ _ _ _ _ us hl => match us, hl with | [_, _], _ => rfl, F.kp, m⟩

/-! ### common_four: ["one", "other"] -/
theorem sc_common_four : FnScope ["one", "other"] ["one", "other"] (defScope s_common_four) := ⟨rfl, rfl, rfl, by decide +kernel, rfl, by decide +kernel, by decide +kernel⟩
def rd_common_four_w1c : VTB := (vTru (vCall cAnyI (vCons (vVar 1) vNil)))
def rd_common_four_w1b : VS := (vPar 0 1 (vVar 1) (vBin dIx (vCall sp_divided_four (vCons (vVar 0) (vCons (vVar 1) vNil))) (vC (.int 1))))

def rd_common_four : VS := (vSeq (vDrop (vCall sp_check_quaternion (vCons (vVar 0) vNil)))
  (vSeq (vDrop (vCall sp_check_quaternion (vCons (vVar 1) vNil)))
  (vSeq (vWhile rd_common_four_w1c rd_common_four_w1b)
  (vRet (vVar 0)))))
theorem der_common_four (Zm : ZZ K mg) {f_check_quaternion : Addr} {d_check_quaternion : FuncData} (C_check_quaternion : Cal P w K mg base 4 "check_quaternion" ["one"] (LF K sp_check_quaternion) f_check_quaternion d_check_quaternion) {f_divided_four : Addr} {d_divided_four : FuncData} (C_divided_four : Cal P w K mg base 6 "divided_four" ["one", "other"] (LF K sp_divided_four) f_divided_four d_divided_four) {f : Addr} {cdv : Value} {A : Around} {outer : List Env} {s : Shared} {H : Hp} {E : XK} {B : Addr → Prop} (hr : Room 6 (A.deeper (envOfC "common_four" (defScope s_common_four) s.heap.objs.size f cdv))) :
    VSs (cxOf CX0 P w K mg base ["one", "other"] "common_four" (defScope s_common_four) f cdv A outer s H E).nox ⟨B, none⟩ (defBody s_common_four) rd_common_four :=
  (vs_cons (vs_expr (ve_call C_check_quaternion.ok (hr.mono (by decide)) (by rfl) C_check_quaternion.m C_check_quaternion.kp C_check_quaternion.b (va_cons (ve_var 0) va_nil)))
  (vs_cons (vs_expr (ve_call C_check_quaternion.ok (hr.mono (by decide)) (by rfl) C_check_quaternion.m C_check_quaternion.kp C_check_quaternion.b (va_cons (ve_var 1) va_nil)))
  (vs_cons (vs_while PassesOwn.never (vb_tru (ve_callC cv_anyI (fun h => pe_callB (cr_anyI rfl) (by rfl) Zm.z_any (by decide +kernel) h) (VA.vt (va_cons (ve_var 1) va_nil)))) (vs_one (vs_par 0 1 (by rfl) sc_common_four.nd rfl rfl (by decide) (Or.inl rfl) rfl rfl (ve_var 1) (ve_bin ov_ix (fun h1 h2 => pe_ix (ix_list.or ix_tup) h1 h2 (fun _ _ => rfl)) (ve_call C_divided_four.ok (hr.mono (by decide)) (by rfl) C_divided_four.m C_divided_four.kp C_divided_four.b (va_cons (ve_var 0) (va_cons (ve_var 1) va_nil))) ve_int) (by rfl))))
  (vs_one (vs_ret (ve_var 0))))))
theorem ok_common_four {f : Addr} {fd : FuncData} (F : FnP K "common_four" s_common_four f fd) (m : mg "common_four" = some (.ref f)) (Zm : ZZ K mg) {f_check_quaternion : Addr} {d_check_quaternion : FuncData} (C_check_quaternion : Cal P w K mg base 4 "check_quaternion" ["one"] (LF K sp_check_quaternion) f_check_quaternion d_check_quaternion) {f_divided_four : Addr} {d_divided_four : FuncData} (C_divided_four : Cal P w K mg base 6 "divided_four" ["one", "other"] (LF K sp_divided_four) f_divided_four d_divided_four)
    (hl : ∀ ds Q, sp_common_four ds Q → ds.length = 2) (hq : ∀ ds Q, sp_common_four ds Q → rd_common_four { nx := fun _ => Q .none, rt := fun d _ => Q d } (ev0 ["one", "other"] ds)) :
    Cal P w K mg base 7 "common_four" ["one", "other"] (LF K sp_common_four) f fd :=
  ⟨fn_ok F sc_common_four hl (fun cdv A outer s H E B hr => der_common_four Zm C_check_quaternion C_divided_four hr) hq, F.bindsN fun _ _ _ _ _ _ us hl => match us, hl with | [_, _], _ => rfl, F.kp, m⟩

/-! ### units_four: ["found", "at", "signs", "turn", "sign", "place", "row"] -/
theorem sc_units_four : FnScope ["found", "at", "signs", "turn", "sign", "place", "row"] [] (defScope s_units_four) := ⟨rfl, rfl, rfl, by decide +kernel, rfl, by decide +kernel, by decide +kernel⟩
def rd_units_four_c2_g : VG := (gN 5)
def rd_units_four_c2_t : VTB := vYes
def rd_units_four_c2_e : VT := (vBin dMul (vVar 4) (vCall cInt (vCons (vBin dEq (vVar 1) (vVar 5)) vNil)))

def rd_units_four_c3_g : VG := (gN 4)
def rd_units_four_c3_t : VTB := vYes
def rd_units_four_c3_e : VT := (vCall cTup (vCons (vOf (vLc (wR1 (vC (.int 4))) rd_units_four_c2_g rd_units_four_c2_t rd_units_four_c2_e [5])) vNil))

def rd_units_four_f1g : VG := (gN 1)
def rd_units_four_f1b : VS := (vExt 0 (vOf (vLc (wT (vTup (vCons (vC (.int 2)) (vCons (vUn dNeg (vC (.int 2))) vNil)))) rd_units_four_c3_g rd_units_four_c3_t rd_units_four_c3_e [4])))

def rd_units_four_c5_g : VG := (gN 6)
def rd_units_four_c5_t : VTB := vYes
def rd_units_four_c5_w1 : VTA := (wT (vTup (vCons (vC (.int 1)) (vCons (vUn dNeg (vC (.int 1))) vNil))))
def rd_units_four_c5_g1 : VG := (gN 4)
def rd_units_four_c5_t1 : VTB := vYes
def rd_units_four_c5_e : VT := (vBin dAdd (vVar 6) (vTup (vCons (vVar 4) vNil)))

def rd_units_four_f4g : VG := (gN 3)
def rd_units_four_f4b : VS := (vFz 2 (vSetO 2 (vLc2 (wL (vVar 2)) rd_units_four_c5_g rd_units_four_c5_t rd_units_four_c5_w1 rd_units_four_c5_g1 rd_units_four_c5_t1 rd_units_four_c5_e [6, 4] [4])))

def rd_units_four : VS := (vSeq (vSetO 0 vNil)
  (vSeq (vForS (wR1 (vC (.int 4))) rd_units_four_f1g rd_units_four_f1b)
  (vSeq (vSetO 2 (vCons (vTup vNil) vNil))
  (vSeq (vForS (wR1 (vC (.int 4))) rd_units_four_f4g rd_units_four_f4b)
  (vFz 2 (vRet (vOf (vCallO (cSrt false) (vCons (vBinL dAdd 0 (vVar 2)) vNil)))))))))
theorem der_units_four (Zm : ZZ K mg) {f : Addr} {cdv : Value} {A : Around} {outer : List Env} {s : Shared} {H : Hp} {E : XK} {B : Addr → Prop} (hr : Room 0 (A.deeper (envOfC "units_four" (defScope s_units_four) s.heap.objs.size f cdv))) :
    VSs (cxOf CX0 P w K mg base ["found", "at", "signs", "turn", "sign", "place", "row"] "units_four" (defScope s_units_four) f cdv A outer s H E).nox ⟨B, none⟩ (defBody s_units_four) rd_units_four :=
  (vs_cons (vs_setO 0 sc_units_four.nd rfl (by first | exact Or.inl rfl | exact Or.inr rfl) (Or.inl rfl) (vo_lst va_nil))
  (vs_cons (vs_for (vs := [1]) PassesOwn.never (by rfl) (vw_rng1 (by rfl) Zm.z_range ve_int) (vg_name 1 sc_units_four.nd rfl (by first | exact Or.inl rfl | exact Or.inr rfl) (Or.inl rfl) (by decide)) (vs_one (vs_ext 0 sc_units_four.nd rfl (by first | exact Or.inl rfl | exact Or.inr rfl) (VO.ve (vo_lc (own := [("sign", 4)]) (by rfl) sc_units_four.nd (vw_tup (ve_tup (va_cons ve_int (va_cons (ve_un uv_neg (fun h => pe_un un_neg h) ve_int) va_nil)))) (blkOk_by (own := [("sign", 4)]) (by first | decide +kernel | kernel_rfl | rfl)) (fun _ _ _ _ _ _ => (vg_name 4 sc_units_four.nd rfl (by first | exact Or.inl rfl | exact Or.inr rfl) (Or.inl rfl) (by decide))) (fun _ _ _ _ _ _ => vbs_nil) (fun _ _ _ _ _ _ => (ve_callC cv_tup (fun h => pe_callTy call_tuple_of (by rfl) Zm.z_tuple (by decide +kernel) h) (VA.vt (va_cons (VO.ve (vo_lc (own := [("place", 5)]) (by rfl) sc_units_four.nd (vw_rng1 (by rfl) Zm.z_range ve_int) (blkOk_by (own := [("place", 5)]) (by first | decide +kernel | kernel_rfl | rfl)) (fun _ _ _ _ _ _ => (vg_name 5 sc_units_four.nd rfl (by first | exact Or.inl rfl | exact Or.inr rfl) (Or.inl rfl) (by decide))) (fun _ _ _ _ _ _ => vbs_nil) (fun _ _ _ _ _ _ => (ve_bin ov_mul (fun h1 h2 => pe_op (op_mulV.or op_repT) h1 h2) (ve_var 4) (ve_callC cv_int (fun h => pe_callTy call_int1 (by rfl) Zm.z_int (by decide +kernel) h) (VA.vt (va_cons (ve_bin ov_eq (fun h1 h2 => pe_cmpR (op_eqD hr.units) h1 h2 (nomark _)) (ve_var 1) (ve_var 5)) va_nil))))))) va_nil)))))))))
  (vs_cons (vs_setO 2 sc_units_four.nd rfl (by first | exact Or.inl rfl | exact Or.inr rfl) (Or.inl rfl) (vo_lst (va_cons (ve_tup va_nil) va_nil)))
  (vs_cons (vs_for (vs := [3]) PassesOwn.never (by rfl) (vw_rng1 (by rfl) Zm.z_range ve_int) (vg_name 3 sc_units_four.nd rfl (by first | exact Or.inl rfl | exact Or.inr rfl) (Or.inl rfl) (by decide)) (vs_one (vs_fz 2 (Or.inl rfl) (vs_setLc2 (vs1 := [4]) 2 (by rfl) sc_units_four.nd rfl rfl (Or.inl rfl) (sw_true rfl rfl rfl (by decide +kernel)) (vw_list (ve_var 2)) (blkOk_by (own := [("row", 6), ("sign", 4)]) (by first | decide +kernel | kernel_rfl | rfl)) (by decide) (fun _ _ _ _ _ _ => (vg_name 6 sc_units_four.nd rfl (by first | exact Or.inl rfl | exact Or.inr rfl) (Or.inl rfl) (by decide))) (fun _ _ _ _ _ _ => vbs_nil) (fun _ _ _ _ _ _ => (vw_tup (ve_tup (va_cons ve_int (va_cons (ve_un uv_neg (fun h => pe_un un_neg h) ve_int) va_nil))))) (fun _ _ _ _ _ _ => (vg_name 4 sc_units_four.nd rfl (by first | exact Or.inl rfl | exact Or.inr rfl) (Or.inl rfl) (by decide))) (fun _ _ _ _ _ _ => vbs_nil) (fun _ _ _ _ _ _ => (ve_bin ov_add (fun h1 h2 => pe_op (op_add.or (op_catA.or op_cat)) h1 h2) (ve_var 6) (ve_tup (va_cons (ve_var 4) va_nil))))))))
  (vs_one (vs_fz 2 (Or.inl rfl) (vs_ret (VO.ve (vo_callC co_srt (fun h => pe_callB cr_srt (by rfl) Zm.z_sorted (by decide +kernel) h) (VA.vt (va_cons (ve_binL 0 ov_add (fun h1 h2 => pe_op (op_add.or (op_catA.or op_cat)) h1 h2) (pv 0) (ve_var 2)) va_nil)))))))))))
theorem ok_units_four {f : Addr} {fd : FuncData} (F : FnP K "units_four" s_units_four f fd) (m : mg "units_four" = some (.ref f)) (Zm : ZZ K mg)
    (hl : ∀ ds Q, sp_units_four ds Q → ds.length = 0) (hq : ∀ ds Q, sp_units_four ds Q → rd_units_four { nx := fun _ => Q .none, rt := fun d _ => Q d } (ev0 ["found", "at", "signs", "turn", "sign", "place", "row"] ds)) :
    Cal P w K mg base 1 "units_four" [] (LF K sp_units_four) f fd :=
  ⟨fn_ok F sc_units_four hl (fun cdv A outer s H E B hr => der_units_four Zm  hr) hq, F.bindsN fun _ _ _ _ _ _ us hl => match us, hl with | [], _ => rfl, F.kp, m⟩

/-! ### over_prime: ["one", "prime", "even", "first", "whole", "number"] -/
theorem sc_over_prime : FnScope ["one", "prime", "even", "first", "whole", "number"] ["one", "prime"] (defScope s_over_prime) := ⟨rfl, rfl, rfl, by decide +kernel, rfl, by decide +kernel, by decide +kernel⟩
def rd_over_prime_c1_g : VG := (gN 5)
def rd_over_prime_c1_t : VTB := vYes
def rd_over_prime_c1_e : VT := (vBin dEq (vBin (d2 (fun _ j => j ≠ 0) fun i j => .int (i.fmod j)) (vVar 5) (vVar 1)) (vC (.int 0)))

def rd_over_prime_c2_g : VG := (gN 5)
def rd_over_prime_c2_t : VTB := vYes
def rd_over_prime_c2_e : VT := (vBin (d2 (fun _ j => divOk j) fun i j => .int (i.fdiv j)) (vVar 5) (vVar 1))

def rd_over_prime_c3_g : VG := (gN 5)
def rd_over_prime_c3_t : VTB := vYes
def rd_over_prime_c3_e : VT := (vBin (d2 (fun _ j => divOk j) fun i j => .int (i.fdiv j)) (vVar 5) (vVar 1))

def rd_over_prime : VS := (vSeq (vIfS (vOr (vNot (vTru (vCall sp_is_prime (vCons (vVar 1) vNil)))) (vTru (vBin (d2 (fun _ j => j ≠ 0) fun i j => .int (i.fmod j)) (vCall sp_norm_four (vCons (vVar 0) vNil)) (vVar 1)))) vNever vNext)
  (vSeq (vSet 2 (vCall cAll (vCons (vOf (vLc (wT (vVar 0)) rd_over_prime_c1_g rd_over_prime_c1_t rd_over_prime_c1_e [5])) vNil)))
  (vSeq (vIfS (vAnd (vTru (vVar 2)) (vTru (vCall sp_is_whole_quaternion (vCons (vCall cTup (vCons (vOf (vLc (wT (vVar 0)) rd_over_prime_c2_g rd_over_prime_c2_t rd_over_prime_c2_e [5])) vNil)) vNil)))) (vSet 3 (vCall sp_prime_four (vCons (vVar 1) vNil))) (vSet 3 (vCall sp_common_four (vCons (vVar 0) (vCons (vTup (vCons (vBin dMul (vC (.int 2)) (vVar 1)) (vCons (vC (.int 0)) (vCons (vC (.int 0)) (vCons (vC (.int 0)) vNil))))) vNil)))))
  (vSeq (vSet 4 (vCall sp_times_four (vCons (vVar 0) (vCons (vCall sp_turned_four (vCons (vVar 3) vNil)) vNil))))
  (vRet (vTup (vCons (vVar 3) (vCons (vCall cTup (vCons (vOf (vLc (wT (vVar 4)) rd_over_prime_c3_g rd_over_prime_c3_t rd_over_prime_c3_e [5])) vNil)) vNil))))))))
theorem der_over_prime (Zm : ZZ K mg) {f_norm_four : Addr} {d_norm_four : FuncData} (C_norm_four : Cal P w K mg base 5 "norm_four" ["one"] (LF K sp_norm_four) f_norm_four d_norm_four) {f_is_prime : Addr} {d_is_prime : FuncData} (C_is_prime : Cal P w K mg base 2 "is_prime" ["number"] (LF K sp_is_prime) f_is_prime d_is_prime) {f_is_whole_quaternion : Addr} {d_is_whole_quaternion : FuncData} (C_is_whole_quaternion : Cal P w K mg base 3 "is_whole_quaternion" ["shape"] (LF K sp_is_whole_quaternion) f_is_whole_quaternion d_is_whole_quaternion) {f_prime_four : Addr} {d_prime_four : FuncData} (C_prime_four : Cal P w K mg base 6 "prime_four" ["prime"] (LF K sp_prime_four) f_prime_four d_prime_four) {f_common_four : Addr} {d_common_four : FuncData} (C_common_four : Cal P w K mg base 7 "common_four" ["one", "other"] (LF K sp_common_four) f_common_four d_common_four) {f_times_four : Addr} {d_times_four : FuncData} (C_times_four : Cal P w K mg base 5 "times_four" ["one", "other"] (LF K sp_times_four) f_times_four d_times_four) {f_turned_four : Addr} {d_turned_four : FuncData} (C_turned_four : Cal P w K mg base 1 "turned_four" ["one"] (LF K sp_turned_four) f_turned_four d_turned_four) {f : Addr} {cdv : Value} {A : Around} {outer : List Env} {s : Shared} {H : Hp} {E : XK} {B : Addr → Prop} (hr : Room 7 (A.deeper (envOfC "over_prime" (defScope s_over_prime) s.heap.objs.size f cdv))) :
    VSs (cxOf CX0 P w K mg base ["one", "prime", "even", "first", "whole", "number"] "over_prime" (defScope s_over_prime) f cdv A outer s H E).nox ⟨B, none⟩ (defBody s_over_prime) rd_over_prime :=
  (vs_cons (vs_if (VW.vb (vw_or (vb_not (vb_tru (ve_call C_is_prime.ok (hr.mono (by decide)) (by rfl) C_is_prime.m C_is_prime.kp C_is_prime.b (va_cons (ve_var 1) va_nil)))) (vw_or1 (vb_tru (ve_bin ov_I (fun h1 h2 => pe_op (op_modV) h1 h2) (ve_call C_norm_four.ok (hr.mono (by decide)) (by rfl) C_norm_four.m C_norm_four.kp C_norm_four.b (va_cons (ve_var 0) va_nil)) (ve_var 1)))))) (vs_one vs_never) vs_nil)
  (vs_cons (vs_set 2 sc_over_prime.nd rfl (by first | exact Or.inl rfl | exact Or.inr rfl) (Or.inl rfl) (ve_callC cv_all (fun h => pe_callB (cr_all rfl) (by rfl) Zm.z_all (by decide +kernel) h) (VA.vt (va_cons (VO.ve (vo_lc (own := [("number", 5)]) (by rfl) sc_over_prime.nd (vw_tup (ve_var 0)) (blkOk_by (own := [("number", 5)]) (by first | decide +kernel | kernel_rfl | rfl)) (fun _ _ _ _ _ _ => (vg_name 5 sc_over_prime.nd rfl (by first | exact Or.inl rfl | exact Or.inr rfl) (Or.inl rfl) (by decide))) (fun _ _ _ _ _ _ => vbs_nil) (fun _ _ _ _ _ _ => (ve_bin ov_eq (fun h1 h2 => pe_cmpR (op_eqD hr.units) h1 h2 (nomark _)) (ve_bin ov_I (fun h1 h2 => pe_op (op_modV) h1 h2) (ve_var 5) (ve_var 1)) ve_int)))) va_nil))))
  (vs_cons (vs_if (VW.vb (vw_and (vb_tru (ve_var 2)) (vw_and1 (vb_tru (ve_call C_is_whole_quaternion.ok (hr.mono (by decide)) (by rfl) C_is_whole_quaternion.m C_is_whole_quaternion.kp C_is_whole_quaternion.b (va_cons (ve_callC cv_tup (fun h => pe_callTy call_tuple_of (by rfl) Zm.z_tuple (by decide +kernel) h) (VA.vt (va_cons (VO.ve (vo_lc (own := [("number", 5)]) (by rfl) sc_over_prime.nd (vw_tup (ve_var 0)) (blkOk_by (own := [("number", 5)]) (by first | decide +kernel | kernel_rfl | rfl)) (fun _ _ _ _ _ _ => (vg_name 5 sc_over_prime.nd rfl (by first | exact Or.inl rfl | exact Or.inr rfl) (Or.inl rfl) (by decide))) (fun _ _ _ _ _ _ => vbs_nil) (fun _ _ _ _ _ _ => (ve_bin ov_I (fun h1 h2 => pe_op (op_fdivV) h1 h2) (ve_var 5) (ve_var 1))))) va_nil))) va_nil)))))) (vs_one (vs_set 3 sc_over_prime.nd rfl (by first | exact Or.inl rfl | exact Or.inr rfl) (Or.inl rfl) (ve_call C_prime_four.ok (hr.mono (by decide)) (by rfl) C_prime_four.m C_prime_four.kp C_prime_four.b (va_cons (ve_var 1) va_nil)))) (vs_one (vs_set 3 sc_over_prime.nd rfl (by first | exact Or.inl rfl | exact Or.inr rfl) (Or.inl rfl) (ve_call C_common_four.ok (hr.mono (by decide)) (by rfl) C_common_four.m C_common_four.kp C_common_four.b (va_cons (ve_var 0) (va_cons (ve_tup (va_cons (ve_bin ov_mul (fun h1 h2 => pe_op (op_mulV.or op_repT) h1 h2) ve_int (ve_var 1)) (va_cons ve_int (va_cons ve_int (va_cons ve_int va_nil))))) va_nil))))))
  (vs_cons (vs_set 4 sc_over_prime.nd rfl (by first | exact Or.inl rfl | exact Or.inr rfl) (Or.inl rfl) (ve_call C_times_four.ok (hr.mono (by decide)) (by rfl) C_times_four.m C_times_four.kp C_times_four.b (va_cons (ve_var 0) (va_cons (ve_call C_turned_four.ok (hr.mono (by decide)) (by rfl) C_turned_four.m C_turned_four.kp C_turned_four.b (va_cons (ve_var 3) va_nil)) va_nil))))
  (vs_one (vs_ret (ve_tup (va_cons (ve_var 3) (va_cons (ve_callC cv_tup (fun h => pe_callTy call_tuple_of (by rfl) Zm.z_tuple (by decide +kernel) h) (VA.vt (va_cons (VO.ve (vo_lc (own := [("number", 5)]) (by rfl) sc_over_prime.nd (vw_tup (ve_var 4)) (blkOk_by (own := [("number", 5)]) (by first | decide +kernel | kernel_rfl | rfl)) (fun _ _ _ _ _ _ => (vg_name 5 sc_over_prime.nd rfl (by first | exact Or.inl rfl | exact Or.inr rfl) (Or.inl rfl) (by decide))) (fun _ _ _ _ _ _ => vbs_nil) (fun _ _ _ _ _ _ => (ve_bin ov_I (fun h1 h2 => pe_op (op_fdivV) h1 h2) (ve_var 5) (ve_var 1))))) va_nil))) va_nil)))))))))
theorem ok_over_prime {f : Addr} {fd : FuncData} (F : FnP K "over_prime" s_over_prime f fd) (m : mg "over_prime" = some (.ref f)) (Zm : ZZ K mg) {f_norm_four : Addr} {d_norm_four : FuncData} (C_norm_four : Cal P w K mg base 5 "norm_four" ["one"] (LF K sp_norm_four) f_norm_four d_norm_four) {f_is_prime : Addr} {d_is_prime : FuncData} (C_is_prime : Cal P w K mg base 2 "is_prime" ["number"] (LF K sp_is_prime) f_is_prime d_is_prime) {f_is_whole_quaternion : Addr} {d_is_whole_quaternion : FuncData} (C_is_whole_quaternion : Cal P w K mg base 3 "is_whole_quaternion" ["shape"] (LF K sp_is_whole_quaternion) f_is_whole_quaternion d_is_whole_quaternion) {f_prime_four : Addr} {d_prime_four : FuncData} (C_prime_four : Cal P w K mg base 6 "prime_four" ["prime"] (LF K sp_prime_four) f_prime_four d_prime_four) {f_common_four : Addr} {d_common_four : FuncData} (C_common_four : Cal P w K mg base 7 "common_four" ["one", "other"] (LF K sp_common_four) f_common_four d_common_four) {f_times_four : Addr} {d_times_four : FuncData} (C_times_four : Cal P w K mg base 5 "times_four" ["one", "other"] (LF K sp_times_four) f_times_four d_times_four) {f_turned_four : Addr} {d_turned_four : FuncData} (C_turned_four : Cal P w K mg base 1 "turned_four" ["one"] (LF K sp_turned_four) f_turned_four d_turned_four)
    (hl : ∀ ds Q, sp_over_prime ds Q → ds.length = 2) (hq : ∀ ds Q, sp_over_prime ds Q → rd_over_prime { nx := fun _ => Q .none, rt := fun d _ => Q d } (ev0 ["one", "prime", "even", "first", "whole", "number"] ds)) :
    Cal P w K mg base 8 "over_prime" ["one", "prime"] (LF K sp_over_prime) f fd :=
  ⟨fn_ok F sc_over_prime hl (fun cdv A outer s H E B hr => der_over_prime Zm C_norm_four C_is_prime C_is_whole_quaternion C_prime_four C_common_four C_times_four C_turned_four hr) hq, F.bindsN fun _ _ _ _ _ _ us hl => match us, hl with | [_, _], _ => rfl, F.kp, m⟩

/-! ### prime_four: ["prime", "number"] -/
theorem sc_prime_four : FnScope ["prime", "number"] ["prime"] (defScope s_prime_four) := ⟨rfl, rfl, rfl, by decide +kernel, rfl, by decide +kernel, by decide +kernel⟩
def rd_prime_four_c1_g : VG := (gN 1)
def rd_prime_four_c1_t : VTB := vYes
def rd_prime_four_c1_e : VT := (vBin dMul (vC (.int 2)) (vVar 1))

def rd_prime_four : VS := (vRet (vCall cTup (vCons (vOf (vLc (wT (vCall sp_four_squares (vCons (vVar 0) vNil))) rd_prime_four_c1_g rd_prime_four_c1_t rd_prime_four_c1_e [1])) vNil)))
theorem der_prime_four (Zm : ZZ K mg) {f_four_squares : Addr} {d_four_squares : FuncData} (C_four_squares : Cal P w K mg base 5 "four_squares" ["number"] (LF K sp_four_squares) f_four_squares d_four_squares) {f : Addr} {cdv : Value} {A : Around} {outer : List Env} {s : Shared} {H : Hp} {E : XK} {B : Addr → Prop} (hr : Room 5 (A.deeper (envOfC "prime_four" (defScope s_prime_four) s.heap.objs.size f cdv))) :
    VSs (cxOf CX0 P w K mg base ["prime", "number"] "prime_four" (defScope s_prime_four) f cdv A outer s H E).nox ⟨B, none⟩ (defBody s_prime_four) rd_prime_four :=
  (vs_one (vs_ret (ve_callC cv_tup (fun h => pe_callTy call_tuple_of (by rfl) Zm.z_tuple (by decide +kernel) h) (VA.vt (va_cons (VO.ve (vo_lc (own := [("number", 1)]) (by rfl) sc_prime_four.nd (vw_tup (ve_call C_four_squares.ok (hr.mono (by decide)) (by rfl) C_four_squares.m C_four_squares.kp C_four_squares.b (va_cons (ve_var 0) va_nil))) (blkOk_by (own := [("number", 1)]) (by first | decide +kernel | kernel_rfl | rfl)) (fun _ _ _ _ _ _ => (vg_name 1 sc_prime_four.nd rfl (by first | exact Or.inl rfl | exact Or.inr rfl) (Or.inl rfl) (by decide))) (fun _ _ _ _ _ _ => vbs_nil) (fun _ _ _ _ _ _ => (ve_bin ov_mul (fun h1 h2 => pe_op (op_mulV.or op_repT) h1 h2) ve_int (ve_var 1))))) va_nil)))))
theorem ok_prime_four {f : Addr} {fd : FuncData} (F : FnP K "prime_four" s_prime_four f fd) (m : mg "prime_four" = some (.ref f)) (Zm : ZZ K mg) {f_four_squares : Addr} {d_four_squares : FuncData} (C_four_squares : Cal P w K mg base 5 "four_squares" ["number"] (LF K sp_four_squares) f_four_squares d_four_squares)
    (hl : ∀ ds Q, sp_prime_four ds Q → ds.length = 1) (hq : ∀ ds Q, sp_prime_four ds Q → rd_prime_four { nx := fun _ => Q .none, rt := fun d _ => Q d } (ev0 ["prime", "number"] ds)) :
    Cal P w K mg base 6 "prime_four" ["prime"] (LF K sp_prime_four) f fd :=
  ⟨fn_ok F sc_prime_four hl (fun cdv A outer s H E B hr => der_prime_four Zm C_four_squares hr) hq, F.bindsN fun _ _ _ _ _ _ us hl => match us, hl with | [_], _ => rfl, F.kp, m⟩

/-! ### factored_four: ["one", "found", "prime", "power", "turn", "first"] -/
theorem sc_factored_four : FnScope ["one", "found", "prime", "power", "turn", "first"] ["one"] (defScope s_factored_four) := ⟨rfl, rfl, rfl, by decide +kernel, rfl, by decide +kernel, by decide +kernel⟩
def rd_factored_four_f2g : VG := (gN 4)
def rd_factored_four_f2b : VS := (vSeq (vAsg (vCall sp_over_prime (vCons (vVar 0) (vCons (vVar 2) vNil))) (gT 2 (gsC (gN 5) (gsC (gN 0) gs0))))
  (vAppend 1 (vVar 5)))

def rd_factored_four_f1g : VG := (gT 2 (gsC (gN 2) (gsC (gN 3) gs0)))
def rd_factored_four_f1b : VS := (vForS (wR1 (vVar 3)) rd_factored_four_f2g rd_factored_four_f2b)

def rd_factored_four : VS := (vSeq (vIfS (vB (vBin dEq (vCall sp_norm_four (vCons (vVar 0) vNil)) (vC (.int 0)))) vNever vNext)
  (vSeq (vSetO 1 vNil)
  (vSeq (vForS (wL (vCall sp_factors_of (vCons (vCall sp_norm_four (vCons (vVar 0) vNil)) vNil))) rd_factored_four_f1g rd_factored_four_f1b)
  (vRet (vBin dAdd (vTup (vCons (vVar 0) vNil)) (vCall cTup (vCons (vOf (vRevLL 1)) vNil)))))))
theorem der_factored_four (Zm : ZZ K mg) {f_norm_four : Addr} {d_norm_four : FuncData} (C_norm_four : Cal P w K mg base 5 "norm_four" ["one"] (LF K sp_norm_four) f_norm_four d_norm_four) {f_factors_of : Addr} {d_factors_of : FuncData} (C_factors_of : Cal P w K mg base 1 "factors_of" ["number"] (LF K sp_factors_of) f_factors_of d_factors_of) {f_over_prime : Addr} {d_over_prime : FuncData} (C_over_prime : Cal P w K mg base 8 "over_prime" ["one", "prime"] (LF K sp_over_prime) f_over_prime d_over_prime) {f : Addr} {cdv : Value} {A : Around} {outer : List Env} {s : Shared} {H : Hp} {E : XK} {B : Addr → Prop} (hr : Room 8 (A.deeper (envOfC "factored_four" (defScope s_factored_four) s.heap.objs.size f cdv))) :
    VSs (cxOf CX0 P w K mg base ["one", "found", "prime", "power", "turn", "first"] "factored_four" (defScope s_factored_four) f cdv A outer s H E).nox ⟨B, none⟩ (defBody s_factored_four) rd_factored_four :=
  (vs_cons (vs_if (vb_cmp (op_eqD hr.units) ov_eq (nomark _) (ve_call C_norm_four.ok (hr.mono (by decide)) (by rfl) C_norm_four.m C_norm_four.kp C_norm_four.b (va_cons (ve_var 0) va_nil)) ve_int) (vs_one vs_never) vs_nil)
  (vs_cons (vs_setO 1 sc_factored_four.nd rfl (by first | exact Or.inl rfl | exact Or.inr rfl) (Or.inl rfl) (vo_lst va_nil))
  (vs_cons (vs_for (vs := [2, 3]) PassesOwn.never (by rfl) (vw_list (ve_call C_factors_of.ok (hr.mono (by decide)) (by rfl) C_factors_of.m C_factors_of.kp C_factors_of.b (va_cons (ve_call C_norm_four.ok (hr.mono (by decide)) (by rfl) C_norm_four.m C_norm_four.kp C_norm_four.b (va_cons (ve_var 0) va_nil)) va_nil))) (vg_tup (by rfl) (vgs_cons (vg_name 2 sc_factored_four.nd rfl (by first | exact Or.inl rfl | exact Or.inr rfl) (Or.inl rfl) (by decide)) (vgs_cons (vg_name 3 sc_factored_four.nd rfl (by first | exact Or.inl rfl | exact Or.inr rfl) (Or.inl rfl) (by decide)) vgs_nil))) (vs_one (vs_for (vs := [4]) PassesOwn.never (by rfl) (vw_rng1 (by rfl) Zm.z_range (ve_var 3)) (vg_name 4 sc_factored_four.nd rfl (by first | exact Or.inl rfl | exact Or.inr rfl) (Or.inl rfl) (by decide)) (vs_cons (vs_asg (vs := [0, 5]) (ve_call C_over_prime.ok (hr.mono (by decide)) (by rfl) C_over_prime.m C_over_prime.kp C_over_prime.b (va_cons (ve_var 0) (va_cons (ve_var 2) va_nil))) (vg_tup (by rfl) (vgs_cons (vg_name 5 sc_factored_four.nd rfl (by first | exact Or.inl rfl | exact Or.inr rfl) (Or.inl rfl) (by decide)) (vgs_cons (vg_name 0 sc_factored_four.nd rfl (by first | exact Or.inl rfl | exact Or.inr rfl) (Or.inl rfl) (by decide)) vgs_nil))))
  (vs_one (vs_append 1 (pv 1) (ve_var 5) (fun h => mk_append (pv 1) (he := h))))))))
  (vs_one (vs_ret (ve_bin ov_add (fun h1 h2 => pe_op (op_add.or (op_catA.or op_cat)) h1 h2) (ve_tup (va_cons (ve_var 0) va_nil)) (ve_callC cv_tup (fun h => pe_callTy call_tuple_of (by rfl) Zm.z_tuple (by decide +kernel) h) (VA.vt (va_cons (VO.ve (vo_revL 1 (pv 1))) va_nil)))))))))
theorem ok_factored_four {f : Addr} {fd : FuncData} (F : FnP K "factored_four" s_factored_four f fd) (m : mg "factored_four" = some (.ref f)) (Zm : ZZ K mg) {f_norm_four : Addr} {d_norm_four : FuncData} (C_norm_four : Cal P w K mg base 5 "norm_four" ["one"] (LF K sp_norm_four) f_norm_four d_norm_four) {f_factors_of : Addr} {d_factors_of : FuncData} (C_factors_of : Cal P w K mg base 1 "factors_of" ["number"] (LF K sp_factors_of) f_factors_of d_factors_of) {f_over_prime : Addr} {d_over_prime : FuncData} (C_over_prime : Cal P w K mg base 8 "over_prime" ["one", "prime"] (LF K sp_over_prime) f_over_prime d_over_prime)
    (hl : ∀ ds Q, sp_factored_four ds Q → ds.length = 1) (hq : ∀ ds Q, sp_factored_four ds Q → rd_factored_four { nx := fun _ => Q .none, rt := fun d _ => Q d } (ev0 ["one", "found", "prime", "power", "turn", "first"] ds)) :
    Cal P w K mg base 9 "factored_four" ["one"] (LF K sp_factored_four) f fd :=
  ⟨fn_ok F sc_factored_four hl (fun cdv A outer s H E B hr => der_factored_four Zm C_norm_four C_factors_of C_over_prime hr) hq, F.bindsN fun _ _ _ _ _ _ us hl => match us, hl with | [_], _ => rfl, F.kp, m⟩

/-! ### whole_four: ["one", "unit", "found"] -/
theorem sc_whole_four : FnScope ["one", "unit", "found"] ["one"] (defScope s_whole_four) := ⟨rfl, rfl, rfl, by decide +kernel, rfl, by decide +kernel, by decide +kernel⟩
def rd_whole_four_f1g : VG := (gN 1)
def rd_whole_four_f1b : VS := (vSeq (vSet 2 (vCall sp_times_four (vCons (vVar 1) (vCons (vVar 0) vNil))))
  (vIfS (vB (vBin dEq (vBin (d2 (fun _ j => j ≠ 0) fun i j => .int (i.fmod j)) (vBin dIx (vVar 2) (vC (.int 0))) (vC (.int 2))) (vC (.int 0)))) (vRet (vVar 2)) vNext))

def rd_whole_four : VS := (vSeq (vDrop (vCall sp_check_quaternion (vCons (vVar 0) vNil)))
  (vSeq (vIfS (vB (vBin dEq (vBin (d2 (fun _ j => j ≠ 0) fun i j => .int (i.fmod j)) (vBin dIx (vVar 0) (vC (.int 0))) (vC (.int 2))) (vC (.int 0)))) (vRet (vVar 0)) vNext)
  (vSeq (vForS (wL (vCall sp_units_four vNil)) rd_whole_four_f1g rd_whole_four_f1b)
  vNever)))
theorem der_whole_four (Zm : ZZ K mg) {f_check_quaternion : Addr} {d_check_quaternion : FuncData} (C_check_quaternion : Cal P w K mg base 4 "check_quaternion" ["one"] (LF K sp_check_quaternion) f_check_quaternion d_check_quaternion) {f_units_four : Addr} {d_units_four : FuncData} (C_units_four : Cal P w K mg base 1 "units_four" [] (LF K sp_units_four) f_units_four d_units_four) {f_times_four : Addr} {d_times_four : FuncData} (C_times_four : Cal P w K mg base 5 "times_four" ["one", "other"] (LF K sp_times_four) f_times_four d_times_four) {f : Addr} {cdv : Value} {A : Around} {outer : List Env} {s : Shared} {H : Hp} {E : XK} {B : Addr → Prop} (hr : Room 5 (A.deeper (envOfC "whole_four" (defScope s_whole_four) s.heap.objs.size f cdv))) :
    VSs (cxOf CX0 P w K mg base ["one", "unit", "found"] "whole_four" (defScope s_whole_four) f cdv A outer s H E).nox ⟨B, none⟩ (defBody s_whole_four) rd_whole_four :=
  (vs_cons (vs_expr (ve_call C_check_quaternion.ok (hr.mono (by decide)) (by rfl) C_check_quaternion.m C_check_quaternion.kp C_check_quaternion.b (va_cons (ve_var 0) va_nil)))
  (vs_cons (vs_if (vb_cmp (op_eqD hr.units) ov_eq (nomark _) (ve_bin ov_I (fun h1 h2 => pe_op (op_modV) h1 h2) (ve_bin ov_ix (fun h1 h2 => pe_ix (ix_list.or ix_tup) h1 h2 (fun _ _ => rfl)) (ve_var 0) ve_int) ve_int) ve_int) (vs_one (vs_ret (ve_var 0))) vs_nil)
  (vs_cons (vs_for (vs := [1]) PassesOwn.never (by rfl) (vw_list (ve_call0 C_units_four.ok (hr.mono (by decide)) (by rfl) C_units_four.m C_units_four.kp C_units_four.b)) (vg_name 1 sc_whole_four.nd rfl (by first | exact Or.inl rfl | exact Or.inr rfl) (Or.inl rfl) (by decide)) (vs_cons (vs_set 2 sc_whole_four.nd rfl (by first | exact Or.inl rfl | exact Or.inr rfl) (Or.inl rfl) (ve_call C_times_four.ok (hr.mono (by decide)) (by rfl) C_times_four.m C_times_four.kp C_times_four.b (va_cons (ve_var 1) (va_cons (ve_var 0) va_nil))))
  (vs_one (vs_if (vb_cmp (op_eqD hr.units) ov_eq (nomark _) (ve_bin ov_I (fun h1 h2 => pe_op (op_modV) h1 h2) (ve_bin ov_ix (fun h1 h2 => pe_ix (ix_list.or ix_tup) h1 h2 (fun _ _ => rfl)) (ve_var 2) ve_int) ve_int) ve_int) (vs_one (vs_ret (ve_var 2))) vs_nil))))
  (vs_one vs_never))))
theorem ok_whole_four {f : Addr} {fd : FuncData} (F : FnP K "whole_four" s_whole_four f fd) (m : mg "whole_four" = some (.ref f)) (Zm : ZZ K mg) {f_check_quaternion : Addr} {d_check_quaternion : FuncData} (C_check_quaternion : Cal P w K mg base 4 "check_quaternion" ["one"] (LF K sp_check_quaternion) f_check_quaternion d_check_quaternion) {f_units_four : Addr} {d_units_four : FuncData} (C_units_four : Cal P w K mg base 1 "units_four" [] (LF K sp_units_four) f_units_four d_units_four) {f_times_four : Addr} {d_times_four : FuncData} (C_times_four : Cal P w K mg base 5 "times_four" ["one", "other"] (LF K sp_times_four) f_times_four d_times_four)
    (hl : ∀ ds Q, sp_whole_four ds Q → ds.length = 1) (hq : ∀ ds Q, sp_whole_four ds Q → rd_whole_four { nx := fun _ => Q .none, rt := fun d _ => Q d } (ev0 ["one", "unit", "found"] ds)) :
    Cal P w K mg base 6 "whole_four" ["one"] (LF K sp_whole_four) f fd :=
  ⟨fn_ok F sc_whole_four hl (fun cdv A outer s H E B hr => der_whole_four Zm C_check_quaternion C_units_four C_times_four hr) hq, F.bindsN fun _ _ _ _ _ _ us hl => match us, hl with | [_], _ => rfl, F.kp, m⟩

/-! ### _law_digits: ["script", "first", "last", "found", "k", "c", "n", "turn", "s"] -/
theorem sc__law_digits : FnScope ["script", "first", "last", "found", "k", "c", "n", "turn", "s"] ["script", "first", "last"] (defScope s__law_digits) := ⟨rfl, rfl, rfl, by decide +kernel, rfl, by decide +kernel, by decide +kernel⟩
def rd__law_digits_f2g : VG := (gN 7)
def rd__law_digits_f2b : VS := (vIfS (vB (vBin (d20 fun i j => .bool (decide (j < i))) (vVar 6) (vC (.int 0)))) (vSeq (vAppend 3 (vBin (d2 (fun _ j => j ≠ 0) fun i j => .int (i.fmod j)) (vVar 6) (vC (.int 1009))))
  (vSet 6 (vBin (d2 (fun _ j => divOk j) fun i j => .int (i.fdiv j)) (vVar 6) (vC (.int 1009))))) vNext)

def rd__law_digits_f3g : VG := (gN 7)
def rd__law_digits_f3b : VS := (vSeq (vSet 8 (vBin (d2 (fun _ j => j ≠ 0) fun i j => .int (i.fmod j)) (vBin dAdd (vBin dAdd (vBin dMul (vVar 8) (vC (.int 16807))) (vBin dMul (vVar 7) (vC (.int 7)))) (vC (.int 1))) (vC (.int 2147483647))))
  (vAppend 3 (vBin (d2 (fun _ j => j ≠ 0) fun i j => .int (i.fmod j)) (vBin (d2 (fun _ j => divOk j) fun i j => .int (i.fdiv j)) (vVar 8) (vC (.int 997))) (vC (.int 1009)))))

def rd__law_digits_f1g : VG := (gN 4)
def rd__law_digits_f1b : VS := (vSeq (vSet 5 (vCallSC 0 sp__law_cell (vCons (vVar 4) vNil)))
  (vSeq (vIfS (vB (vBin (d20 fun i j => .bool (decide (i < j))) (vVar 5) (vC (.int 0)))) (vSet 5 (vBin (d20 fun i j => .int (i - j)) (vC (.int 1)) (vBin dMul (vVar 5) (vC (.int 2))))) vNext)
  (vIfS (vB (vBin (d20 fun i j => .bool (decide (j ≤ i))) (vVar 5) (vBin (d2 shlOk fun i j => .int (i ^ j.toNat)) (vC (.int 10)) (vC (.int 18))))) (vSeq (vSet 6 (vVar 5))
  (vForS (wR1 (vC (.int 60))) rd__law_digits_f2g rd__law_digits_f2b)) (vSeq (vSet 8 (vBin (d2 (fun _ j => j ≠ 0) fun i j => .int (i.fmod j)) (vBin dAdd (vBin dAdd (vBin dMul (vVar 5) (vC (.int 48271))) (vBin dMul (vCall cInt (vCons (vBin dAdd (vVar 4) (vC (.int 1))) vNil)) (vC (.int 69621)))) (vC (.int 11))) (vC (.int 2147483647))))
  (vForS (wR1 (vC (.int 12))) rd__law_digits_f3g rd__law_digits_f3b)))))

def rd__law_digits : VS := (vSeq (vSetO 3 vNil)
  (vSeq (vForS (wR2 (vVar 1) (vVar 2)) rd__law_digits_f1g rd__law_digits_f1b)
  (vFz 3 (vRet (vVar 3)))))
theorem der__law_digits (Zm : ZZ K mg) {f__law_cell : Addr} {d__law_cell : FuncData} (C__law_cell : Cal P w K mg base 1 "_law_cell" ["script", "k"] (LFsc K sp__law_cell) f__law_cell d__law_cell) {f : Addr} {cdv : Value} {A : Around} {outer : List Env} {s : Shared} {H : Hp} {E : XK} {B : Addr → Prop} (hr : Room 1 (A.deeper (envOfC "_law_digits" (defScope s__law_digits) s.heap.objs.size f cdv))) :
    VSs (cxOf CX0 P w K mg base ["script", "first", "last", "found", "k", "c", "n", "turn", "s"] "_law_digits" (defScope s__law_digits) f cdv A outer s H E).nox ⟨B, none⟩ (defBody s__law_digits) rd__law_digits :=
  (vs_cons (vs_setO 3 sc__law_digits.nd rfl (by first | exact Or.inl rfl | exact Or.inr rfl) (Or.inl rfl) (vo_lst va_nil))
  (vs_cons (vs_for (vs := [4]) PassesOwn.never (by rfl) (vw_rng2 (by rfl) Zm.z_range (ve_var 1) (ve_var 2)) (vg_name 4 sc__law_digits.nd rfl (by first | exact Or.inl rfl | exact Or.inr rfl) (Or.inl rfl) (by decide)) (vs_cons (vs_set 5 sc__law_digits.nd rfl (by first | exact Or.inl rfl | exact Or.inr rfl) (Or.inl rfl) (ve_callSC 0 C__law_cell.ok (hr.mono (by decide)) (by rfl) C__law_cell.m C__law_cell.kp C__law_cell.b (pv 0) (va_cons (ve_var 4) va_nil)))
  (vs_cons (vs_if (vb_cmp (op_lt) ov_B0 (nomark _) (ve_var 5) ve_int) (vs_one (vs_set 5 sc__law_digits.nd rfl (by first | exact Or.inl rfl | exact Or.inr rfl) (Or.inl rfl) (ve_bin ov_I0 (fun h1 h2 => pe_op (op_sub) h1 h2) ve_int (ve_bin ov_mul (fun h1 h2 => pe_op (op_mulV.or op_repT) h1 h2) (ve_var 5) ve_int)))) vs_nil)
  (vs_one (vs_if (vb_cmp (op_ge) ov_B0 (nomark _) (ve_var 5) (ve_bin ov_I (fun h1 h2 => pe_op (op_powV) h1 h2) ve_int ve_int)) (vs_cons (vs_set 6 sc__law_digits.nd rfl (by first | exact Or.inl rfl | exact Or.inr rfl) (Or.inl rfl) (ve_var 5))
  (vs_one (vs_for (vs := [7]) PassesOwn.never (by rfl) (vw_rng1 (by rfl) Zm.z_range ve_int) (vg_name 7 sc__law_digits.nd rfl (by first | exact Or.inl rfl | exact Or.inr rfl) (Or.inl rfl) (by decide)) (vs_one (vs_if (vb_cmp (op_gt) ov_B0 (nomark _) (ve_var 6) ve_int) (vs_cons (vs_append 3 (pv 3) (ve_bin ov_I (fun h1 h2 => pe_op (op_modV) h1 h2) (ve_var 6) ve_int) (fun h => mk_append (pv 3) (he := h)))
  (vs_one (vs_set 6 sc__law_digits.nd rfl (by first | exact Or.inl rfl | exact Or.inr rfl) (Or.inl rfl) (ve_bin ov_I (fun h1 h2 => pe_op (op_fdivV) h1 h2) (ve_var 6) ve_int)))) vs_nil))))) (vs_cons (vs_set 8 sc__law_digits.nd rfl (by first | exact Or.inl rfl | exact Or.inr rfl) (Or.inl rfl) (ve_bin ov_I (fun h1 h2 => pe_op (op_modV) h1 h2) (ve_bin ov_add (fun h1 h2 => pe_op (op_add.or (op_catA.or op_cat)) h1 h2) (ve_bin ov_add (fun h1 h2 => pe_op (op_add.or (op_catA.or op_cat)) h1 h2) (ve_bin ov_mul (fun h1 h2 => pe_op (op_mulV.or op_repT) h1 h2) (ve_var 5) ve_int) (ve_bin ov_mul (fun h1 h2 => pe_op (op_mulV.or op_repT) h1 h2) (ve_callC cv_int (fun h => pe_callTy call_int1 (by rfl) Zm.z_int (by decide +kernel) h) (VA.vt (va_cons (ve_bin ov_add (fun h1 h2 => pe_op (op_add.or (op_catA.or op_cat)) h1 h2) (ve_var 4) ve_int) va_nil))) ve_int)) ve_int) ve_int))
  (vs_one (vs_for (vs := [7]) PassesOwn.never (by rfl) (vw_rng1 (by rfl) Zm.z_range ve_int) (vg_name 7 sc__law_digits.nd rfl (by first | exact Or.inl rfl | exact Or.inr rfl) (Or.inl rfl) (by decide)) (vs_cons (vs_set 8 sc__law_digits.nd rfl (by first | exact Or.inl rfl | exact Or.inr rfl) (Or.inl rfl) (ve_bin ov_I (fun h1 h2 => pe_op (op_modV) h1 h2) (ve_bin ov_add (fun h1 h2 => pe_op (op_add.or (op_catA.or op_cat)) h1 h2) (ve_bin ov_add (fun h1 h2 => pe_op (op_add.or (op_catA.or op_cat)) h1 h2) (ve_bin ov_mul (fun h1 h2 => pe_op (op_mulV.or op_repT) h1 h2) (ve_var 8) ve_int) (ve_bin ov_mul (fun h1 h2 => pe_op (op_mulV.or op_repT) h1 h2) (ve_var 7) ve_int)) ve_int) ve_int))
  (vs_one (vs_append 3 (pv 3) (ve_bin ov_I (fun h1 h2 => pe_op (op_modV) h1 h2) (ve_bin ov_I (fun h1 h2 => pe_op (op_fdivV) h1 h2) (ve_var 8) ve_int) ve_int) (fun h => mk_append (pv 3) (he := h)))))))))))))
  (vs_one (vs_fz 3 (Or.inl rfl) (vs_ret (ve_var 3))))))
theorem ok__law_digits {f : Addr} {fd : FuncData} (F : FnP K "_law_digits" s__law_digits f fd) (m : mg "_law_digits" = some (.ref f)) (Zm : ZZ K mg) {f__law_cell : Addr} {d__law_cell : FuncData} (C__law_cell : Cal P w K mg base 1 "_law_cell" ["script", "k"] (LFsc K sp__law_cell) f__law_cell d__law_cell)
    (hl : ∀ ns ds Q, sp__law_digits ns ds Q → ds.length + 1 = 3) (hq : ∀ ns ds Q, sp__law_digits ns ds Q → rd__law_digits { nx := fun _ => Q .none, rt := fun d _ => Q d } (evS ["script", "first", "last", "found", "k", "c", "n", "turn", "s"] ns ds)) :
    Cal P w K mg base 2 "_law_digits" ["script", "first", "last"] (LFsc K sp__law_digits) f fd :=
  ⟨fn_okSC F sc__law_digits hl (fun cdv A outer s H E B hr => der__law_digits Zm C__law_cell hr) hq, F.bindsN fun _ _ _ _ _ _ us hl => match us, hl with | [_, _, _], _ => rfl, F.kp, m⟩

/-! ### _law_draw: ["box", "m", "digits", "at"] -/
theorem sc__law_draw : FnScope ["box", "m", "digits", "at"] ["box", "m"] (defScope s__law_draw) := ⟨rfl, rfl, rfl, by decide +kernel, rfl, by decide +kernel, by decide +kernel⟩
def rd__law_draw : VS := (vSeq (vUnp 2 0 (gsC (gN 2) (gsC (gN 3) gs0)))
  (vSeq (vAsg (vBin dAdd (vVar 3) (vC (.int 1))) (gSet 0 (vC (.int 1))))
  (vSeq (vIfS (vB (vBin (d20 fun i j => .bool (decide (i < j))) (vVar 3) (vCall cLen (vCons (vVar 2) vNil)))) (vRet (vBin (d2 (fun _ j => j ≠ 0) fun i j => .int (i.fmod j)) (vBin dIx (vVar 2) (vVar 3)) (vVar 1))) vNext)
  (vRet (vBin (d2 (fun _ j => j ≠ 0) fun i j => .int (i.fmod j)) (vBin dAdd (vBin dAdd (vBin dAdd (vBin dMul (vBin dMul (vVar 3) (vVar 3)) (vC (.int 3))) (vBin dMul (vVar 3) (vC (.int 4)))) (vBin (d2 (fun _ j => divOk j) fun i j => .int (i.fdiv j)) (vVar 3) (vC (.int 3)))) (vC (.int 1))) (vVar 1))))))
theorem der__law_draw (Zm : ZZ K mg) {f : Addr} {cdv : Value} {A : Around} {outer : List Env} {s : Shared} {H : Hp} {E : XK} {B : Addr → Prop} (a0 : Addr) (hr : Room 0 (A.deeper (envOfC "_law_draw" (defScope s__law_draw) s.heap.objs.size f cdv))) :
    VSs (cxOf CX0 P w K mg base ["box", "m", "digits", "at"] "_law_draw" (defScope s__law_draw) f cdv A outer s H E).nox ⟨B, some a0⟩ (defBody s__law_draw) rd__law_draw :=
  (vs_cons (vs_unp (vs := [2, 3]) 0 (by rfl) (pv 0) (vgs_cons (vg_name 2 sc__law_draw.nd rfl (by first | exact Or.inl rfl | exact Or.inr rfl) (Or.inr (by decide)) (by decide)) (vgs_cons (vg_name 3 sc__law_draw.nd rfl (by first | exact Or.inl rfl | exact Or.inr rfl) (Or.inr (by decide)) (by decide)) vgs_nil)) (fun h => pg_unl (by rfl) h))
  (vs_cons (vs_asg (vs := []) (ve_bin ov_add (fun h1 h2 => pe_op (op_add.or (op_catA.or op_cat)) h1 h2) (ve_var 3) ve_int) (vg_set 0 (pv 0) ve_int))
  (vs_cons (vs_if (vb_cmp (op_lt) ov_B0 (nomark _) (ve_var 3) (ve_callC cv_len (fun h => pe_callB call_len_seq (by rfl) Zm.z_len PySem.boot_len h) (VA.vt (va_cons (ve_var 2) va_nil)))) (vs_one (vs_ret (ve_bin ov_I (fun h1 h2 => pe_op (op_modV) h1 h2) (ve_bin ov_ix (fun h1 h2 => pe_ix (ix_list.or ix_tup) h1 h2 (fun _ _ => rfl)) (ve_var 2) (ve_var 3)) (ve_var 1)))) vs_nil)
  (vs_one (vs_ret (ve_bin ov_I (fun h1 h2 => pe_op (op_modV) h1 h2) (ve_bin ov_add (fun h1 h2 => pe_op (op_add.or (op_catA.or op_cat)) h1 h2) (ve_bin ov_add (fun h1 h2 => pe_op (op_add.or (op_catA.or op_cat)) h1 h2) (ve_bin ov_add (fun h1 h2 => pe_op (op_add.or (op_catA.or op_cat)) h1 h2) (ve_bin ov_mul (fun h1 h2 => pe_op (op_mulV.or op_repT) h1 h2) (ve_bin ov_mul (fun h1 h2 => pe_op (op_mulV.or op_repT) h1 h2) (ve_var 3) (ve_var 3)) ve_int) (ve_bin ov_mul (fun h1 h2 => pe_op (op_mulV.or op_repT) h1 h2) (ve_var 3) ve_int)) (ve_bin ov_I (fun h1 h2 => pe_op (op_fdivV) h1 h2) (ve_var 3) ve_int)) ve_int) (ve_var 1)))))))
theorem ok__law_draw {f : Addr} {fd : FuncData} (F : FnP K "_law_draw" s__law_draw f fd) (m : mg "_law_draw" = some (.ref f)) (Zm : ZZ K mg)
    (hl : ∀ xs ds Q, sp__law_draw xs ds Q → ds.length + 1 = 2) (hq : ∀ xs ds Q, sp__law_draw xs ds Q → rd__law_draw (endIO Q) (ev1 ["box", "m", "digits", "at"] xs ds)) :
    Cal P w K mg base 1 "_law_draw" ["box", "m"] (LFio K sp__law_draw) f fd :=
  ⟨fn_okIO F sc__law_draw hl (fun cdv A outer s H E B a0 hr => der__law_draw Zm  a0 hr) hq, F.bindsN fun _ _ _ _ _ _ us hl => match us, hl with | [_, _], _ => rfl, F.kp, m⟩

/-! ### _law_pick: ["box", "rows"] -/
theorem sc__law_pick : FnScope ["box", "rows"] ["box", "rows"] (defScope s__law_pick) := ⟨rfl, rfl, rfl, by decide +kernel, rfl, by decide +kernel, by decide +kernel⟩
def rd__law_pick : VS := (vRet (vBin dIx (vVar 1) (vCallIO 0 sp__law_draw (vCons (vCall cLen (vCons (vVar 1) vNil)) vNil))))
theorem der__law_pick (Zm : ZZ K mg) {f__law_draw : Addr} {d__law_draw : FuncData} (C__law_draw : Cal P w K mg base 1 "_law_draw" ["box", "m"] (LFio K sp__law_draw) f__law_draw d__law_draw) {f : Addr} {cdv : Value} {A : Around} {outer : List Env} {s : Shared} {H : Hp} {E : XK} {B : Addr → Prop} (a0 : Addr) (hr : Room 1 (A.deeper (envOfC "_law_pick" (defScope s__law_pick) s.heap.objs.size f cdv))) :
    VSs (cxOf CX0 P w K mg base ["box", "rows"] "_law_pick" (defScope s__law_pick) f cdv A outer s H E).nox ⟨B, some a0⟩ (defBody s__law_pick) rd__law_pick :=
  (vs_one (vs_ret (ve_bin ov_ix (fun h1 h2 => pe_ix (ix_list.or ix_tup) h1 h2 (fun _ _ => rfl)) (ve_var 1) (ve_callIO 0 C__law_draw.ok (hr.mono (by decide)) (by rfl) C__law_draw.m C__law_draw.kp C__law_draw.b (pv 0) (va_cons (ve_callC cv_len (fun h => pe_callB call_len_seq (by rfl) Zm.z_len PySem.boot_len h) (VA.vt (va_cons (ve_var 1) va_nil))) va_nil)))))
theorem ok__law_pick {f : Addr} {fd : FuncData} (F : FnP K "_law_pick" s__law_pick f fd) (m : mg "_law_pick" = some (.ref f)) (Zm : ZZ K mg) {f__law_draw : Addr} {d__law_draw : FuncData} (C__law_draw : Cal P w K mg base 1 "_law_draw" ["box", "m"] (LFio K sp__law_draw) f__law_draw d__law_draw)
    (hl : ∀ xs ds Q, sp__law_pick xs ds Q → ds.length + 1 = 2) (hq : ∀ xs ds Q, sp__law_pick xs ds Q → rd__law_pick (endIO Q) (ev1 ["box", "rows"] xs ds)) :
    Cal P w K mg base 2 "_law_pick" ["box", "rows"] (LFio K sp__law_pick) f fd :=
  ⟨fn_okIO F sc__law_pick hl (fun cdv A outer s H E B a0 hr => der__law_pick Zm C__law_draw a0 hr) hq, F.bindsN fun _ _ _ _ _ _ us hl => match us, hl with | [_, _], _ => rfl, F.kp, m⟩

/-! ### _law_primes: ["number", "found", "p"] -/
theorem sc__law_primes : FnScope ["number", "found", "p"] ["number"] (defScope s__law_primes) := ⟨rfl, rfl, rfl, by decide +kernel, rfl, by decide +kernel, by decide +kernel⟩
def rd__law_primes_w2c : VTB := (vB (vBin dEq (vBin (d2 (fun _ j => j ≠ 0) fun i j => .int (i.fmod j)) (vVar 0) (vVar 2)) (vC (.int 0))))
def rd__law_primes_w2b : VS := (vSet 0 (vBin (d2 (fun _ j => divOk j) fun i j => .int (i.fdiv j)) (vVar 0) (vVar 2)))

def rd__law_primes_w1c : VTB := (vB (vBin (d20 fun i j => .bool (decide (j < i))) (vVar 0) (vC (.int 1))))
def rd__law_primes_w1b : VS := (vSeq (vIfS (vB (vBin dEq (vBin (d2 (fun _ j => j ≠ 0) fun i j => .int (i.fmod j)) (vVar 0) (vVar 2)) (vC (.int 0)))) (vSeq (vAppend 1 (vVar 2))
  (vWhile rd__law_primes_w2c rd__law_primes_w2b)) vNext)
  (vSet 2 (vBin dAdd (vVar 2) (vC (.int 1)))))

def rd__law_primes : VS := (vSeq (vSetO 1 vNil)
  (vSeq (vSet 2 (vC (.int 2)))
  (vSeq (vWhile rd__law_primes_w1c rd__law_primes_w1b)
  (vFz 1 (vRet (vVar 1))))))
theorem der__law_primes (Zm : ZZ K mg) {f : Addr} {cdv : Value} {A : Around} {outer : List Env} {s : Shared} {H : Hp} {E : XK} {B : Addr → Prop} (hr : Room 0 (A.deeper (envOfC "_law_primes" (defScope s__law_primes) s.heap.objs.size f cdv))) :
    VSs (cxOf CX0 P w K mg base ["number", "found", "p"] "_law_primes" (defScope s__law_primes) f cdv A outer s H E).nox ⟨B, none⟩ (defBody s__law_primes) rd__law_primes :=
  (vs_cons (vs_setO 1 sc__law_primes.nd rfl (by first | exact Or.inl rfl | exact Or.inr rfl) (Or.inl rfl) (vo_lst va_nil))
  (vs_cons (vs_set 2 sc__law_primes.nd rfl (by first | exact Or.inl rfl | exact Or.inr rfl) (Or.inl rfl) ve_int)
  (vs_cons (vs_while PassesOwn.never (vb_cmp (op_gt) ov_B0 (nomark _) (ve_var 0) ve_int) (vs_cons (vs_if (vb_cmp (op_eqD hr.units) ov_eq (nomark _) (ve_bin ov_I (fun h1 h2 => pe_op (op_modV) h1 h2) (ve_var 0) (ve_var 2)) ve_int) (vs_cons (vs_append 1 (pv 1) (ve_var 2) (fun h => mk_append (pv 1) (he := h)))
  (vs_one (vs_while PassesOwn.never (vb_cmp (op_eqD hr.units) ov_eq (nomark _) (ve_bin ov_I (fun h1 h2 => pe_op (op_modV) h1 h2) (ve_var 0) (ve_var 2)) ve_int) (vs_one (vs_set 0 sc__law_primes.nd rfl (by first | exact Or.inl rfl | exact Or.inr rfl) (Or.inl rfl) (ve_bin ov_I (fun h1 h2 => pe_op (op_fdivV) h1 h2) (ve_var 0) (ve_var 2))))))) vs_nil)
  (vs_one (vs_set 2 sc__law_primes.nd rfl (by first | exact Or.inl rfl | exact Or.inr rfl) (Or.inl rfl) (ve_bin ov_add (fun h1 h2 => pe_op (op_add.or (op_catA.or op_cat)) h1 h2) (ve_var 2) ve_int)))))
  (vs_one (vs_fz 1 (Or.inl rfl) (vs_ret (ve_var 1)))))))
theorem ok__law_primes {f : Addr} {fd : FuncData} (F : FnP K "_law_primes" s__law_primes f fd) (m : mg "_law_primes" = some (.ref f)) (Zm : ZZ K mg)
    (hl : ∀ ds Q, sp__law_primes ds Q → ds.length = 1) (hq : ∀ ds Q, sp__law_primes ds Q → rd__law_primes { nx := fun _ => Q .none, rt := fun d _ => Q d } (ev0 ["number", "found", "p"] ds)) :
    Cal P w K mg base 1 "_law_primes" ["number"] (LF K sp__law_primes) f fd :=
  ⟨fn_ok F sc__law_primes hl (fun cdv A outer s H E B hr => der__law_primes Zm  hr) hq, F.bindsN fun _ _ _ _ _ _ us hl => match us, hl with | [_], _ => rfl, F.kp, m⟩

/-! ### _law_four: ["box", "most", "half", "k"] -/
theorem sc__law_four : FnScope ["box", "most", "half", "k"] ["box", "most"] (defScope s__law_four) := ⟨rfl, rfl, rfl, by decide +kernel, rfl, by decide +kernel, by decide +kernel⟩
def rd__law_four_c1_g : VG := (gN 3)
def rd__law_four_c1_t : VTB := vYes
def rd__law_four_c1_e : VT := (vBin dAdd (vBin dMul (vC (.int 2)) (vBin (d20 fun i j => .int (i - j)) (vCallIO 0 sp__law_draw (vCons (vBin dAdd (vBin dMul (vC (.int 2)) (vVar 1)) (vC (.int 1))) vNil)) (vVar 1))) (vVar 2))

def rd__law_four : VS := (vSeq (vSet 2 (vCallIO 0 sp__law_draw (vCons (vC (.int 2)) vNil)))
  (vRet (vCall cTup (vCons (vOf (vLc (wR1 (vC (.int 4))) rd__law_four_c1_g rd__law_four_c1_t rd__law_four_c1_e [3])) vNil))))
theorem der__law_four (Zm : ZZ K mg) {f__law_draw : Addr} {d__law_draw : FuncData} (C__law_draw : Cal P w K mg base 1 "_law_draw" ["box", "m"] (LFio K sp__law_draw) f__law_draw d__law_draw) {f : Addr} {cdv : Value} {A : Around} {outer : List Env} {s : Shared} {H : Hp} {E : XK} {B : Addr → Prop} (a0 : Addr) (hr : Room 1 (A.deeper (envOfC "_law_four" (defScope s__law_four) s.heap.objs.size f cdv))) :
    VSs (cxOf CX0 P w K mg base ["box", "most", "half", "k"] "_law_four" (defScope s__law_four) f cdv A outer s H E).nox ⟨B, some a0⟩ (defBody s__law_four) rd__law_four :=
  (vs_cons (vs_set 2 sc__law_four.nd rfl (by first | exact Or.inl rfl | exact Or.inr rfl) (Or.inr (by decide)) (ve_callIO 0 C__law_draw.ok (hr.mono (by decide)) (by rfl) C__law_draw.m C__law_draw.kp C__law_draw.b (pv 0) (va_cons ve_int va_nil)))
  (vs_one (vs_ret (ve_callC cv_tup (fun h => pe_callTy call_tuple_of (by rfl) Zm.z_tuple (by decide +kernel) h) (VA.vt (va_cons (VO.ve (vo_lc (own := [("k", 3)]) (by rfl) sc__law_four.nd (vw_rng1 (by rfl) Zm.z_range ve_int) (blkOk_by (own := [("k", 3)]) (by first | decide +kernel | kernel_rfl | rfl)) (fun _ _ _ _ _ _ => (vg_name 3 sc__law_four.nd rfl (by first | exact Or.inl rfl | exact Or.inr rfl) (Or.inr (by decide)) (by decide))) (fun _ _ _ _ _ _ => vbs_nil) (fun _ _ _ _ _ _ => (ve_bin ov_add (fun h1 h2 => pe_op (op_add.or (op_catA.or op_cat)) h1 h2) (ve_bin ov_mul (fun h1 h2 => pe_op (op_mulV.or op_repT) h1 h2) ve_int (ve_bin ov_I0 (fun h1 h2 => pe_op (op_sub) h1 h2) (ve_callIO 0 C__law_draw.ok (hr.mono (by decide)) (by rfl) C__law_draw.m C__law_draw.kp C__law_draw.b (pv 0) (va_cons (ve_bin ov_add (fun h1 h2 => pe_op (op_add.or (op_catA.or op_cat)) h1 h2) (ve_bin ov_mul (fun h1 h2 => pe_op (op_mulV.or op_repT) h1 h2) ve_int (ve_var 1)) ve_int) va_nil)) (ve_var 1))) (ve_var 2))))) va_nil))))))
theorem ok__law_four {f : Addr} {fd : FuncData} (F : FnP K "_law_four" s__law_four f fd) (m : mg "_law_four" = some (.ref f)) (Zm : ZZ K mg) {f__law_draw : Addr} {d__law_draw : FuncData} (C__law_draw : Cal P w K mg base 1 "_law_draw" ["box", "m"] (LFio K sp__law_draw) f__law_draw d__law_draw)
    (hl : ∀ xs ds Q, sp__law_four xs ds Q → ds.length + 1 = 2) (hq : ∀ xs ds Q, sp__law_four xs ds Q → rd__law_four (endIO Q) (ev1 ["box", "most", "half", "k"] xs ds)) :
    Cal P w K mg base 2 "_law_four" ["box", "most"] (LFio K sp__law_four) f fd :=
  ⟨fn_okIO F sc__law_four hl (fun cdv A outer s H E B a0 hr => der__law_four Zm C__law_draw a0 hr) hq, F.bindsN fun _ _ _ _ _ _ us hl => match us, hl with | [_, _], _ => rfl, F.kp, m⟩

/-! ### _law_times_four: ["one", "other", "a", "b", "c", "d", "e", "f", "g", "h", "row", "number"] -/
theorem sc__law_times_four : FnScope ["one", "other", "a", "b", "c", "d", "e", "f", "g", "h", "row", "number"] ["one", "other"] (defScope s__law_times_four) := ⟨rfl, rfl, rfl, by decide +kernel, rfl, by decide +kernel, by decide +kernel⟩
def rd__law_times_four_c1_g : VG := (gN 11)
def rd__law_times_four_c1_t : VTB := vYes
def rd__law_times_four_c1_e : VT := (vBin (d2 (fun _ j => divOk j) fun i j => .int (i.fdiv j)) (vVar 11) (vC (.int 2)))

def rd__law_times_four : VS := (vSeq (vAsg (vTup (vCons (vVar 0) (vCons (vVar 1) vNil))) (gT 2 (gsC (gT 4 (gsC (gN 2) (gsC (gN 3) (gsC (gN 4) (gsC (gN 5) gs0))))) (gsC (gT 4 (gsC (gN 6) (gsC (gN 7) (gsC (gN 8) (gsC (gN 9) gs0))))) gs0))))
  (vSeq (vSet 10 (vOf (vCons (vBin (d20 fun i j => .int (i - j)) (vBin (d20 fun i j => .int (i - j)) (vBin (d20 fun i j => .int (i - j)) (vBin dMul (vVar 2) (vVar 6)) (vBin dMul (vVar 3) (vVar 7))) (vBin dMul (vVar 4) (vVar 8))) (vBin dMul (vVar 5) (vVar 9))) (vCons (vBin (d20 fun i j => .int (i - j)) (vBin dAdd (vBin dAdd (vBin dMul (vVar 2) (vVar 7)) (vBin dMul (vVar 3) (vVar 6))) (vBin dMul (vVar 4) (vVar 9))) (vBin dMul (vVar 5) (vVar 8))) (vCons (vBin dAdd (vBin dAdd (vBin (d20 fun i j => .int (i - j)) (vBin dMul (vVar 2) (vVar 8)) (vBin dMul (vVar 3) (vVar 9))) (vBin dMul (vVar 4) (vVar 6))) (vBin dMul (vVar 5) (vVar 7))) (vCons (vBin dAdd (vBin (d20 fun i j => .int (i - j)) (vBin dAdd (vBin dMul (vVar 2) (vVar 9)) (vBin dMul (vVar 3) (vVar 8))) (vBin dMul (vVar 4) (vVar 7))) (vBin dMul (vVar 5) (vVar 6))) vNil))))))
  (vRet (vCall cTup (vCons (vOf (vLc (wL (vVar 10)) rd__law_times_four_c1_g rd__law_times_four_c1_t rd__law_times_four_c1_e [11])) vNil)))))
theorem der__law_times_four (Zm : ZZ K mg) {f : Addr} {cdv : Value} {A : Around} {outer : List Env} {s : Shared} {H : Hp} {E : XK} {B : Addr → Prop} (hr : Room 0 (A.deeper (envOfC "_law_times_four" (defScope s__law_times_four) s.heap.objs.size f cdv))) :
    VSs (cxOf CX0 P w K mg base ["one", "other", "a", "b", "c", "d", "e", "f", "g", "h", "row", "number"] "_law_times_four" (defScope s__law_times_four) f cdv A outer s H E).nox ⟨B, none⟩ (defBody s__law_times_four) rd__law_times_four :=
  (vs_cons (vs_asg (vs := [2, 3, 4, 5, 6, 7, 8, 9]) (ve_tup (va_cons (ve_var 0) (va_cons (ve_var 1) va_nil))) (vg_tup (by rfl) (vgs_cons (vg_tup (by rfl) (vgs_cons (vg_name 2 sc__law_times_four.nd rfl (by first | exact Or.inl rfl | exact Or.inr rfl) (Or.inl rfl) (by decide)) (vgs_cons (vg_name 3 sc__law_times_four.nd rfl (by first | exact Or.inl rfl | exact Or.inr rfl) (Or.inl rfl) (by decide)) (vgs_cons (vg_name 4 sc__law_times_four.nd rfl (by first | exact Or.inl rfl | exact Or.inr rfl) (Or.inl rfl) (by decide)) (vgs_cons (vg_name 5 sc__law_times_four.nd rfl (by first | exact Or.inl rfl | exact Or.inr rfl) (Or.inl rfl) (by decide)) vgs_nil))))) (vgs_cons (vg_tup (by rfl) (vgs_cons (vg_name 6 sc__law_times_four.nd rfl (by first | exact Or.inl rfl | exact Or.inr rfl) (Or.inl rfl) (by decide)) (vgs_cons (vg_name 7 sc__law_times_four.nd rfl (by first | exact Or.inl rfl | exact Or.inr rfl) (Or.inl rfl) (by decide)) (vgs_cons (vg_name 8 sc__law_times_four.nd rfl (by first | exact Or.inl rfl | exact Or.inr rfl) (Or.inl rfl) (by decide)) (vgs_cons (vg_name 9 sc__law_times_four.nd rfl (by first | exact Or.inl rfl | exact Or.inr rfl) (Or.inl rfl) (by decide)) vgs_nil))))) vgs_nil))))
  (vs_cons (vs_set 10 sc__law_times_four.nd rfl (by first | exact Or.inl rfl | exact Or.inr rfl) (Or.inl rfl) (VO.ve (vo_lst (va_cons (ve_bin ov_I0 (fun h1 h2 => pe_op (op_sub) h1 h2) (ve_bin ov_I0 (fun h1 h2 => pe_op (op_sub) h1 h2) (ve_bin ov_I0 (fun h1 h2 => pe_op (op_sub) h1 h2) (ve_bin ov_mul (fun h1 h2 => pe_op (op_mulV.or op_repT) h1 h2) (ve_var 2) (ve_var 6)) (ve_bin ov_mul (fun h1 h2 => pe_op (op_mulV.or op_repT) h1 h2) (ve_var 3) (ve_var 7))) (ve_bin ov_mul (fun h1 h2 => pe_op (op_mulV.or op_repT) h1 h2) (ve_var 4) (ve_var 8))) (ve_bin ov_mul (fun h1 h2 => pe_op (op_mulV.or op_repT) h1 h2) (ve_var 5) (ve_var 9))) (va_cons (ve_bin ov_I0 (fun h1 h2 => pe_op (op_sub) h1 h2) (ve_bin ov_add (fun h1 h2 => pe_op (op_add.or (op_catA.or op_cat)) h1 h2) (ve_bin ov_add (fun h1 h2 => pe_op (op_add.or (op_catA.or op_cat)) h1 h2) (ve_bin ov_mul (fun h1 h2 => pe_op (op_mulV.or op_repT) h1 h2) (ve_var 2) (ve_var 7)) (ve_bin ov_mul (fun h1 h2 => pe_op (op_mulV.or op_repT) h1 h2) (ve_var 3) (ve_var 6))) (ve_bin ov_mul (fun h1 h2 => pe_op (op_mulV.or op_repT) h1 h2) (ve_var 4) (ve_var 9))) (ve_bin ov_mul (fun h1 h2 => pe_op (op_mulV.or op_repT) h1 h2) (ve_var 5) (ve_var 8))) (va_cons (ve_bin ov_add (fun h1 h2 => pe_op (op_add.or (op_catA.or op_cat)) h1 h2) (ve_bin ov_add (fun h1 h2 => pe_op (op_add.or (op_catA.or op_cat)) h1 h2) (ve_bin ov_I0 (fun h1 h2 => pe_op (op_sub) h1 h2) (ve_bin ov_mul (fun h1 h2 => pe_op (op_mulV.or op_repT) h1 h2) (ve_var 2) (ve_var 8)) (ve_bin ov_mul (fun h1 h2 => pe_op (op_mulV.or op_repT) h1 h2) (ve_var 3) (ve_var 9))) (ve_bin ov_mul (fun h1 h2 => pe_op (op_mulV.or op_repT) h1 h2) (ve_var 4) (ve_var 6))) (ve_bin ov_mul (fun h1 h2 => pe_op (op_mulV.or op_repT) h1 h2) (ve_var 5) (ve_var 7))) (va_cons (ve_bin ov_add (fun h1 h2 => pe_op (op_add.or (op_catA.or op_cat)) h1 h2) (ve_bin ov_I0 (fun h1 h2 => pe_op (op_sub) h1 h2) (ve_bin ov_add (fun h1 h2 => pe_op (op_add.or (op_catA.or op_cat)) h1 h2) (ve_bin ov_mul (fun h1 h2 => pe_op (op_mulV.or op_repT) h1 h2) (ve_var 2) (ve_var 9)) (ve_bin ov_mul (fun h1 h2 => pe_op (op_mulV.or op_repT) h1 h2) (ve_var 3) (ve_var 8))) (ve_bin ov_mul (fun h1 h2 => pe_op (op_mulV.or op_repT) h1 h2) (ve_var 4) (ve_var 7))) (ve_bin ov_mul (fun h1 h2 => pe_op (op_mulV.or op_repT) h1 h2) (ve_var 5) (ve_var 6))) va_nil)))))))
  (vs_one (vs_ret (ve_callC cv_tup (fun h => pe_callTy call_tuple_of (by rfl) Zm.z_tuple (by decide +kernel) h) (VA.vt (va_cons (VO.ve (vo_lc (own := [("number", 11)]) (by rfl) sc__law_times_four.nd (vw_list (ve_var 10)) (blkOk_by (own := [("number", 11)]) (by first | decide +kernel | kernel_rfl | rfl)) (fun _ _ _ _ _ _ => (vg_name 11 sc__law_times_four.nd rfl (by first | exact Or.inl rfl | exact Or.inr rfl) (Or.inl rfl) (by decide))) (fun _ _ _ _ _ _ => vbs_nil) (fun _ _ _ _ _ _ => (ve_bin ov_I (fun h1 h2 => pe_op (op_fdivV) h1 h2) (ve_var 11) ve_int)))) va_nil)))))))
theorem ok__law_times_four {f : Addr} {fd : FuncData} (F : FnP K "_law_times_four" s__law_times_four f fd) (m : mg "_law_times_four" = some (.ref f)) (Zm : ZZ K mg)
    (hl : ∀ ds Q, sp__law_times_four ds Q → ds.length = 2) (hq : ∀ ds Q, sp__law_times_four ds Q → rd__law_times_four { nx := fun _ => Q .none, rt := fun d _ => Q d } (ev0 ["one", "other", "a", "b", "c", "d", "e", "f", "g", "h", "row", "number"] ds)) :
    Cal P w K mg base 1 "_law_times_four" ["one", "other"] (LF K sp__law_times_four) f fd :=
  ⟨fn_ok F sc__law_times_four hl (fun cdv A outer s H E B hr => der__law_times_four Zm  hr) hq, F.bindsN fun _ _ _ _ _ _ us hl => match us, hl with | [_, _], _ => rfl, F.kp, m⟩

/-! ### _law_norm_four: ["one", "number"] -/
theorem sc__law_norm_four : FnScope ["one", "number"] ["one"] (defScope s__law_norm_four) := ⟨rfl, rfl, rfl, by decide +kernel, rfl, by decide +kernel, by decide +kernel⟩
def rd__law_norm_four_c1_g : VG := (gN 1)
def rd__law_norm_four_c1_t : VTB := vYes
def rd__law_norm_four_c1_e : VT := (vBin dMul (vVar 1) (vVar 1))

def rd__law_norm_four : VS := (vRet (vBin (d2 (fun _ j => divOk j) fun i j => .int (i.fdiv j)) (vCall cSum (vCons (vOf (vLc (wT (vVar 0)) rd__law_norm_four_c1_g rd__law_norm_four_c1_t rd__law_norm_four_c1_e [1])) vNil)) (vC (.int 4))))
theorem der__law_norm_four (Zm : ZZ K mg) {f : Addr} {cdv : Value} {A : Around} {outer : List Env} {s : Shared} {H : Hp} {E : XK} {B : Addr → Prop} (hr : Room 0 (A.deeper (envOfC "_law_norm_four" (defScope s__law_norm_four) s.heap.objs.size f cdv))) :
    VSs (cxOf CX0 P w K mg base ["one", "number"] "_law_norm_four" (defScope s__law_norm_four) f cdv A outer s H E).nox ⟨B, none⟩ (defBody s__law_norm_four) rd__law_norm_four :=
  (vs_one (vs_ret (ve_bin ov_I (fun h1 h2 => pe_op (op_fdivV) h1 h2) (ve_callC cv_sum (fun h => pe_callB (cr_sum rfl) (by rfl) Zm.z_sum (by decide +kernel) h) (VA.vt (va_cons (VO.ve (vo_lc (own := [("number", 1)]) (by rfl) sc__law_norm_four.nd (vw_tup (ve_var 0)) (blkOk_by (own := [("number", 1)]) (by first | decide +kernel | kernel_rfl | rfl)) (fun _ _ _ _ _ _ => (vg_name 1 sc__law_norm_four.nd rfl (by first | exact Or.inl rfl | exact Or.inr rfl) (Or.inl rfl) (by decide))) (fun _ _ _ _ _ _ => vbs_nil) (fun _ _ _ _ _ _ => (ve_bin ov_mul (fun h1 h2 => pe_op (op_mulV.or op_repT) h1 h2) (ve_var 1) (ve_var 1))))) va_nil))) ve_int)))
theorem ok__law_norm_four {f : Addr} {fd : FuncData} (F : FnP K "_law_norm_four" s__law_norm_four f fd) (m : mg "_law_norm_four" = some (.ref f)) (Zm : ZZ K mg)
    (hl : ∀ ds Q, sp__law_norm_four ds Q → ds.length = 1) (hq : ∀ ds Q, sp__law_norm_four ds Q → rd__law_norm_four { nx := fun _ => Q .none, rt := fun d _ => Q d } (ev0 ["one", "number"] ds)) :
    Cal P w K mg base 1 "_law_norm_four" ["one"] (LF K sp__law_norm_four) f fd :=
  ⟨fn_ok F sc__law_norm_four hl (fun cdv A outer s H E B hr => der__law_norm_four Zm  hr) hq, F.bindsN fun _ _ _ _ _ _ us hl => match us, hl with | [_], _ => rfl, F.kp, m⟩

/-! ### law: ["script", "box", "one", "other", "both", "quotient", "rest", "back", "third", "left", "right", "found", "some", "units", "unit", "row", "whole", "norms", "even", "p", "k", "n", "number"] -/
theorem sc_law : FnScope ["script", "box", "one", "other", "both", "quotient", "rest", "back", "third", "left", "right", "found", "some", "units", "unit", "row", "whole", "norms", "even", "p", "k", "n", "number"] ["script"] (defScope s_law) := ⟨rfl, rfl, rfl, by decide +kernel, rfl, by decide +kernel, by decide +kernel⟩
def rd_law_c1_g : VG := (gN 20)
def rd_law_c1_t : VTB := vYes
def rd_law_c1_e : VT := (vBin dAdd (vBin dIx (vVar 7) (vVar 20)) (vBin dIx (vVar 6) (vVar 20)))

def rd_law_k1_2 : VS := (vIfS (vOr (vB (vBin dNe (vCall cTup (vCons (vOf (vLc (wR1 (vC (.int 4))) rd_law_c1_g rd_law_c1_t rd_law_c1_e [20])) vNil)) (vVar 2))) (vB (vBin (d20 fun i j => .bool (decide (j ≤ i))) (vCall sp__law_norm_four (vCons (vVar 6) vNil)) (vCall sp__law_norm_four (vCons (vVar 3) vNil))))) (vRet (vC (.bool false))) vNext)

def rd_law_k1_1 : VS := (vSeq (vSet 7 (vCall sp__law_times_four (vCons (vVar 5) (vCons (vVar 3) vNil))))
  rd_law_k1_2)

def rd_law_f2g : VG := (gN 12)
def rd_law_f2b : VS := (vIfS (vB (vBin dNe (vBin dIx (vCall sp_divided_four (vCons (vVar 12) (vCons (vVar 11) vNil))) (vC (.int 1))) (vTup (vCons (vC (.int 0)) (vCons (vC (.int 0)) (vCons (vC (.int 0)) (vCons (vC (.int 0)) vNil))))))) (vRet (vC (.bool false))) vNext)

def rd_law_k2_1 : VS := (vIfS (vB (vBin dNe (vBin dIx (vCall sp_divided_four (vCons (vVar 11) (vCons (vVar 8) vNil))) (vC (.int 1))) (vTup (vCons (vC (.int 0)) (vCons (vC (.int 0)) (vCons (vC (.int 0)) (vCons (vC (.int 0)) vNil))))))) (vRet (vC (.bool false))) vNext)

def rd_law_k3_2 : VS := (vIfS (vB (vBin dNe (vTup (vCons (vVar 9) (vCons (vVar 10) vNil))) (vTup (vCons (vTup (vCons (vC (.int 0)) (vCons (vC (.int 0)) (vCons (vC (.int 0)) (vCons (vC (.int 0)) vNil))))) (vCons (vTup (vCons (vC (.int 0)) (vCons (vC (.int 0)) (vCons (vC (.int 0)) (vCons (vC (.int 0)) vNil))))) vNil))))) (vSeq (vForS (wL (vOf (vCons (vVar 9) (vCons (vVar 10) vNil)))) rd_law_f2g rd_law_f2b)
  rd_law_k2_1) vNext)

def rd_law_k3_1 : VS := (vSeq (vSet 11 (vCall sp_common_four (vCons (vVar 9) (vCons (vVar 10) vNil))))
  rd_law_k3_2)

def rd_law_c3_g : VG := (gN 14)
def rd_law_c3_t : VTB := (vB (vBin dNe (vCall sp__law_norm_four (vCons (vVar 14) vNil)) (vC (.int 1))))
def rd_law_c3_e : VT := (vVar 14)

def rd_law_c5_g : VG := (gN 20)
def rd_law_c5_t : VTB := (vB (vBin (dInI true) (vCall sp__law_times_four (vCons (vVar 14) (vCons (vVar 20) vNil))) (vVar 13)))
def rd_law_c5_e : VT := (vVar 20)

def rd_law_f4g : VG := (gN 14)
def rd_law_f4b : VS := (vIfS (vB (vBin dNe (vOf (vLc (wL (vVar 13)) rd_law_c5_g rd_law_c5_t rd_law_c5_e [20])) (vOf vNil))) (vRet (vC (.bool false))) vNext)

def rd_law_k4_1 : VS := (vAppend 17 (vCall sp__law_norm_four (vCons (vVar 12) vNil)))

def rd_law_f6g : VG := (gN 12)
def rd_law_f6b : VS := (vSeq (vSet 16 (vCall sp__law_times_four (vCons (vVar 16) (vCons (vVar 12) vNil))))
  rd_law_k4_1)

def rd_law_c7_g : VG := (gN 21)
def rd_law_c7_t : VTB := (vB (vBin dNe (vCall sp__law_primes (vCons (vVar 21) vNil)) (vOf (vCons (vVar 21) vNil))))
def rd_law_c7_e : VT := (vVar 21)

def rd_law_k5_4 : VS := (vFz 17 (vIfS (vOr (vB (vBin dNe (vVar 16) (vVar 2))) (vOr (vB (vBin dNe (vCall sp__law_norm_four (vCons (vBin dIx (vVar 15) (vC (.int 0))) vNil)) (vC (.int 1)))) (vOr (vB (vBinL dNe 17 (vOf (vRevL (vOf (vCallO (cSrt false) (vLookA 17))))))) (vB (vBin dNe (vOf (vLc (wL (vVar 17)) rd_law_c7_g rd_law_c7_t rd_law_c7_e [21])) (vOf vNil)))))) (vRet (vC (.bool false))) vNext))

def rd_law_k5_3 : VS := (vSeq (vForS (wT (vSl (vVar 15) (vP1 (vC (.int 1))) vP0)) rd_law_f6g rd_law_f6b)
  rd_law_k5_4)

def rd_law_k5_2 : VS := (vSeq (vSetO 17 vNil)
  rd_law_k5_3)

def rd_law_k5_1 : VS := (vSeq (vSet 16 (vBin dIx (vVar 15) (vC (.int 0))))
  rd_law_k5_2)

def rd_law_c8_g : VG := (gN 22)
def rd_law_c8_t : VTB := (vB (vBin dEq (vBin (d2 (fun _ j => j ≠ 0) fun i j => .int (i.fmod j)) (vVar 22) (vC (.int 2))) (vC (.int 1))))
def rd_law_c8_e : VT := (vVar 22)

def rd_law_k6_17 : VS := (vRet (vEqS "zero" (vReason (vxCall spx_divided_four (vCons (vVar 2) (vCons (vTup (vCons (vC (.int 0)) (vCons (vC (.int 0)) (vCons (vC (.int 0)) (vCons (vC (.int 0)) vNil))))) vNil))))))

def rd_law_k6_16 : VS := (vSeq (vIfS (vNot (vB (vEqS "quaternion" (vReason (vxCall spx_times_four (vCons (vTup (vCons (vC (.int 1)) (vCons (vC (.int 2)) (vCons (vC (.int 1)) (vCons (vC (.int 1)) vNil))))) (vCons (vVar 2) vNil))))))) (vRet (vC (.bool false))) vNext)
  rd_law_k6_17)

def rd_law_k6_15 : VS := (vSeq (vIfS (vOr (vB (vBin dNe (vCall sp__law_norm_four (vCons (vCall sp_prime_four (vCons (vVar 19) vNil)) vNil)) (vVar 19))) (vB (vBin dNotB (vCall sp_is_whole_quaternion (vCons (vTup (vCons (vC (.int 1)) (vCons (vC (.int 2)) (vCons (vC (.int 1)) (vCons (vC (.int 1)) vNil))))) vNil)) (vC (.bool false))))) (vRet (vC (.bool false))) vNext)
  rd_law_k6_16)

def rd_law_k6_14 : VS := (vSeq (vSet 19 (vCallIO 1 sp__law_pick (vCons (vOf (vCons (vC (.int 2)) (vCons (vC (.int 3)) (vCons (vC (.int 5)) (vCons (vC (.int 7)) (vCons (vC (.int 11)) (vCons (vC (.int 13)) (vCons (vC (.int 101)) vNil)))))))) vNil)))
  rd_law_k6_15)

def rd_law_k6_13 : VS := (vSeq (vIfS (vOr (vB (vBin dNe (vOf (vLc (wT (vVar 18)) rd_law_c8_g rd_law_c8_t rd_law_c8_e [22])) (vOf vNil))) (vB (vBin dNe (vCall sp__law_norm_four (vCons (vVar 18) vNil)) (vCall sp__law_norm_four (vCons (vVar 2) vNil))))) (vRet (vC (.bool false))) vNext)
  rd_law_k6_14)

def rd_law_k6_12 : VS := (vSeq (vSet 18 (vCall sp_whole_four (vCons (vVar 2) vNil)))
  rd_law_k6_13)

def rd_law_k6_11 : VS := (vSeq (vIfS (vB (vBin dNe (vVar 2) (vTup (vCons (vC (.int 0)) (vCons (vC (.int 0)) (vCons (vC (.int 0)) (vCons (vC (.int 0)) vNil))))))) (vSeq (vSet 15 (vCall sp_factored_four (vCons (vVar 2) vNil)))
  rd_law_k5_1) vNext)
  rd_law_k6_12)

def rd_law_k6_10 : VS := (vSeq (vForS (wL (vSl (vVar 13) vP0 (vP1 (vC (.int 6))))) rd_law_f4g rd_law_f4b)
  rd_law_k6_11)

def rd_law_k6_9 : VS := (vSeq (vIfS (vOr (vB (vBin dNe (vCall cLen (vCons (vVar 13) vNil)) (vC (.int 24)))) (vOr (vB (vBin dNe (vVar 13) (vOf (vCallO (cSrt false) (vCons (vVar 13) vNil))))) (vB (vBin dNe (vOf (vLc (wL (vVar 13)) rd_law_c3_g rd_law_c3_t rd_law_c3_e [14])) (vOf vNil))))) (vRet (vC (.bool false))) vNext)
  rd_law_k6_10)

def rd_law_k6_8 : VS := (vSeq (vSet 13 (vCall sp_units_four vNil))
  rd_law_k6_9)

def rd_law_k6_7 : VS := (vSeq (vIfS (vB (vBin dNe (vVar 8) (vTup (vCons (vC (.int 0)) (vCons (vC (.int 0)) (vCons (vC (.int 0)) (vCons (vC (.int 0)) vNil))))))) (vSeq (vPar 9 10 (vCall sp__law_times_four (vCons (vVar 2) (vCons (vVar 8) vNil))) (vCall sp__law_times_four (vCons (vVar 3) (vCons (vVar 8) vNil))))
  rd_law_k3_1) vNext)
  rd_law_k6_8)

def rd_law_k6_6 : VS := (vSeq (vSet 8 (vCallIO 1 sp__law_four (vCons (vC (.int 3)) vNil)))
  rd_law_k6_7)

def rd_law_k6_5 : VS := (vSeq (vIfS (vB (vBin dNe (vVar 3) (vTup (vCons (vC (.int 0)) (vCons (vC (.int 0)) (vCons (vC (.int 0)) (vCons (vC (.int 0)) vNil))))))) (vSeq (vAsg (vCall sp_divided_four (vCons (vVar 2) (vCons (vVar 3) vNil))) (gT 2 (gsC (gN 5) (gsC (gN 6) gs0))))
  rd_law_k1_1) vNext)
  rd_law_k6_6)

def rd_law_k6_4 : VS := (vSeq (vIfS (vB (vBin dNe (vCall sp_times_four (vCons (vVar 2) (vCons (vCall sp_turned_four (vCons (vVar 2) vNil)) vNil))) (vTup (vCons (vBin dMul (vC (.int 2)) (vCall sp__law_norm_four (vCons (vVar 2) vNil))) (vCons (vC (.int 0)) (vCons (vC (.int 0)) (vCons (vC (.int 0)) vNil))))))) (vRet (vC (.bool false))) vNext)
  rd_law_k6_5)

def rd_law_k6_3 : VS := (vSeq (vIfS (vOr (vB (vBin dNe (vVar 4) (vCall sp__law_times_four (vCons (vVar 2) (vCons (vVar 3) vNil))))) (vOr (vB (vBin dNe (vCall sp_norm_four (vCons (vVar 4) vNil)) (vBin dMul (vCall sp__law_norm_four (vCons (vVar 2) vNil)) (vCall sp__law_norm_four (vCons (vVar 3) vNil))))) (vB (vBin dNotB (vCall sp_is_whole_quaternion (vCons (vVar 4) vNil)) (vC (.bool true)))))) (vRet (vC (.bool false))) vNext)
  rd_law_k6_4)

def rd_law_k6_2 : VS := (vSeq (vSet 4 (vCall sp_times_four (vCons (vVar 2) (vCons (vVar 3) vNil))))
  rd_law_k6_3)

def rd_law_k6_1 : VS := (vSeq (vAsg (vTup (vCons (vCallIO 1 sp__law_four (vCons (vC (.int 6)) vNil)) (vCons (vCallIO 1 sp__law_four (vCons (vC (.int 4)) vNil)) vNil))) (gT 2 (gsC (gN 2) (gsC (gN 3) gs0))))
  rd_law_k6_2)

def rd_law : VS := (vSeq (vSetO 1 (vCons (vCallSC 0 sp__law_digits (vCons (vC (.int 0)) (vCons (vC (.int 63)) vNil))) (vCons (vC (.int 0)) vNil)))
  rd_law_k6_1)
theorem der_law {d0 : VX.InitD} {cA Pt : Addr} (Zm : ZZ K mg) (Zr : Rsn P K mg base d0 s__law_reason cA Pt) {f__law_digits : Addr} {d__law_digits : FuncData} (C__law_digits : Cal P w K mg base 2 "_law_digits" ["script", "first", "last"] (LFsc K sp__law_digits) f__law_digits d__law_digits) {f__law_four : Addr} {d__law_four : FuncData} (C__law_four : Cal P w K mg base 2 "_law_four" ["box", "most"] (LFio K sp__law_four) f__law_four d__law_four) {f_times_four : Addr} {d_times_four : FuncData} (C_times_four : Cal P w K mg base 5 "times_four" ["one", "other"] (LF K sp_times_four) f_times_four d_times_four) {f_is_whole_quaternion : Addr} {d_is_whole_quaternion : FuncData} (C_is_whole_quaternion : Cal P w K mg base 3 "is_whole_quaternion" ["shape"] (LF K sp_is_whole_quaternion) f_is_whole_quaternion d_is_whole_quaternion) {f_norm_four : Addr} {d_norm_four : FuncData} (C_norm_four : Cal P w K mg base 5 "norm_four" ["one"] (LF K sp_norm_four) f_norm_four d_norm_four) {f__law_norm_four : Addr} {d__law_norm_four : FuncData} (C__law_norm_four : Cal P w K mg base 1 "_law_norm_four" ["one"] (LF K sp__law_norm_four) f__law_norm_four d__law_norm_four) {f__law_times_four : Addr} {d__law_times_four : FuncData} (C__law_times_four : Cal P w K mg base 1 "_law_times_four" ["one", "other"] (LF K sp__law_times_four) f__law_times_four d__law_times_four) {f_turned_four : Addr} {d_turned_four : FuncData} (C_turned_four : Cal P w K mg base 1 "turned_four" ["one"] (LF K sp_turned_four) f_turned_four d_turned_four) {f_divided_four : Addr} {d_divided_four : FuncData} (C_divided_four : Cal P w K mg base 6 "divided_four" ["one", "other"] (LF K sp_divided_four) f_divided_four d_divided_four) {f_common_four : Addr} {d_common_four : FuncData} (C_common_four : Cal P w K mg base 7 "common_four" ["one", "other"] (LF K sp_common_four) f_common_four d_common_four) {f_units_four : Addr} {d_units_four : FuncData} (C_units_four : Cal P w K mg base 1 "units_four" [] (LF K sp_units_four) f_units_four d_units_four) {f_factored_four : Addr} {d_factored_four : FuncData} (C_factored_four : Cal P w K mg base 9 "factored_four" ["one"] (LF K sp_factored_four) f_factored_four d_factored_four) {f__law_primes : Addr} {d__law_primes : FuncData} (C__law_primes : Cal P w K mg base 1 "_law_primes" ["number"] (LF K sp__law_primes) f__law_primes d__law_primes) {f_whole_four : Addr} {d_whole_four : FuncData} (C_whole_four : Cal P w K mg base 6 "whole_four" ["one"] (LF K sp_whole_four) f_whole_four d_whole_four) {f__law_pick : Addr} {d__law_pick : FuncData} (C__law_pick : Cal P w K mg base 2 "_law_pick" ["box", "rows"] (LFio K sp__law_pick) f__law_pick d__law_pick) {f_prime_four : Addr} {d_prime_four : FuncData} (C_prime_four : Cal P w K mg base 6 "prime_four" ["prime"] (LF K sp_prime_four) f_prime_four d_prime_four) {fx_times_four : Addr} {dx_times_four : FuncData} (X_times_four : CalX P w K mg base 5 "times_four" ["one", "other"] (LFx K (VX.C_ K) spx_times_four) fx_times_four dx_times_four) {fx_divided_four : Addr} {dx_divided_four : FuncData} (X_divided_four : CalX P w K mg base 6 "divided_four" ["one", "other"] (LFx K (VX.C_ K) spx_divided_four) fx_divided_four dx_divided_four) {f : Addr} {A : Around} {outer : List Env} {s : Shared} {H : Hp} {E : XK} (hr : Room 9 (A.deeper (envOfC "law" (defScope s_law) s.heap.objs.size f (.ref cA)))) :
    PSs (cxOf CX0 P w K mg base ["script", "box", "one", "other", "both", "quotient", "rest", "back", "third", "left", "right", "found", "some", "units", "unit", "row", "whole", "norms", "even", "p", "k", "n", "number"] "law" (defScope s_law) f (.ref cA) A outer s H E).nox (defBody s_law) (LTS K ⟨fun b => b = Pt, none⟩ [(Pt, "law.<locals>.<lambda>")] rd_law) :=
  (psst_cons (pst_of (vs_setO 1 sc_law.nd rfl (by first | exact Or.inl rfl | exact Or.inr rfl) (Or.inl rfl) (vo_lst (va_cons (ve_callSC 0 C__law_digits.ok (hr.mono (by decide)) (by rfl) C__law_digits.m C__law_digits.kp C__law_digits.b (pv 0) (va_cons ve_int (va_cons ve_int va_nil))) (va_cons ve_int va_nil)))))
  (psst_cons (pst_of (vs_asg (vs := [2, 3]) (ve_tup (va_cons (ve_callIO 1 C__law_four.ok (hr.mono (by decide)) (by rfl) C__law_four.m C__law_four.kp C__law_four.b (pv 1) (va_cons ve_int va_nil)) (va_cons (ve_callIO 1 C__law_four.ok (hr.mono (by decide)) (by rfl) C__law_four.m C__law_four.kp C__law_four.b (pv 1) (va_cons ve_int va_nil)) va_nil))) (vg_tup (by rfl) (vgs_cons (vg_name 2 sc_law.nd rfl (by first | exact Or.inl rfl | exact Or.inr rfl) (Or.inl rfl) (by decide)) (vgs_cons (vg_name 3 sc_law.nd rfl (by first | exact Or.inl rfl | exact Or.inr rfl) (Or.inl rfl) (by decide)) vgs_nil)))))
  (psst_cons (pst_of (vs_set 4 sc_law.nd rfl (by first | exact Or.inl rfl | exact Or.inr rfl) (Or.inl rfl) (ve_call C_times_four.ok (hr.mono (by decide)) (by rfl) C_times_four.m C_times_four.kp C_times_four.b (va_cons (ve_var 2) (va_cons (ve_var 3) va_nil)))))
  (psst_cons (pst_of (vs_if (VW.vb (vw_or (vb_cmp (op_neD hr.units) ov_ne (nomark _) (ve_var 4) (ve_call C__law_times_four.ok (hr.mono (by decide)) (by rfl) C__law_times_four.m C__law_times_four.kp C__law_times_four.b (va_cons (ve_var 2) (va_cons (ve_var 3) va_nil)))) (vw_or (vb_cmp (op_neD hr.units) ov_ne (nomark _) (ve_call C_norm_four.ok (hr.mono (by decide)) (by rfl) C_norm_four.m C_norm_four.kp C_norm_four.b (va_cons (ve_var 4) va_nil)) (ve_bin ov_mul (fun h1 h2 => pe_op (op_mulV.or op_repT) h1 h2) (ve_call C__law_norm_four.ok (hr.mono (by decide)) (by rfl) C__law_norm_four.m C__law_norm_four.kp C__law_norm_four.b (va_cons (ve_var 2) va_nil)) (ve_call C__law_norm_four.ok (hr.mono (by decide)) (by rfl) C__law_norm_four.m C__law_norm_four.kp C__law_norm_four.b (va_cons (ve_var 3) va_nil)))) (vw_or1 (vb_cmp (op_notBl) ov_notB (nomark _) (ve_call C_is_whole_quaternion.ok (hr.mono (by decide)) (by rfl) C_is_whole_quaternion.m C_is_whole_quaternion.kp C_is_whole_quaternion.b (va_cons (ve_var 4) va_nil)) ve_bl))))) (vs_one (vs_ret ve_bl)) vs_nil))
  (psst_cons (pst_of (vs_if (vb_cmp (op_neD hr.units) ov_ne (nomark _) (ve_call C_times_four.ok (hr.mono (by decide)) (by rfl) C_times_four.m C_times_four.kp C_times_four.b (va_cons (ve_var 2) (va_cons (ve_call C_turned_four.ok (hr.mono (by decide)) (by rfl) C_turned_four.m C_turned_four.kp C_turned_four.b (va_cons (ve_var 2) va_nil)) va_nil))) (ve_tup (va_cons (ve_bin ov_mul (fun h1 h2 => pe_op (op_mulV.or op_repT) h1 h2) ve_int (ve_call C__law_norm_four.ok (hr.mono (by decide)) (by rfl) C__law_norm_four.m C__law_norm_four.kp C__law_norm_four.b (va_cons (ve_var 2) va_nil))) (va_cons ve_int (va_cons ve_int (va_cons ve_int va_nil)))))) (vs_one (vs_ret ve_bl)) vs_nil))
  (psst_cons (pst_of (vs_if (vb_cmp (op_neD hr.units) ov_ne (nomark _) (ve_var 3) (ve_tup (va_cons ve_int (va_cons ve_int (va_cons ve_int (va_cons ve_int va_nil)))))) (vs_cons (vs_asg (vs := [5, 6]) (ve_call C_divided_four.ok (hr.mono (by decide)) (by rfl) C_divided_four.m C_divided_four.kp C_divided_four.b (va_cons (ve_var 2) (va_cons (ve_var 3) va_nil))) (vg_tup (by rfl) (vgs_cons (vg_name 5 sc_law.nd rfl (by first | exact Or.inl rfl | exact Or.inr rfl) (Or.inl rfl) (by decide)) (vgs_cons (vg_name 6 sc_law.nd rfl (by first | exact Or.inl rfl | exact Or.inr rfl) (Or.inl rfl) (by decide)) vgs_nil))))
  (vs_cons (vs_set 7 sc_law.nd rfl (by first | exact Or.inl rfl | exact Or.inr rfl) (Or.inl rfl) (ve_call C__law_times_four.ok (hr.mono (by decide)) (by rfl) C__law_times_four.m C__law_times_four.kp C__law_times_four.b (va_cons (ve_var 5) (va_cons (ve_var 3) va_nil))))
  (vs_one (vs_if (VW.vb (vw_or (vb_cmp (op_neD hr.units) ov_ne (nomark _) (ve_callC cv_tup (fun h => pe_callTy call_tuple_of (by rfl) Zm.z_tuple (by decide +kernel) h) (VA.vt (va_cons (VO.ve (vo_lc (own := [("k", 20)]) (by rfl) sc_law.nd (vw_rng1 (by rfl) Zm.z_range ve_int) (blkOk_by (own := [("k", 20)]) (by first | decide +kernel | kernel_rfl | rfl)) (fun _ _ _ _ _ _ => (vg_name 20 sc_law.nd rfl (by first | exact Or.inl rfl | exact Or.inr rfl) (Or.inl rfl) (by decide))) (fun _ _ _ _ _ _ => vbs_nil) (fun _ _ _ _ _ _ => (ve_bin ov_add (fun h1 h2 => pe_op (op_add.or (op_catA.or op_cat)) h1 h2) (ve_bin ov_ix (fun h1 h2 => pe_ix (ix_list.or ix_tup) h1 h2 (fun _ _ => rfl)) (ve_var 7) (ve_var 20)) (ve_bin ov_ix (fun h1 h2 => pe_ix (ix_list.or ix_tup) h1 h2 (fun _ _ => rfl)) (ve_var 6) (ve_var 20)))))) va_nil))) (ve_var 2)) (vw_or1 (vb_cmp (op_ge) ov_B0 (nomark _) (ve_call C__law_norm_four.ok (hr.mono (by decide)) (by rfl) C__law_norm_four.m C__law_norm_four.kp C__law_norm_four.b (va_cons (ve_var 6) va_nil)) (ve_call C__law_norm_four.ok (hr.mono (by decide)) (by rfl) C__law_norm_four.m C__law_norm_four.kp C__law_norm_four.b (va_cons (ve_var 3) va_nil)))))) (vs_one (vs_ret ve_bl)) vs_nil)))) vs_nil))
  (psst_cons (pst_of (vs_set 8 sc_law.nd rfl (by first | exact Or.inl rfl | exact Or.inr rfl) (Or.inl rfl) (ve_callIO 1 C__law_four.ok (hr.mono (by decide)) (by rfl) C__law_four.m C__law_four.kp C__law_four.b (pv 1) (va_cons ve_int va_nil))))
  (psst_cons (pst_of (vs_if (vb_cmp (op_neD hr.units) ov_ne (nomark _) (ve_var 8) (ve_tup (va_cons ve_int (va_cons ve_int (va_cons ve_int (va_cons ve_int va_nil)))))) (vs_cons (vs_par 9 10 (by rfl) sc_law.nd rfl rfl (by decide) (Or.inl rfl) rfl rfl (ve_call C__law_times_four.ok (hr.mono (by decide)) (by rfl) C__law_times_four.m C__law_times_four.kp C__law_times_four.b (va_cons (ve_var 2) (va_cons (ve_var 8) va_nil))) (ve_call C__law_times_four.ok (hr.mono (by decide)) (by rfl) C__law_times_four.m C__law_times_four.kp C__law_times_four.b (va_cons (ve_var 3) (va_cons (ve_var 8) va_nil))) (by rfl))
  (vs_cons (vs_set 11 sc_law.nd rfl (by first | exact Or.inl rfl | exact Or.inr rfl) (Or.inl rfl) (ve_call C_common_four.ok (hr.mono (by decide)) (by rfl) C_common_four.m C_common_four.kp C_common_four.b (va_cons (ve_var 9) (va_cons (ve_var 10) va_nil))))
  (vs_one (vs_if (vb_cmp (op_neD hr.units) ov_ne (nomark _) (ve_tup (va_cons (ve_var 9) (va_cons (ve_var 10) va_nil))) (ve_tup (va_cons (ve_tup (va_cons ve_int (va_cons ve_int (va_cons ve_int (va_cons ve_int va_nil))))) (va_cons (ve_tup (va_cons ve_int (va_cons ve_int (va_cons ve_int (va_cons ve_int va_nil))))) va_nil)))) (vs_cons (vs_for (vs := [12]) PassesOwn.never (by rfl) (vw_list (VO.ve (vo_lst (va_cons (ve_var 9) (va_cons (ve_var 10) va_nil))))) (vg_name 12 sc_law.nd rfl (by first | exact Or.inl rfl | exact Or.inr rfl) (Or.inl rfl) (by decide)) (vs_one (vs_if (vb_cmp (op_neD hr.units) ov_ne (nomark _) (ve_bin ov_ix (fun h1 h2 => pe_ix (ix_list.or ix_tup) h1 h2 (fun _ _ => rfl)) (ve_call C_divided_four.ok (hr.mono (by decide)) (by rfl) C_divided_four.m C_divided_four.kp C_divided_four.b (va_cons (ve_var 12) (va_cons (ve_var 11) va_nil))) ve_int) (ve_tup (va_cons ve_int (va_cons ve_int (va_cons ve_int (va_cons ve_int va_nil)))))) (vs_one (vs_ret ve_bl)) vs_nil)))
  (vs_one (vs_if (vb_cmp (op_neD hr.units) ov_ne (nomark _) (ve_bin ov_ix (fun h1 h2 => pe_ix (ix_list.or ix_tup) h1 h2 (fun _ _ => rfl)) (ve_call C_divided_four.ok (hr.mono (by decide)) (by rfl) C_divided_four.m C_divided_four.kp C_divided_four.b (va_cons (ve_var 11) (va_cons (ve_var 8) va_nil))) ve_int) (ve_tup (va_cons ve_int (va_cons ve_int (va_cons ve_int (va_cons ve_int va_nil)))))) (vs_one (vs_ret ve_bl)) vs_nil))) vs_nil)))) vs_nil))
  (psst_cons (pst_of (vs_set 13 sc_law.nd rfl (by first | exact Or.inl rfl | exact Or.inr rfl) (Or.inl rfl) (ve_call0 C_units_four.ok (hr.mono (by decide)) (by rfl) C_units_four.m C_units_four.kp C_units_four.b)))
  (psst_cons (pst_of (vs_if (VW.vb (vw_or (vb_cmp (op_neD hr.units) ov_ne (nomark _) (ve_callC cv_len (fun h => pe_callB call_len_seq (by rfl) Zm.z_len PySem.boot_len h) (VA.vt (va_cons (ve_var 13) va_nil))) ve_int) (vw_or (vb_cmp (op_neD hr.units) ov_ne (nomark _) (ve_var 13) (VO.ve (vo_callC co_srt (fun h => pe_callB cr_srt (by rfl) Zm.z_sorted (by decide +kernel) h) (VA.vt (va_cons (ve_var 13) va_nil))))) (vw_or1 (vb_cmp (op_neD hr.units) ov_ne (nomark _) (VO.ve (vo_lc (own := [("unit", 14)]) (by rfl) sc_law.nd (vw_list (ve_var 13)) (blkOk_by (own := [("unit", 14)]) (by first | decide +kernel | kernel_rfl | rfl)) (fun _ _ _ _ _ _ => (vg_name 14 sc_law.nd rfl (by first | exact Or.inl rfl | exact Or.inr rfl) (Or.inl rfl) (by decide))) (fun _ _ _ _ _ _ => (vbs_one (vb_cmp (op_neD hr.units) ov_ne (nomark _) (ve_call C__law_norm_four.ok (hr.mono (by decide)) (by rfl) C__law_norm_four.m C__law_norm_four.kp C__law_norm_four.b (va_cons (ve_var 14) va_nil)) ve_int))) (fun _ _ _ _ _ _ => (ve_var 14)))) (VO.ve (vo_lst va_nil))))))) (vs_one (vs_ret ve_bl)) vs_nil))
  (psst_cons (pst_of (vs_for (vs := [14]) PassesOwn.never (by rfl) (vw_list (ve_slice (ve_var 13) vp_none (vp_some ve_int))) (vg_name 14 sc_law.nd rfl (by first | exact Or.inl rfl | exact Or.inr rfl) (Or.inl rfl) (by decide)) (vs_one (vs_if (vb_cmp (op_neD hr.units) ov_ne (nomark _) (VO.ve (vo_lc (own := [("k", 20)]) (by rfl) sc_law.nd (vw_list (ve_var 13)) (blkOk_by (own := [("k", 20)]) (by first | decide +kernel | kernel_rfl | rfl)) (fun _ _ _ _ _ _ => (vg_name 20 sc_law.nd rfl (by first | exact Or.inl rfl | exact Or.inr rfl) (Or.inl rfl) (by decide))) (fun _ _ _ _ _ _ => (vbs_one (vb_cmp (op_notIn_seq.or (op_notInD hr.units65)) ov_notIn (by with_unfolding_all rfl) (ve_call C__law_times_four.ok (hr.mono (by decide)) (by rfl) C__law_times_four.m C__law_times_four.kp C__law_times_four.b (va_cons (ve_var 14) (va_cons (ve_var 20) va_nil))) (ve_var 13)))) (fun _ _ _ _ _ _ => (ve_var 20)))) (VO.ve (vo_lst va_nil))) (vs_one (vs_ret ve_bl)) vs_nil))))
  (psst_cons (pst_of (vs_if (vb_cmp (op_neD hr.units) ov_ne (nomark _) (ve_var 2) (ve_tup (va_cons ve_int (va_cons ve_int (va_cons ve_int (va_cons ve_int va_nil)))))) (vs_cons (vs_set 15 sc_law.nd rfl (by first | exact Or.inl rfl | exact Or.inr rfl) (Or.inl rfl) (ve_call C_factored_four.ok (hr.mono (by decide)) (by rfl) C_factored_four.m C_factored_four.kp C_factored_four.b (va_cons (ve_var 2) va_nil)))
  (vs_cons (vs_set 16 sc_law.nd rfl (by first | exact Or.inl rfl | exact Or.inr rfl) (Or.inl rfl) (ve_bin ov_ix (fun h1 h2 => pe_ix (ix_list.or ix_tup) h1 h2 (fun _ _ => rfl)) (ve_var 15) ve_int))
  (vs_cons (vs_setO 17 sc_law.nd rfl (by first | exact Or.inl rfl | exact Or.inr rfl) (Or.inl rfl) (vo_lst va_nil))
  (vs_cons (vs_for (vs := [12]) PassesOwn.never (by rfl) (vw_tup (ve_slice (ve_var 15) (vp_some ve_int) vp_none)) (vg_name 12 sc_law.nd rfl (by first | exact Or.inl rfl | exact Or.inr rfl) (Or.inl rfl) (by decide)) (vs_cons (vs_set 16 sc_law.nd rfl (by first | exact Or.inl rfl | exact Or.inr rfl) (Or.inl rfl) (ve_call C__law_times_four.ok (hr.mono (by decide)) (by rfl) C__law_times_four.m C__law_times_four.kp C__law_times_four.b (va_cons (ve_var 16) (va_cons (ve_var 12) va_nil))))
  (vs_one (vs_append 17 (pv 17) (ve_call C__law_norm_four.ok (hr.mono (by decide)) (by rfl) C__law_norm_four.m C__law_norm_four.kp C__law_norm_four.b (va_cons (ve_var 12) va_nil)) (fun h => mk_append (pv 17) (he := h))))))
  (vs_one (vs_fz 17 (Or.inl rfl) (vs_if (VW.vb (vw_or (vb_cmp (op_neD hr.units) ov_ne (nomark _) (ve_var 16) (ve_var 2)) (vw_or (vb_cmp (op_neD hr.units) ov_ne (nomark _) (ve_call C__law_norm_four.ok (hr.mono (by decide)) (by rfl) C__law_norm_four.m C__law_norm_four.kp C__law_norm_four.b (va_cons (ve_bin ov_ix (fun h1 h2 => pe_ix (ix_list.or ix_tup) h1 h2 (fun _ _ => rfl)) (ve_var 15) ve_int) va_nil)) ve_int) (vw_or (vb_cmpL 17 (op_neD hr.units) ov_ne (nomark _) (pv 17) (VO.ve (vo_rev (VO.ve (vo_callC co_srt (fun h => pe_callB cr_srt (by rfl) Zm.z_sorted (by decide +kernel) h) (vt_lookP 17 (pv 17))))))) (vw_or1 (vb_cmp (op_neD hr.units) ov_ne (nomark _) (VO.ve (vo_lc (own := [("n", 21)]) (by rfl) sc_law.nd (vw_list (ve_var 17)) (blkOk_by (own := [("n", 21)]) (by first | decide +kernel | kernel_rfl | rfl)) (fun _ _ _ _ _ _ => (vg_name 21 sc_law.nd rfl (by first | exact Or.inl rfl | exact Or.inr rfl) (Or.inl rfl) (by decide))) (fun _ _ _ _ _ _ => (vbs_one (vb_cmp (op_neD hr.units) ov_ne (nomark _) (ve_call C__law_primes.ok (hr.mono (by decide)) (by rfl) C__law_primes.m C__law_primes.kp C__law_primes.b (va_cons (ve_var 21) va_nil)) (VO.ve (vo_lst (va_cons (ve_var 21) va_nil)))))) (fun _ _ _ _ _ _ => (ve_var 21)))) (VO.ve (vo_lst va_nil)))))))) (vs_one (vs_ret ve_bl)) vs_nil))))))) vs_nil))
  (psst_cons (pst_of (vs_set 18 sc_law.nd rfl (by first | exact Or.inl rfl | exact Or.inr rfl) (Or.inl rfl) (ve_call C_whole_four.ok (hr.mono (by decide)) (by rfl) C_whole_four.m C_whole_four.kp C_whole_four.b (va_cons (ve_var 2) va_nil))))
  (psst_cons (pst_of (vs_if (VW.vb (vw_or (vb_cmp (op_neD hr.units) ov_ne (nomark _) (VO.ve (vo_lc (own := [("number", 22)]) (by rfl) sc_law.nd (vw_tup (ve_var 18)) (blkOk_by (own := [("number", 22)]) (by first | decide +kernel | kernel_rfl | rfl)) (fun _ _ _ _ _ _ => (vg_name 22 sc_law.nd rfl (by first | exact Or.inl rfl | exact Or.inr rfl) (Or.inl rfl) (by decide))) (fun _ _ _ _ _ _ => (vbs_one (vb_cmp (op_eqD hr.units) ov_eq (nomark _) (ve_bin ov_I (fun h1 h2 => pe_op (op_modV) h1 h2) (ve_var 22) ve_int) ve_int))) (fun _ _ _ _ _ _ => (ve_var 22)))) (VO.ve (vo_lst va_nil))) (vw_or1 (vb_cmp (op_neD hr.units) ov_ne (nomark _) (ve_call C__law_norm_four.ok (hr.mono (by decide)) (by rfl) C__law_norm_four.m C__law_norm_four.kp C__law_norm_four.b (va_cons (ve_var 18) va_nil)) (ve_call C__law_norm_four.ok (hr.mono (by decide)) (by rfl) C__law_norm_four.m C__law_norm_four.kp C__law_norm_four.b (va_cons (ve_var 2) va_nil)))))) (vs_one (vs_ret ve_bl)) vs_nil))
  (psst_cons (pst_of (vs_set 19 sc_law.nd rfl (by first | exact Or.inl rfl | exact Or.inr rfl) (Or.inl rfl) (ve_callIO 1 C__law_pick.ok (hr.mono (by decide)) (by rfl) C__law_pick.m C__law_pick.kp C__law_pick.b (pv 1) (va_cons (VO.ve (vo_lst (va_cons ve_int (va_cons ve_int (va_cons ve_int (va_cons ve_int (va_cons ve_int (va_cons ve_int (va_cons ve_int va_nil))))))))) va_nil))))
  (psst_cons (pst_of (vs_if (VW.vb (vw_or (vb_cmp (op_neD hr.units) ov_ne (nomark _) (ve_call C__law_norm_four.ok (hr.mono (by decide)) (by rfl) C__law_norm_four.m C__law_norm_four.kp C__law_norm_four.b (va_cons (ve_call C_prime_four.ok (hr.mono (by decide)) (by rfl) C_prime_four.m C_prime_four.kp C_prime_four.b (va_cons (ve_var 19) va_nil)) va_nil)) (ve_var 19)) (vw_or1 (vb_cmp (op_notBl) ov_notB (nomark _) (ve_call C_is_whole_quaternion.ok (hr.mono (by decide)) (by rfl) C_is_whole_quaternion.m C_is_whole_quaternion.kp C_is_whole_quaternion.b (va_cons (ve_tup (va_cons ve_int (va_cons ve_int (va_cons ve_int (va_cons ve_int va_nil))))) va_nil)) ve_bl)))) (vs_one (vs_ret ve_bl)) vs_nil))
  (psst_cons (pst_if (ptt_not (ptt_eqS (pet_rsn (k := 5) Zr (by rfl) (fun _ h => h) (by rfl) (by rfl) (by rfl) (hr.mono (by decide)) (lamS_by (by first | decide +kernel | kernel_rfl | rfl)) (by rfl) (fun _ _ _ _ _ => by rfl) (fun A outer s H E f c' hr => (pex_call X_times_four.ok (takes_of rfl rfl rfl rfl) (hr.mono (by decide)) (by rfl) X_times_four.m X_times_four.kp X_times_four.b (va_cons (ve_tup (va_cons ve_int (va_cons ve_int (va_cons ve_int (va_cons ve_int va_nil))))) (va_cons (ve_var 2) va_nil))))) (op_eqD hr.units))) (psst_one (pst_of (vs_ret ve_bl))) psst_nil)
  (psst_one (pst_ret (pet_eqS (pet_rsn (k := 6) Zr (by rfl) (fun _ h => h) (by rfl) (by rfl) (by rfl) (hr.mono (by decide)) (lamS_by (by first | decide +kernel | kernel_rfl | rfl)) (by rfl) (fun _ _ _ _ _ => by rfl) (fun A outer s H E f c' hr => (pex_call X_divided_four.ok (takes_of rfl rfl rfl rfl) (hr.mono (by decide)) (by rfl) X_divided_four.m X_divided_four.kp X_divided_four.b (va_cons (ve_var 2) (va_cons (ve_tup (va_cons ve_int (va_cons ve_int (va_cons ve_int (va_cons ve_int va_nil))))) va_nil))))) (op_eqD hr.units)))))))))))))))))))))
theorem ok_law {d0 : VX.InitD} {f cA Pt : Addr} {fd : FuncData} (F : FnP K "law" s_law f fd) (hcA : ∀ oc od osl c, K.lookup f = some ⟨oc, od, .func fd, osl⟩ → fd.code = .ref c → c = cA) (Zm : ZZ K mg) (Zr : Rsn P K mg base d0 s__law_reason cA Pt) {f__law_digits : Addr} {d__law_digits : FuncData} (C__law_digits : Cal P w K mg base 2 "_law_digits" ["script", "first", "last"] (LFsc K sp__law_digits) f__law_digits d__law_digits) {f__law_four : Addr} {d__law_four : FuncData} (C__law_four : Cal P w K mg base 2 "_law_four" ["box", "most"] (LFio K sp__law_four) f__law_four d__law_four) {f_times_four : Addr} {d_times_four : FuncData} (C_times_four : Cal P w K mg base 5 "times_four" ["one", "other"] (LF K sp_times_four) f_times_four d_times_four) {f_is_whole_quaternion : Addr} {d_is_whole_quaternion : FuncData} (C_is_whole_quaternion : Cal P w K mg base 3 "is_whole_quaternion" ["shape"] (LF K sp_is_whole_quaternion) f_is_whole_quaternion d_is_whole_quaternion) {f_norm_four : Addr} {d_norm_four : FuncData} (C_norm_four : Cal P w K mg base 5 "norm_four" ["one"] (LF K sp_norm_four) f_norm_four d_norm_four) {f__law_norm_four : Addr} {d__law_norm_four : FuncData} (C__law_norm_four : Cal P w K mg base 1 "_law_norm_four" ["one"] (LF K sp__law_norm_four) f__law_norm_four d__law_norm_four) {f__law_times_four : Addr} {d__law_times_four : FuncData} (C__law_times_four : Cal P w K mg base 1 "_law_times_four" ["one", "other"] (LF K sp__law_times_four) f__law_times_four d__law_times_four) {f_turned_four : Addr} {d_turned_four : FuncData} (C_turned_four : Cal P w K mg base 1 "turned_four" ["one"] (LF K sp_turned_four) f_turned_four d_turned_four) {f_divided_four : Addr} {d_divided_four : FuncData} (C_divided_four : Cal P w K mg base 6 "divided_four" ["one", "other"] (LF K sp_divided_four) f_divided_four d_divided_four) {f_common_four : Addr} {d_common_four : FuncData} (C_common_four : Cal P w K mg base 7 "common_four" ["one", "other"] (LF K sp_common_four) f_common_four d_common_four) {f_units_four : Addr} {d_units_four : FuncData} (C_units_four : Cal P w K mg base 1 "units_four" [] (LF K sp_units_four) f_units_four d_units_four) {f_factored_four : Addr} {d_factored_four : FuncData} (C_factored_four : Cal P w K mg base 9 "factored_four" ["one"] (LF K sp_factored_four) f_factored_four d_factored_four) {f__law_primes : Addr} {d__law_primes : FuncData} (C__law_primes : Cal P w K mg base 1 "_law_primes" ["number"] (LF K sp__law_primes) f__law_primes d__law_primes) {f_whole_four : Addr} {d_whole_four : FuncData} (C_whole_four : Cal P w K mg base 6 "whole_four" ["one"] (LF K sp_whole_four) f_whole_four d_whole_four) {f__law_pick : Addr} {d__law_pick : FuncData} (C__law_pick : Cal P w K mg base 2 "_law_pick" ["box", "rows"] (LFio K sp__law_pick) f__law_pick d__law_pick) {f_prime_four : Addr} {d_prime_four : FuncData} (C_prime_four : Cal P w K mg base 6 "prime_four" ["prime"] (LF K sp_prime_four) f_prime_four d_prime_four) {fx_times_four : Addr} {dx_times_four : FuncData} (X_times_four : CalX P w K mg base 5 "times_four" ["one", "other"] (LFx K (VX.C_ K) spx_times_four) fx_times_four dx_times_four) {fx_divided_four : Addr} {dx_divided_four : FuncData} (X_divided_four : CalX P w K mg base 6 "divided_four" ["one", "other"] (LFx K (VX.C_ K) spx_divided_four) fx_divided_four dx_divided_four)
    (hq : ∀ ns, rd_law { nx := fun _ => False, rt := fun d _ => d = .bool true } (evS ["script", "box", "one", "other", "both", "quotient", "rest", "back", "third", "left", "right", "found", "some", "units", "unit", "row", "whole", "norms", "even", "p", "k", "n", "number"] ns [])) : FnOk P w K mg base CX0 10 f fd ["script"] (spLaw K Pt) :=
  fn_okLaw F sc_law (fun c A outer s H E hc hr => by
    obtain ⟨oc, od, osl, h1, h2⟩ := hc
    obtain rfl := hcA _ _ _ c h1 h2
    exact der_law Zm Zr C__law_digits C__law_four C_times_four C_is_whole_quaternion C_norm_four C__law_norm_four C__law_times_four C_turned_four C_divided_four C_common_four C_units_four C_factored_four C__law_primes C_whole_four C__law_pick C_prime_four X_times_four X_divided_four hr) hq

def rdx_check_quaternion : VSX := (vxIf (vNot (vTru (vCall sp_is_whole_quaternion (vCons (vVar 0) vNil)))) (vxRaise "quaternion") (fun _ => vNext))
theorem derx_check_quaternion {d0 : VX.InitD} (Zm : ZZ K mg) (Bd : Bad P K mg d0) {f_is_whole_quaternion : Addr} {d_is_whole_quaternion : FuncData} (C_is_whole_quaternion : Cal P w K mg base 3 "is_whole_quaternion" ["shape"] (LF K sp_is_whole_quaternion) f_is_whole_quaternion d_is_whole_quaternion) {f : Addr} {cdv : Value} {A : Around} {outer : List Env} {s : Shared} {H : Hp} {E : XK} {B : Addr → Prop} (hr : Room 3 (A.deeper (envOfC "check_quaternion" (defScope s_check_quaternion) s.heap.objs.size f cdv))) :
    PSs (cxOf (L2.CX P w) P w K mg base ["one"] "check_quaternion" (defScope s_check_quaternion) f cdv A outer s H E) (defBody s_check_quaternion) (LSx K ⟨B, none⟩ (VX.C_ K) E rdx_check_quaternion) :=
  (pssx_one (psx_if (vb_not (vb_tru (ve_call C_is_whole_quaternion.ok (hr.mono (by decide)) (by rfl) C_is_whole_quaternion.m C_is_whole_quaternion.kp C_is_whole_quaternion.b (va_cons (ve_var 0) va_nil)))) (pssx_one (psx_raise (k := 0) (by rfl) (takes_of rfl rfl rfl rfl) Bd.S Bd.D (hr.mono (by decide)) (by rfl) Bd.m)) (pssx_of vs_nil)))
theorem okx_check_quaternion {d0 : VX.InitD} {f : Addr} {fd : FuncData} (F : FnP K "check_quaternion" s_check_quaternion f fd) (m : mg "check_quaternion" = some (.ref f)) (Zm : ZZ K mg) (Bd : Bad P K mg d0) {f_is_whole_quaternion : Addr} {d_is_whole_quaternion : FuncData} (C_is_whole_quaternion : Cal P w K mg base 3 "is_whole_quaternion" ["shape"] (LF K sp_is_whole_quaternion) f_is_whole_quaternion d_is_whole_quaternion)
    (hl : ∀ ds Q Rv, spx_check_quaternion ds Q Rv → ds.length = 1) (hq : ∀ ds Q Rv, spx_check_quaternion ds Q Rv → rdx_check_quaternion Rv { nx := fun _ => Q .none, rt := fun d _ => Q d } (ev0 ["one"] ds)) :
    CalX P w K mg base 4 "check_quaternion" ["one"] (LFx K (VX.C_ K) spx_check_quaternion) f fd :=
  ⟨fn_okX F sc_check_quaternion hl (fun cdv A outer s H E B hr => derx_check_quaternion Zm Bd C_is_whole_quaternion hr) hq, F.bindsN fun _ _ _ _ _ _ us hl => match us, hl with | [_], _ => rfl, F.kp, m⟩

def rdx_times_four_c1_g : VG := (gN 11)
def rdx_times_four_c1_t : VTB := vYes
def rdx_times_four_c1_e : VT := (vBin (d2 (fun _ j => divOk j) fun i j => .int (i.fdiv j)) (vVar 11) (vC (.int 2)))

def rdx_times_four : VSX := (vxSeq (vxDrop (vxCall spx_check_quaternion (vCons (vVar 0) vNil)))
  (vxSeq (vxDrop (vxCall spx_check_quaternion (vCons (vVar 1) vNil)))
  (vxSeq (fun _ => (vAsg (vTup (vCons (vVar 0) (vCons (vVar 1) vNil))) (gT 2 (gsC (gT 4 (gsC (gN 2) (gsC (gN 3) (gsC (gN 4) (gsC (gN 5) gs0))))) (gsC (gT 4 (gsC (gN 6) (gsC (gN 7) (gsC (gN 8) (gsC (gN 9) gs0))))) gs0)))))
  (vxSeq (fun _ => (vSet 10 (vTup (vCons (vBin (d20 fun i j => .int (i - j)) (vBin (d20 fun i j => .int (i - j)) (vBin (d20 fun i j => .int (i - j)) (vBin dMul (vVar 2) (vVar 6)) (vBin dMul (vVar 3) (vVar 7))) (vBin dMul (vVar 4) (vVar 8))) (vBin dMul (vVar 5) (vVar 9))) (vCons (vBin (d20 fun i j => .int (i - j)) (vBin dAdd (vBin dAdd (vBin dMul (vVar 2) (vVar 7)) (vBin dMul (vVar 3) (vVar 6))) (vBin dMul (vVar 4) (vVar 9))) (vBin dMul (vVar 5) (vVar 8))) (vCons (vBin dAdd (vBin dAdd (vBin (d20 fun i j => .int (i - j)) (vBin dMul (vVar 2) (vVar 8)) (vBin dMul (vVar 3) (vVar 9))) (vBin dMul (vVar 4) (vVar 6))) (vBin dMul (vVar 5) (vVar 7))) (vCons (vBin dAdd (vBin (d20 fun i j => .int (i - j)) (vBin dAdd (vBin dMul (vVar 2) (vVar 9)) (vBin dMul (vVar 3) (vVar 8))) (vBin dMul (vVar 4) (vVar 7))) (vBin dMul (vVar 5) (vVar 6))) vNil)))))))
  (fun _ => (vRet (vCall cTup (vCons (vOf (vLc (wT (vVar 10)) rdx_times_four_c1_g rdx_times_four_c1_t rdx_times_four_c1_e [11])) vNil))))))))
theorem derx_times_four {d0 : VX.InitD} (Zm : ZZ K mg) (Bd : Bad P K mg d0) {fx_check_quaternion : Addr} {dx_check_quaternion : FuncData} (X_check_quaternion : CalX P w K mg base 4 "check_quaternion" ["one"] (LFx K (VX.C_ K) spx_check_quaternion) fx_check_quaternion dx_check_quaternion) {f : Addr} {cdv : Value} {A : Around} {outer : List Env} {s : Shared} {H : Hp} {E : XK} {B : Addr → Prop} (hr : Room 4 (A.deeper (envOfC "times_four" (defScope s_times_four) s.heap.objs.size f cdv))) :
    PSs (cxOf (L2.CX P w) P w K mg base ["one", "other", "a", "b", "c", "d", "e", "f", "g", "h", "found", "number"] "times_four" (defScope s_times_four) f cdv A outer s H E) (defBody s_times_four) (LSx K ⟨B, none⟩ (VX.C_ K) E rdx_times_four) :=
  (pssx_cons (psx_expr (pex_call X_check_quaternion.ok (takes_of rfl rfl rfl rfl) (hr.mono (by decide)) (by rfl) X_check_quaternion.m X_check_quaternion.kp X_check_quaternion.b (va_cons (ve_var 0) va_nil)))
  (pssx_cons (psx_expr (pex_call X_check_quaternion.ok (takes_of rfl rfl rfl rfl) (hr.mono (by decide)) (by rfl) X_check_quaternion.m X_check_quaternion.kp X_check_quaternion.b (va_cons (ve_var 1) va_nil)))
  (pssx_cons (psx_of (vs_asg (vs := [2, 3, 4, 5, 6, 7, 8, 9]) (ve_tup (va_cons (ve_var 0) (va_cons (ve_var 1) va_nil))) (vg_tup (by rfl) (vgs_cons (vg_tup (by rfl) (vgs_cons (vg_name 2 sc_times_four.nd rfl (by first | exact Or.inl rfl | exact Or.inr rfl) (Or.inl rfl) (by decide)) (vgs_cons (vg_name 3 sc_times_four.nd rfl (by first | exact Or.inl rfl | exact Or.inr rfl) (Or.inl rfl) (by decide)) (vgs_cons (vg_name 4 sc_times_four.nd rfl (by first | exact Or.inl rfl | exact Or.inr rfl) (Or.inl rfl) (by decide)) (vgs_cons (vg_name 5 sc_times_four.nd rfl (by first | exact Or.inl rfl | exact Or.inr rfl) (Or.inl rfl) (by decide)) vgs_nil))))) (vgs_cons (vg_tup (by rfl) (vgs_cons (vg_name 6 sc_times_four.nd rfl (by first | exact Or.inl rfl | exact Or.inr rfl) (Or.inl rfl) (by decide)) (vgs_cons (vg_name 7 sc_times_four.nd rfl (by first | exact Or.inl rfl | exact Or.inr rfl) (Or.inl rfl) (by decide)) (vgs_cons (vg_name 8 sc_times_four.nd rfl (by first | exact Or.inl rfl | exact Or.inr rfl) (Or.inl rfl) (by decide)) (vgs_cons (vg_name 9 sc_times_four.nd rfl (by first | exact Or.inl rfl | exact Or.inr rfl) (Or.inl rfl) (by decide)) vgs_nil))))) vgs_nil)))))
  (pssx_cons (psx_of (vs_set 10 sc_times_four.nd rfl (by first | exact Or.inl rfl | exact Or.inr rfl) (Or.inl rfl) (ve_tup (va_cons (ve_bin ov_I0 (fun h1 h2 => pe_op (op_sub) h1 h2) (ve_bin ov_I0 (fun h1 h2 => pe_op (op_sub) h1 h2) (ve_bin ov_I0 (fun h1 h2 => pe_op (op_sub) h1 h2) (ve_bin ov_mul (fun h1 h2 => pe_op (op_mulV.or op_repT) h1 h2) (ve_var 2) (ve_var 6)) (ve_bin ov_mul (fun h1 h2 => pe_op (op_mulV.or op_repT) h1 h2) (ve_var 3) (ve_var 7))) (ve_bin ov_mul (fun h1 h2 => pe_op (op_mulV.or op_repT) h1 h2) (ve_var 4) (ve_var 8))) (ve_bin ov_mul (fun h1 h2 => pe_op (op_mulV.or op_repT) h1 h2) (ve_var 5) (ve_var 9))) (va_cons (ve_bin ov_I0 (fun h1 h2 => pe_op (op_sub) h1 h2) (ve_bin ov_add (fun h1 h2 => pe_op (op_add.or (op_catA.or op_cat)) h1 h2) (ve_bin ov_add (fun h1 h2 => pe_op (op_add.or (op_catA.or op_cat)) h1 h2) (ve_bin ov_mul (fun h1 h2 => pe_op (op_mulV.or op_repT) h1 h2) (ve_var 2) (ve_var 7)) (ve_bin ov_mul (fun h1 h2 => pe_op (op_mulV.or op_repT) h1 h2) (ve_var 3) (ve_var 6))) (ve_bin ov_mul (fun h1 h2 => pe_op (op_mulV.or op_repT) h1 h2) (ve_var 4) (ve_var 9))) (ve_bin ov_mul (fun h1 h2 => pe_op (op_mulV.or op_repT) h1 h2) (ve_var 5) (ve_var 8))) (va_cons (ve_bin ov_add (fun h1 h2 => pe_op (op_add.or (op_catA.or op_cat)) h1 h2) (ve_bin ov_add (fun h1 h2 => pe_op (op_add.or (op_catA.or op_cat)) h1 h2) (ve_bin ov_I0 (fun h1 h2 => pe_op (op_sub) h1 h2) (ve_bin ov_mul (fun h1 h2 => pe_op (op_mulV.or op_repT) h1 h2) (ve_var 2) (ve_var 8)) (ve_bin ov_mul (fun h1 h2 => pe_op (op_mulV.or op_repT) h1 h2) (ve_var 3) (ve_var 9))) (ve_bin ov_mul (fun h1 h2 => pe_op (op_mulV.or op_repT) h1 h2) (ve_var 4) (ve_var 6))) (ve_bin ov_mul (fun h1 h2 => pe_op (op_mulV.or op_repT) h1 h2) (ve_var 5) (ve_var 7))) (va_cons (ve_bin ov_add (fun h1 h2 => pe_op (op_add.or (op_catA.or op_cat)) h1 h2) (ve_bin ov_I0 (fun h1 h2 => pe_op (op_sub) h1 h2) (ve_bin ov_add (fun h1 h2 => pe_op (op_add.or (op_catA.or op_cat)) h1 h2) (ve_bin ov_mul (fun h1 h2 => pe_op (op_mulV.or op_repT) h1 h2) (ve_var 2) (ve_var 9)) (ve_bin ov_mul (fun h1 h2 => pe_op (op_mulV.or op_repT) h1 h2) (ve_var 3) (ve_var 8))) (ve_bin ov_mul (fun h1 h2 => pe_op (op_mulV.or op_repT) h1 h2) (ve_var 4) (ve_var 7))) (ve_bin ov_mul (fun h1 h2 => pe_op (op_mulV.or op_repT) h1 h2) (ve_var 5) (ve_var 6))) va_nil)))))))
  (pssx_one (psx_of (vs_ret (ve_callC cv_tup (fun h => pe_callTy call_tuple_of (by rfl) Zm.z_tuple (by decide +kernel) h) (VA.vt (va_cons (VO.ve (vo_lc (own := [("number", 11)]) (by rfl) sc_times_four.nd (vw_tup (ve_var 10)) (blkOk_by (own := [("number", 11)]) (by first | decide +kernel | kernel_rfl | rfl)) (fun _ _ _ _ _ _ => (vg_name 11 sc_times_four.nd rfl (by first | exact Or.inl rfl | exact Or.inr rfl) (Or.inl rfl) (by decide))) (fun _ _ _ _ _ _ => vbs_nil) (fun _ _ _ _ _ _ => (ve_bin ov_I (fun h1 h2 => pe_op (op_fdivV) h1 h2) (ve_var 11) ve_int)))) va_nil))))))))))
theorem okx_times_four {d0 : VX.InitD} {f : Addr} {fd : FuncData} (F : FnP K "times_four" s_times_four f fd) (m : mg "times_four" = some (.ref f)) (Zm : ZZ K mg) (Bd : Bad P K mg d0) {fx_check_quaternion : Addr} {dx_check_quaternion : FuncData} (X_check_quaternion : CalX P w K mg base 4 "check_quaternion" ["one"] (LFx K (VX.C_ K) spx_check_quaternion) fx_check_quaternion dx_check_quaternion)
    (hl : ∀ ds Q Rv, spx_times_four ds Q Rv → ds.length = 2) (hq : ∀ ds Q Rv, spx_times_four ds Q Rv → rdx_times_four Rv { nx := fun _ => Q .none, rt := fun d _ => Q d } (ev0 ["one", "other", "a", "b", "c", "d", "e", "f", "g", "h", "found", "number"] ds)) :
    CalX P w K mg base 5 "times_four" ["one", "other"] (LFx K (VX.C_ K) spx_times_four) f fd :=
  ⟨fn_okX F sc_times_four hl (fun cdv A outer s H E B hr => derx_times_four Zm Bd X_check_quaternion hr) hq, F.bindsN fun _ _ _ _ _ _ us hl => match us, hl with | [_, _], _ => rfl, F.kp, m⟩

def rdx_divided_four : VSX := (vxSeq (fun _ => (vDrop (vCall sp_check_quaternion (vCons (vVar 0) vNil))))
  (vxSeq (fun _ => (vSet 2 (vCall sp_norm_four (vCons (vVar 1) vNil))))
  (vxSeq (vxIf (vB (vBin dEq (vVar 2) (vC (.int 0)))) (vxRaise "zero") (fun _ => vNext))
  (vxSeq (fun _ => (vSet 3 (vCall sp_nearest_four (vCons (vCall sp_times_four (vCons (vVar 0) (vCons (vCall sp_turned_four (vCons (vVar 1) vNil)) vNil))) (vCons (vVar 2) vNil)))))
  (fun _ => (vRet (vTup (vCons (vVar 3) (vCons (vCall sp_less_four (vCons (vVar 0) (vCons (vCall sp_times_four (vCons (vVar 3) (vCons (vVar 1) vNil))) vNil))) vNil)))))))))
theorem derx_divided_four {d0 : VX.InitD} (Zm : ZZ K mg) (Bd : Bad P K mg d0) {f_check_quaternion : Addr} {d_check_quaternion : FuncData} (C_check_quaternion : Cal P w K mg base 4 "check_quaternion" ["one"] (LF K sp_check_quaternion) f_check_quaternion d_check_quaternion) {f_norm_four : Addr} {d_norm_four : FuncData} (C_norm_four : Cal P w K mg base 5 "norm_four" ["one"] (LF K sp_norm_four) f_norm_four d_norm_four) {f_nearest_four : Addr} {d_nearest_four : FuncData} (C_nearest_four : Cal P w K mg base 1 "nearest_four" ["numbers", "below"] (LF K sp_nearest_four) f_nearest_four d_nearest_four) {f_times_four : Addr} {d_times_four : FuncData} (C_times_four : Cal P w K mg base 5 "times_four" ["one", "other"] (LF K sp_times_four) f_times_four d_times_four) {f_turned_four : Addr} {d_turned_four : FuncData} (C_turned_four : Cal P w K mg base 1 "turned_four" ["one"] (LF K sp_turned_four) f_turned_four d_turned_four) {f_less_four : Addr} {d_less_four : FuncData} (C_less_four : Cal P w K mg base 1 "less_four" ["one", "other"] (LF K sp_less_four) f_less_four d_less_four) {f : Addr} {cdv : Value} {A : Around} {outer : List Env} {s : Shared} {H : Hp} {E : XK} {B : Addr → Prop} (hr : Room 5 (A.deeper (envOfC "divided_four" (defScope s_divided_four) s.heap.objs.size f cdv))) :
    PSs (cxOf (L2.CX P w) P w K mg base ["one", "other", "whole", "quotient"] "divided_four" (defScope s_divided_four) f cdv A outer s H E) (defBody s_divided_four) (LSx K ⟨B, none⟩ (VX.C_ K) E rdx_divided_four) :=
  (pssx_cons (psx_of (vs_expr (ve_call C_check_quaternion.ok (hr.mono (by decide)) (by rfl) C_check_quaternion.m C_check_quaternion.kp C_check_quaternion.b (va_cons (ve_var 0) va_nil))))
  (pssx_cons (psx_of (vs_set 2 sc_divided_four.nd rfl (by first | exact Or.inl rfl | exact Or.inr rfl) (Or.inl rfl) (ve_call C_norm_four.ok (hr.mono (by decide)) (by rfl) C_norm_four.m C_norm_four.kp C_norm_four.b (va_cons (ve_var 1) va_nil))))
  (pssx_cons (psx_if (vb_cmp (op_eqD hr.units) ov_eq (nomark _) (ve_var 2) ve_int) (pssx_one (psx_raise (k := 0) (by rfl) (takes_of rfl rfl rfl rfl) Bd.S Bd.D (hr.mono (by decide)) (by rfl) Bd.m)) (pssx_of vs_nil))
  (pssx_cons (psx_of (vs_set 3 sc_divided_four.nd rfl (by first | exact Or.inl rfl | exact Or.inr rfl) (Or.inl rfl) (ve_call C_nearest_four.ok (hr.mono (by decide)) (by rfl) C_nearest_four.m C_nearest_four.kp C_nearest_four.b (va_cons (ve_call C_times_four.ok (hr.mono (by decide)) (by rfl) C_times_four.m C_times_four.kp C_times_four.b (va_cons (ve_var 0) (va_cons (ve_call C_turned_four.ok (hr.mono (by decide)) (by rfl) C_turned_four.m C_turned_four.kp C_turned_four.b (va_cons (ve_var 1) va_nil)) va_nil))) (va_cons (ve_var 2) va_nil)))))
  (pssx_one (psx_of (vs_ret (ve_tup (va_cons (ve_var 3) (va_cons (ve_call C_less_four.ok (hr.mono (by decide)) (by rfl) C_less_four.m C_less_four.kp C_less_four.b (va_cons (ve_var 0) (va_cons (ve_call C_times_four.ok (hr.mono (by decide)) (by rfl) C_times_four.m C_times_four.kp C_times_four.b (va_cons (ve_var 3) (va_cons (ve_var 1) va_nil))) va_nil))) va_nil))))))))))
theorem okx_divided_four {d0 : VX.InitD} {f : Addr} {fd : FuncData} (F : FnP K "divided_four" s_divided_four f fd) (m : mg "divided_four" = some (.ref f)) (Zm : ZZ K mg) (Bd : Bad P K mg d0) {f_check_quaternion : Addr} {d_check_quaternion : FuncData} (C_check_quaternion : Cal P w K mg base 4 "check_quaternion" ["one"] (LF K sp_check_quaternion) f_check_quaternion d_check_quaternion) {f_norm_four : Addr} {d_norm_four : FuncData} (C_norm_four : Cal P w K mg base 5 "norm_four" ["one"] (LF K sp_norm_four) f_norm_four d_norm_four) {f_nearest_four : Addr} {d_nearest_four : FuncData} (C_nearest_four : Cal P w K mg base 1 "nearest_four" ["numbers", "below"] (LF K sp_nearest_four) f_nearest_four d_nearest_four) {f_times_four : Addr} {d_times_four : FuncData} (C_times_four : Cal P w K mg base 5 "times_four" ["one", "other"] (LF K sp_times_four) f_times_four d_times_four) {f_turned_four : Addr} {d_turned_four : FuncData} (C_turned_four : Cal P w K mg base 1 "turned_four" ["one"] (LF K sp_turned_four) f_turned_four d_turned_four) {f_less_four : Addr} {d_less_four : FuncData} (C_less_four : Cal P w K mg base 1 "less_four" ["one", "other"] (LF K sp_less_four) f_less_four d_less_four)
    (hl : ∀ ds Q Rv, spx_divided_four ds Q Rv → ds.length = 2) (hq : ∀ ds Q Rv, spx_divided_four ds Q Rv → rdx_divided_four Rv { nx := fun _ => Q .none, rt := fun d _ => Q d } (ev0 ["one", "other", "whole", "quotient"] ds)) :
    CalX P w K mg base 6 "divided_four" ["one", "other"] (LFx K (VX.C_ K) spx_divided_four) f fd :=
  ⟨fn_okX F sc_divided_four hl (fun cdv A outer s H E B hr => derx_divided_four Zm Bd C_check_quaternion C_norm_four C_nearest_four C_times_four C_turned_four C_less_four hr) hq, F.bindsN fun _ _ _ _ _ _ us hl => match us, hl with | [_, _], _ => rfl, F.kp, m⟩

end
end VL

set_option Elab.async false
set_option linter.all false
set_option maxRecDepth 100000
set_option maxHeartbeats 4000000
namespace VL
open PySem PySem.Spec PyProof.Rows L2 HD
/-! ### loops -/
theorem vFor_nil {g : VG} {b : VS} {Z : VEnds} {ev : Ev} : vFor g b Z [] ev = Z.nx ev := rfl
theorem vFor_cons {g : VG} {b : VS} {Z : VEnds} {x : D} {xs : List D} {ev : Ev} : vFor g b Z (x :: xs) ev = g x ev fun e1 => b { nx := vFor g b Z xs, rt := Z.rt, bk := Z.nx, ct := vFor g b Z xs } e1 := rfl
theorem wit_succ {c : VTB} {b : VS} {D : VEnds} {n : Nat} {ev : Ev} : wit c b D (n + 1) ev = c ev fun t e1 => match t with
    | true => b { nx := wit c b D n, rt := D.rt, bk := D.nx, ct := wit c b D n } e1
    | false => D.nx e1 := rfl
theorem mul_small {i j : Int} (h : -18446744073709551616 < j ∧ j < 18446744073709551616) : mulOk i j := .inr (.inl h)
theorem mul_smallL {i j : Int} (h : -18446744073709551616 < i ∧ i < 18446744073709551616) : mulOk i j := .inl h
theorem div_small {j : Int} (h0 : j ≠ 0) (h : -18446744073709551616 < j ∧ j < 18446744073709551616) : divOk j := ⟨h0, .inl h⟩
theorem fdiv_pos {a b : Int} (h : 0 ≤ b) : a.fdiv b = a / b := Int.fdiv_eq_ediv_of_nonneg a h
theorem fmod_pos {a b : Int} (h : 0 ≤ b) : a.fmod b = a % b := Int.fmod_eq_emod_of_nonneg a h
/-! ### divisor, _law_gcd -/
theorem gcd_step (x y : Nat) (h : 0 < y) : Nat.gcd x y = Nat.gcd y (x % y) := by
  rw [Nat.gcd_comm, Nat.gcd_rec, Nat.gcd_comm]
theorem abs_if (a : Int) : (if a < 0 then -a else a) = (a.natAbs : Int) := by split <;> omega
/-! ### fractions -/
theorem gcd_pos {a b : Int} (h : 0 < b) : 0 < Int.gcd a b ∧ (Int.gcd a b : Int) ≤ b := by
  refine ⟨Int.gcd_pos_of_ne_zero_right a (by omega), ?_⟩
  have h1 : (Int.gcd a b : Int) ∣ b := Int.gcd_dvd_right a b
  exact Int.le_of_dvd h h1
/-! ### roots -/
theorem sq_lt {x y : Int} (hx : 0 ≤ x) (hy : 0 ≤ y) : x * x < y * y ↔ x < y := by
  constructor
  · intro h
    refine Int.not_le.mp fun z => ?_
    have := Int.mul_le_mul z z hy hx
    omega
  · intro h
    have h1 : x * x ≤ x * y := Int.mul_le_mul_of_nonneg_left (by omega) hx
    have h2 : x * y < y * y := Int.mul_lt_mul_of_pos_right h (by omega)
    omega
theorem sq_nonneg (x : Int) : 0 ≤ x * x := by
  rcases Int.le_total 0 x with h | h
  · exact Int.mul_nonneg h h
  · exact Int.mul_nonneg_of_nonpos_of_nonpos h h
theorem newton {n f r : Int} (hr : isRoot n r) (hf : 0 < f) (hfr : r ≤ f) (hn : n < f * f) : r ≤ (f + n / f) / 2 ∧ (f + n / f) / 2 < f ∧ 0 ≤ n / f := by
  obtain ⟨h0, h1, h2⟩ := hr
  have hn0 : 0 ≤ n := by have := Int.mul_nonneg h0 h0; omega
  have e1 : n / f < f := Int.ediv_lt_of_lt_mul hf hn
  have e2 : 2 * r - f ≤ n / f := by
    rw [Int.le_ediv_iff_mul_le hf]
    have h3 : 0 ≤ (r - f) * (r - f) := sq_nonneg _
    grind
  have e3 : 0 ≤ n / f := Int.ediv_nonneg hn0 (by omega)
  omega
theorem root_uniq {n r s : Int} (h : isRoot n r) (k : isRoot n s) : r = s := by
  obtain ⟨a1, a2, a3⟩ := h
  obtain ⟨b1, b2, b3⟩ := k
  have h1 : r * r < (s + 1) * (s + 1) := by omega
  have h2 : s * s < (r + 1) * (r + 1) := by omega
  rw [sq_lt a1 (by omega)] at h1
  rw [sq_lt b1 (by omega)] at h2
  omega
theorem root_ex (n : Nat) : ∃ r : Int, isRoot n r := by
  induction n with
  | zero => exact ⟨0, by unfold isRoot; omega⟩
  | succ n ih =>
    obtain ⟨r, h0, h1, h2⟩ := ih
    by_cases h : ((n + 1 : Nat) : Int) < (r + 1) * (r + 1)
    · exact ⟨r, h0, by omega, h⟩
    · refine ⟨r + 1, by omega, by omega, ?_⟩
      have : (r + 1 + 1) * (r + 1 + 1) = (r + 1) * (r + 1) + 2 * (r + 1) + 1 := by grind
      omega
theorem root_at (n : Int) (h : 0 ≤ n) : ∃ r : Int, isRoot n r := by
  obtain ⟨m, rfl⟩ := Int.eq_ofNat_of_zero_le h
  exact root_ex m
theorem wit_root (D : VEnds) (n r : Int) (hr : isRoot n r) (hn : 0 < n) : ∀ (k : Nat) (f : Int), f < k → 0 < f → r ≤ f → f < 18446744073709551616 → D.nx [.fr (.int n), .fr (.int r)] → wit rd_root_w1c rd_root_w1b D k [.fr (.int n), .fr (.int f)] := by
  intro k
  induction k with
  | zero => intro f h; omega
  | succ k ih =>
    intro f h hf hfr hs hD
    rw [wit_succ]
    simp only [↓rd_root_w1c, ↓rd_root_w1b, ↓vSeq, ↓vPar, ↓vPar3, ↓vSet, ↓vSetO, ↓vAsg, ↓vAug, ↓vAppend, ↓vExt, ↓vUnp, ↓vFz, ↓vRet, ↓vRetN, ↓vDrop, ↓vIfS, ↓vNext, ↓vBrk, ↓vCnt, ↓vNever, ↓vForS, ↓vC, ↓vVar, ↓vTup, ↓vOf, ↓vBin, ↓vBinL, ↓vBinR, ↓vUn, ↓vCall, ↓vCallO, ↓vCallIO, ↓vCallSC, ↓vLookA, ↓vB, ↓vTru, ↓vTruO, ↓vAnd, ↓vOr, ↓vNot, ↓vAndV, ↓vOrV, ↓vNotV, ↓vIf, ↓vChain, ↓vNil, ↓vCons, ↓vSl, ↓vSlL, ↓vP0, ↓vP1, ↓vRevT, ↓vRevL, ↓vRevLL, ↓vBits, ↓vPop, ↓vLc, ↓vTurn, ↓vYes, ↓gN, ↓gT, ↓gsC, ↓gs0, ↓gSet, ↓wL, ↓wT, ↓wR1, ↓wR2, ↓d2, ↓d20, ↓dAdd, ↓dMul, ↓dEq, ↓dNe, ↓dIsN, ↓dNotN, ↓isN, ↓dNeg, ↓dIx, ↓dInI, ↓dSl, ↓truD, ↓cLen, ↓cAbs, ↓cMax2, ↓cMin2, ↓cInt, ↓cTup, ↓cLst, ↓sv, ↓List.getD_cons_zero, ↓List.getD_cons_succ, ↓List.set_cons_zero, ↓List.set_cons_succ, ↓vxSeq, ↓vxIf, ↓vxRaise, ↓vxRet, ↓vxAsg, ↓vxCall, ↓vReason, ↓vEqS, ↓vIsi, ↓wR3, ↓wZip, ↓vSetDk, ↓vDkIn, ↓vDkPut, ↓vParE, ↓gL, ↓vxDrop, ↓cSrt, ↓cSum, ↓cMinD, ↓cAnyI, ↓vLenSet, ↓vLc2]
    refine ⟨mul_small ⟨by omega, hs⟩, ?_⟩
    by_cases hy : n < f * f
    · obtain ⟨e1, e2, e3⟩ := newton hr hf hfr hy
      simp only [hy, decide_true]
      rw [fdiv_pos (by omega), fdiv_pos (by omega)]
      have hr0 : 0 < r := by
        obtain ⟨a1, a2, a3⟩ := hr
        refine Int.not_le.mp fun z => ?_
        have : r = 0 := by omega
        subst this
        omega
      exact ⟨div_small (by omega) ⟨by omega, hs⟩, div_small (by omega) ⟨by omega, by omega⟩, ih _ (by omega) (by omega) e1 (by omega) hD⟩
    · simp only [hy, decide_false]
      have : f = r := by
        obtain ⟨a1, a2, a3⟩ := hr
        have h1 : f * f < (r + 1) * (r + 1) := by omega
        rw [sq_lt (by omega) (by omega)] at h1
        omega
      rw [this]
      exact hD
theorem bits_lt {n : Int} (h : 0 < n) : n < 2 ^ (Builtin.Int.intBits n) ∧ 0 < Builtin.Int.intBits n := by
  have h0 : (n == 0) = false := by simp; omega
  unfold Builtin.Int.intBits
  rw [h0]
  simp only [Bool.false_eq_true, if_false]
  refine ⟨?_, by omega⟩
  have h1 := Nat.lt_log2_self (n := n.natAbs)
  have h2 : n = (n.natAbs : Int) := by omega
  rw [h2]
  exact_mod_cast h1
theorem bits_le {n : Int} {k : Nat} (h : 0 < n) (hk : n < 2 ^ k) : Builtin.Int.intBits n ≤ k := by
  have h0 : (n == 0) = false := by simp; omega
  unfold Builtin.Int.intBits
  rw [h0]
  simp only [Bool.false_eq_true, if_false]
  have h2 : n.natAbs < 2 ^ k := by
    have h2 : n = (n.natAbs : Int) := by omega
    rw [h2] at hk
    exact_mod_cast hk
  have := (Nat.log2_lt (by omega)).mpr h2
  omega
theorem hq_root (ds : List D) (Q : D → Prop) (h : sp_root ds Q) : rd_root { nx := fun _ => Q .none, rt := fun d _ => Q d } (ev0 ["number", "found"] ds) := by
  obtain ⟨n, rfl, hn0, hs, h⟩ := h
  show rd_root _ [.fr (.int n), .un]
  by_cases z0 : n = 0
  · subst z0
    have hb0 : Builtin.Int.intBits 0 = 0 := by decide +kernel
    simp only [↓rd_root, ↓vSeq, ↓vPar, ↓vPar3, ↓vSet, ↓vSetO, ↓vAsg, ↓vAug, ↓vAppend, ↓vExt, ↓vUnp, ↓vFz, ↓vRet, ↓vRetN, ↓vDrop, ↓vIfS, ↓vNext, ↓vBrk, ↓vCnt, ↓vNever, ↓vForS, ↓vC, ↓vVar, ↓vTup, ↓vOf, ↓vBin, ↓vBinL, ↓vBinR, ↓vUn, ↓vCall, ↓vCallO, ↓vCallIO, ↓vCallSC, ↓vLookA, ↓vB, ↓vTru, ↓vTruO, ↓vAnd, ↓vOr, ↓vNot, ↓vAndV, ↓vOrV, ↓vNotV, ↓vIf, ↓vChain, ↓vNil, ↓vCons, ↓vSl, ↓vSlL, ↓vP0, ↓vP1, ↓vRevT, ↓vRevL, ↓vRevLL, ↓vBits, ↓vPop, ↓vLc, ↓vTurn, ↓vYes, ↓gN, ↓gT, ↓gsC, ↓gs0, ↓gSet, ↓wL, ↓wT, ↓wR1, ↓wR2, ↓d2, ↓d20, ↓dAdd, ↓dMul, ↓dEq, ↓dNe, ↓dIsN, ↓dNotN, ↓isN, ↓dNeg, ↓dIx, ↓dInI, ↓dSl, ↓truD, ↓cLen, ↓cAbs, ↓cMax2, ↓cMin2, ↓cInt, ↓cTup, ↓cLst, ↓sv, ↓List.getD_cons_zero, ↓List.getD_cons_succ, ↓List.set_cons_zero, ↓List.set_cons_succ, ↓vxSeq, ↓vxIf, ↓vxRaise, ↓vxRet, ↓vxAsg, ↓vxCall, ↓vReason, ↓vEqS, ↓vIsi, ↓wR3, ↓wZip, ↓vSetDk, ↓vDkIn, ↓vDkPut, ↓vParE, ↓gL, ↓vxDrop, ↓cSrt, ↓cSum, ↓cMinD, ↓cAnyI, ↓vLenSet, ↓vLc2, hb0, vWhile]
    refine ⟨div_small (by omega) ⟨by omega, by omega⟩, ⟨by decide, by decide, by decide, by decide⟩, 2, ?_⟩
    have e0 : (1 : Int) * 2 ^ ((((0 : Nat) : Int) + 1).fdiv 2).toNat = 1 := by decide +kernel
    rw [e0]
    simp only [wit_succ, ↓rd_root_w1c, ↓rd_root_w1b, ↓vSeq, ↓vPar, ↓vPar3, ↓vSet, ↓vSetO, ↓vAsg, ↓vAug, ↓vAppend, ↓vExt, ↓vUnp, ↓vFz, ↓vRet, ↓vRetN, ↓vDrop, ↓vIfS, ↓vNext, ↓vBrk, ↓vCnt, ↓vNever, ↓vForS, ↓vC, ↓vVar, ↓vTup, ↓vOf, ↓vBin, ↓vBinL, ↓vBinR, ↓vUn, ↓vCall, ↓vCallO, ↓vCallIO, ↓vCallSC, ↓vLookA, ↓vB, ↓vTru, ↓vTruO, ↓vAnd, ↓vOr, ↓vNot, ↓vAndV, ↓vOrV, ↓vNotV, ↓vIf, ↓vChain, ↓vNil, ↓vCons, ↓vSl, ↓vSlL, ↓vP0, ↓vP1, ↓vRevT, ↓vRevL, ↓vRevLL, ↓vBits, ↓vPop, ↓vLc, ↓vTurn, ↓vYes, ↓gN, ↓gT, ↓gsC, ↓gs0, ↓gSet, ↓wL, ↓wT, ↓wR1, ↓wR2, ↓d2, ↓d20, ↓dAdd, ↓dMul, ↓dEq, ↓dNe, ↓dIsN, ↓dNotN, ↓isN, ↓dNeg, ↓dIx, ↓dInI, ↓dSl, ↓truD, ↓cLen, ↓cAbs, ↓cMax2, ↓cMin2, ↓cInt, ↓cTup, ↓cLst, ↓sv, ↓List.getD_cons_zero, ↓List.getD_cons_succ, ↓List.set_cons_zero, ↓List.set_cons_succ, ↓vxSeq, ↓vxIf, ↓vxRaise, ↓vxRet, ↓vxAsg, ↓vxCall, ↓vReason, ↓vEqS, ↓vIsi, ↓wR3, ↓wZip, ↓vSetDk, ↓vDkIn, ↓vDkPut, ↓vParE, ↓gL, ↓vxDrop, ↓cSrt, ↓cSum, ↓cMinD, ↓cAnyI, ↓vLenSet, ↓vLc2]
    refine ⟨mul_small ⟨by omega, by omega⟩, div_small (by omega) ⟨by omega, by omega⟩, div_small (by omega) ⟨by omega, by omega⟩, ?_⟩
    have e1 : (1 + Int.fdiv 0 1).fdiv 2 = 0 := by decide
    rw [e1]
    exact ⟨mul_small ⟨by omega, by omega⟩, h 0 ⟨by omega, by omega, by omega⟩⟩
  have hn : 0 < n := by omega
  obtain ⟨r, hr⟩ := root_at n (by omega)
  obtain ⟨b1, b2⟩ := bits_lt hn
  have b3 : Builtin.Int.intBits n ≤ 64 := bits_le hn hs
  generalize hb : Builtin.Int.intBits n = b at b1 b2 b3
  simp only [↓rd_root, ↓vSeq, ↓vPar, ↓vPar3, ↓vSet, ↓vSetO, ↓vAsg, ↓vAug, ↓vAppend, ↓vExt, ↓vUnp, ↓vFz, ↓vRet, ↓vRetN, ↓vDrop, ↓vIfS, ↓vNext, ↓vBrk, ↓vCnt, ↓vNever, ↓vForS, ↓vC, ↓vVar, ↓vTup, ↓vOf, ↓vBin, ↓vBinL, ↓vBinR, ↓vUn, ↓vCall, ↓vCallO, ↓vCallIO, ↓vCallSC, ↓vLookA, ↓vB, ↓vTru, ↓vTruO, ↓vAnd, ↓vOr, ↓vNot, ↓vAndV, ↓vOrV, ↓vNotV, ↓vIf, ↓vChain, ↓vNil, ↓vCons, ↓vSl, ↓vSlL, ↓vP0, ↓vP1, ↓vRevT, ↓vRevL, ↓vRevLL, ↓vBits, ↓vPop, ↓vLc, ↓vTurn, ↓vYes, ↓gN, ↓gT, ↓gsC, ↓gs0, ↓gSet, ↓wL, ↓wT, ↓wR1, ↓wR2, ↓d2, ↓d20, ↓dAdd, ↓dMul, ↓dEq, ↓dNe, ↓dIsN, ↓dNotN, ↓isN, ↓dNeg, ↓dIx, ↓dInI, ↓dSl, ↓truD, ↓cLen, ↓cAbs, ↓cMax2, ↓cMin2, ↓cInt, ↓cTup, ↓cLst, ↓sv, ↓List.getD_cons_zero, ↓List.getD_cons_succ, ↓List.set_cons_zero, ↓List.set_cons_succ, ↓vxSeq, ↓vxIf, ↓vxRaise, ↓vxRet, ↓vxAsg, ↓vxCall, ↓vReason, ↓vEqS, ↓vIsi, ↓wR3, ↓wZip, ↓vSetDk, ↓vDkIn, ↓vDkPut, ↓vParE, ↓gL, ↓vxDrop, ↓cSrt, ↓cSum, ↓cMinD, ↓cAnyI, ↓vLenSet, ↓vLc2, hb, vWhile]
  have hd : ((b : Int) + 1).fdiv 2 = (((b + 1) / 2 : Nat) : Int) := by rw [fdiv_pos (by omega)]; omega
  rw [hd]
  refine ⟨div_small (by omega) ⟨by omega, by omega⟩, ⟨by omega, by omega, by omega, by omega⟩, ?_⟩
  have e1 : (1 : Int) * 2 ^ (((b + 1) / 2 : Nat) : Int).toNat = ((2 ^ ((b + 1) / 2) : Nat) : Int) := by
    rw [Int.one_mul, Int.toNat_natCast]; exact_mod_cast rfl
  rw [e1]
  generalize hc : (b + 1) / 2 = c
  have hc2 : b ≤ c + c := by omega
  have hc3 : c ≤ 32 := by omega
  have p1 : 2 ^ b ≤ 2 ^ c * 2 ^ c := by rw [← Nat.pow_add]; exact Nat.pow_le_pow_right (by omega) hc2
  have p2 : 2 ^ c ≤ 2 ^ 32 := Nat.pow_le_pow_right (by omega) hc3
  have p3 : 0 < 2 ^ c := Nat.pow_pos (by omega)
  generalize hF : (2 : Nat) ^ c = F at p1 p2 p3
  have b4 : n < ((F * F : Nat) : Int) := by
    have : ((2 ^ b : Nat) : Int) ≤ ((F * F : Nat) : Int) := by exact_mod_cast p1
    have e2 : (((2 : Nat) ^ b : Nat) : Int) = 2 ^ b := by exact_mod_cast rfl
    omega
  have hrF : r ≤ F := by
    obtain ⟨a1, a2, a3⟩ := hr
    have h1 : r * r < (F : Int) * F := by
      have : ((F * F : Nat) : Int) = (F : Int) * F := by push_cast; rfl
      omega
    rw [sq_lt a1 (by omega)] at h1
    omega
  exact ⟨F + 1, wit_root _ n r hr hn (F + 1) F (by omega) (by omega) hrF (by omega) (by simpa only [↓vSeq, ↓vPar, ↓vPar3, ↓vSet, ↓vSetO, ↓vAsg, ↓vAug, ↓vAppend, ↓vExt, ↓vUnp, ↓vFz, ↓vRet, ↓vRetN, ↓vDrop, ↓vIfS, ↓vNext, ↓vBrk, ↓vCnt, ↓vNever, ↓vForS, ↓vC, ↓vVar, ↓vTup, ↓vOf, ↓vBin, ↓vBinL, ↓vBinR, ↓vUn, ↓vCall, ↓vCallO, ↓vCallIO, ↓vCallSC, ↓vLookA, ↓vB, ↓vTru, ↓vTruO, ↓vAnd, ↓vOr, ↓vNot, ↓vAndV, ↓vOrV, ↓vNotV, ↓vIf, ↓vChain, ↓vNil, ↓vCons, ↓vSl, ↓vSlL, ↓vP0, ↓vP1, ↓vRevT, ↓vRevL, ↓vRevLL, ↓vBits, ↓vPop, ↓vLc, ↓vTurn, ↓vYes, ↓gN, ↓gT, ↓gsC, ↓gs0, ↓gSet, ↓wL, ↓wT, ↓wR1, ↓wR2, ↓d2, ↓d20, ↓dAdd, ↓dMul, ↓dEq, ↓dNe, ↓dIsN, ↓dNotN, ↓isN, ↓dNeg, ↓dIx, ↓dInI, ↓dSl, ↓truD, ↓cLen, ↓cAbs, ↓cMax2, ↓cMin2, ↓cInt, ↓cTup, ↓cLst, ↓sv, ↓List.getD_cons_zero, ↓List.getD_cons_succ, ↓List.set_cons_zero, ↓List.set_cons_succ, ↓vxSeq, ↓vxIf, ↓vxRaise, ↓vxRet, ↓vxAsg, ↓vxCall, ↓vReason, ↓vEqS, ↓vIsi, ↓wR3, ↓wZip, ↓vSetDk, ↓vDkIn, ↓vDkPut, ↓vParE, ↓gL, ↓vxDrop, ↓cSrt, ↓cSum, ↓cMinD, ↓cAnyI, ↓vLenSet, ↓vLc2] using h r hr)⟩
/-! ### _law_root -/
theorem mul_pos2 {a b : Int} (ha : 0 < a) (hb : 0 < b) : 0 < a * b := Int.mul_pos ha hb
/-! ### _law_draw -/
theorem atI_nat {α : Type} {ds : List α} {i : Int} (h : 0 ≤ i) : atI ds i = ds[i.toNat]? := by
  unfold atI ixN
  rw [if_pos h]
  by_cases h1 : i < ds.length
  · rw [if_pos h1]; rfl
  · rw [if_neg h1]
    rw [List.getElem?_eq_none (by omega)]
    rfl
theorem atI_neg1 {α : Type} {ds : List α} (h : ds ≠ []) : atI ds (-1) = some (ds.getLast h) := by
  have hp := List.length_pos_iff.mpr h
  unfold atI ixN
  rw [if_neg (by omega), if_pos (by omega)]
  have e : (-1 + (ds.length : Int)).toNat = ds.length - 1 := by omega
  rw [e, List.getLast_eq_getElem]
  show ds[ds.length - 1]? = _
  rw [List.getElem?_eq_getElem (by omega)]
theorem ixN_nat {n : Nat} {i : Int} (h : 0 ≤ i) (h1 : i < n) : ixN n i = some i.toNat := by
  unfold ixN
  rw [if_pos h, if_pos h1]
theorem hq__law_draw (xs ds : List D) (Q : List D → D → Prop) (h : sp__law_draw xs ds Q) : rd__law_draw (endIO Q) (ev1 ["box", "m", "digits", "at"] xs ds) := by
  obtain ⟨gs, at_, m, g, rfl, rfl, hm, h0, hg, h⟩ := h
  show rd__law_draw _ [.ow [.list (gs.map .int), .int at_], .fr (.int m), .un, .un]
  have hlt : at_ < ((gs.map PyData.int).length : Int) := by
    have := (List.getElem?_eq_some_iff.mp hg).1
    rw [List.length_map]
    omega
  simp only [↓rd__law_draw, ↓vSeq, ↓vPar, ↓vPar3, ↓vSet, ↓vSetO, ↓vAsg, ↓vAug, ↓vAppend, ↓vExt, ↓vUnp, ↓vFz, ↓vRet, ↓vRetN, ↓vDrop, ↓vIfS, ↓vNext, ↓vBrk, ↓vCnt, ↓vNever, ↓vForS, ↓vC, ↓vVar, ↓vTup, ↓vOf, ↓vBin, ↓vBinL, ↓vBinR, ↓vUn, ↓vCall, ↓vCallO, ↓vCallIO, ↓vCallSC, ↓vLookA, ↓vB, ↓vTru, ↓vTruO, ↓vAnd, ↓vOr, ↓vNot, ↓vAndV, ↓vOrV, ↓vNotV, ↓vIf, ↓vChain, ↓vNil, ↓vCons, ↓vSl, ↓vSlL, ↓vP0, ↓vP1, ↓vRevT, ↓vRevL, ↓vRevLL, ↓vBits, ↓vPop, ↓vLc, ↓vTurn, ↓vYes, ↓gN, ↓gT, ↓gsC, ↓gs0, ↓gSet, ↓wL, ↓wT, ↓wR1, ↓wR2, ↓d2, ↓d20, ↓dAdd, ↓dMul, ↓dEq, ↓dNe, ↓dIsN, ↓dNotN, ↓isN, ↓dNeg, ↓dIx, ↓dInI, ↓dSl, ↓truD, ↓cLen, ↓cAbs, ↓cMax2, ↓cMin2, ↓cInt, ↓cTup, ↓cLst, ↓sv, ↓List.getD_cons_zero, ↓List.getD_cons_succ, ↓List.set_cons_zero, ↓List.set_cons_succ, ↓vxSeq, ↓vxIf, ↓vxRaise, ↓vxRet, ↓vxAsg, ↓vxCall, ↓vReason, ↓vEqS, ↓vIsi, ↓wR3, ↓wZip, ↓vSetDk, ↓vDkIn, ↓vDkPut, ↓vParE, ↓gL, ↓vxDrop, ↓cSrt, ↓cSum, ↓cMinD, ↓cAnyI, ↓vLenSet, ↓vLc2]
  refine ⟨rfl, 1, rfl, ?_⟩
  simp only [↓vSeq, ↓vPar, ↓vPar3, ↓vSet, ↓vSetO, ↓vAsg, ↓vAug, ↓vAppend, ↓vExt, ↓vUnp, ↓vFz, ↓vRet, ↓vRetN, ↓vDrop, ↓vIfS, ↓vNext, ↓vBrk, ↓vCnt, ↓vNever, ↓vForS, ↓vC, ↓vVar, ↓vTup, ↓vOf, ↓vBin, ↓vBinL, ↓vBinR, ↓vUn, ↓vCall, ↓vCallO, ↓vCallIO, ↓vCallSC, ↓vLookA, ↓vB, ↓vTru, ↓vTruO, ↓vAnd, ↓vOr, ↓vNot, ↓vAndV, ↓vOrV, ↓vNotV, ↓vIf, ↓vChain, ↓vNil, ↓vCons, ↓vSl, ↓vSlL, ↓vP0, ↓vP1, ↓vRevT, ↓vRevL, ↓vRevLL, ↓vBits, ↓vPop, ↓vLc, ↓vTurn, ↓vYes, ↓gN, ↓gT, ↓gsC, ↓gs0, ↓gSet, ↓wL, ↓wT, ↓wR1, ↓wR2, ↓d2, ↓d20, ↓dAdd, ↓dMul, ↓dEq, ↓dNe, ↓dIsN, ↓dNotN, ↓isN, ↓dNeg, ↓dIx, ↓dInI, ↓dSl, ↓truD, ↓cLen, ↓cAbs, ↓cMax2, ↓cMin2, ↓cInt, ↓cTup, ↓cLst, ↓sv, ↓List.getD_cons_zero, ↓List.getD_cons_succ, ↓List.set_cons_zero, ↓List.set_cons_succ, ↓vxSeq, ↓vxIf, ↓vxRaise, ↓vxRet, ↓vxAsg, ↓vxCall, ↓vReason, ↓vEqS, ↓vIsi, ↓wR3, ↓wZip, ↓vSetDk, ↓vDkIn, ↓vDkPut, ↓vParE, ↓gL, ↓vxDrop, ↓cSrt, ↓cSum, ↓cMinD, ↓cAnyI, ↓vLenSet, ↓vLc2, Int.toNat_one, hlt, decide_true]
  rw [atI_nat h0, List.getElem?_map, hg]
  simp only [Option.map_some, ↓vSeq, ↓vPar, ↓vPar3, ↓vSet, ↓vSetO, ↓vAsg, ↓vAug, ↓vAppend, ↓vExt, ↓vUnp, ↓vFz, ↓vRet, ↓vRetN, ↓vDrop, ↓vIfS, ↓vNext, ↓vBrk, ↓vCnt, ↓vNever, ↓vForS, ↓vC, ↓vVar, ↓vTup, ↓vOf, ↓vBin, ↓vBinL, ↓vBinR, ↓vUn, ↓vCall, ↓vCallO, ↓vCallIO, ↓vCallSC, ↓vLookA, ↓vB, ↓vTru, ↓vTruO, ↓vAnd, ↓vOr, ↓vNot, ↓vAndV, ↓vOrV, ↓vNotV, ↓vIf, ↓vChain, ↓vNil, ↓vCons, ↓vSl, ↓vSlL, ↓vP0, ↓vP1, ↓vRevT, ↓vRevL, ↓vRevLL, ↓vBits, ↓vPop, ↓vLc, ↓vTurn, ↓vYes, ↓gN, ↓gT, ↓gsC, ↓gs0, ↓gSet, ↓wL, ↓wT, ↓wR1, ↓wR2, ↓d2, ↓d20, ↓dAdd, ↓dMul, ↓dEq, ↓dNe, ↓dIsN, ↓dNotN, ↓isN, ↓dNeg, ↓dIx, ↓dInI, ↓dSl, ↓truD, ↓cLen, ↓cAbs, ↓cMax2, ↓cMin2, ↓cInt, ↓cTup, ↓cLst, ↓sv, ↓List.getD_cons_zero, ↓List.getD_cons_succ, ↓List.set_cons_zero, ↓List.set_cons_succ, ↓vxSeq, ↓vxIf, ↓vxRaise, ↓vxRet, ↓vxAsg, ↓vxCall, ↓vReason, ↓vEqS, ↓vIsi, ↓wR3, ↓wZip, ↓vSetDk, ↓vDkIn, ↓vDkPut, ↓vParE, ↓gL, ↓vxDrop, ↓cSrt, ↓cSum, ↓cMinD, ↓cAnyI, ↓vLenSet, ↓vLc2]
  refine ⟨by omega, ?_⟩
  rw [fmod_pos (by omega)]
  exact h
/-! ### _law_digits -/
theorem dig_mod (x : Int) : 0 ≤ x.fmod 1009 ∧ x.fmod 1009 < 1009 := by rw [fmod_pos (by omega)]; omega
theorem digs_snoc {gs : List Int} {x : Int} (h : digsOk gs) (h2 : 0 ≤ x ∧ x < 1009) : digsOk (gs ++ [x]) := fun d hd => by
  rcases List.mem_append.mp hd with z | z
  · exact h d z
  · rw [List.mem_singleton.mp z]; exact h2
theorem digs_app {gs hs : List Int} (h : digsOk gs) (h2 : digsOk hs) : digsOk (gs ++ hs) := fun d hd => by
  rcases List.mem_append.mp hd with z | z
  · exact h d z
  · exact h2 d z
theorem map_snoc {gs : List Int} {x : Int} : gs.map PyData.int ++ [PyData.int x] = (gs ++ [x]).map PyData.int := by simp
theorem loop_f3 (Z : VEnds) (a0 a1 a2 a4 a5 a6 : SV) : ∀ (xs : List Int) (fs : List Int) (s : Int) (a7 : SV), digsOk fs → (∀ t ∈ xs, 0 ≤ t ∧ t < 64) → fs.length + xs.length ≤ 100000 →
    (∀ gs b7 b8, digsOk gs → gs.length = fs.length + xs.length → Z.nx [a0, a1, a2, .ow (gs.map .int), a4, a5, a6, b7, b8]) → vFor rd__law_digits_f3g rd__law_digits_f3b Z (xs.map .int) [a0, a1, a2, .ow (fs.map .int), a4, a5, a6, a7, .fr (.int s)] := by
  intro xs
  induction xs with
  | nil => intro fs s a7 hd hx hl hZ; exact hZ fs a7 _ hd rfl
  | cons t xs ih =>
    intro fs s a7 hd hx hl hZ
    obtain ⟨t1, t2⟩ := hx t (List.mem_cons_self ..)
    rw [List.length_cons] at hl
    rw [List.map_cons, vFor_cons]
    generalize hW : vFor rd__law_digits_f3g rd__law_digits_f3b Z (xs.map .int) = W
    simp only [↓rd__law_digits_f3g, ↓rd__law_digits_f3b, ↓vSeq, ↓vPar, ↓vPar3, ↓vSet, ↓vSetO, ↓vAsg, ↓vAug, ↓vAppend, ↓vExt, ↓vUnp, ↓vFz, ↓vRet, ↓vRetN, ↓vDrop, ↓vIfS, ↓vNext, ↓vBrk, ↓vCnt, ↓vNever, ↓vForS, ↓vC, ↓vVar, ↓vTup, ↓vOf, ↓vBin, ↓vBinL, ↓vBinR, ↓vUn, ↓vCall, ↓vCallO, ↓vCallIO, ↓vCallSC, ↓vLookA, ↓vB, ↓vTru, ↓vTruO, ↓vAnd, ↓vOr, ↓vNot, ↓vAndV, ↓vOrV, ↓vNotV, ↓vIf, ↓vChain, ↓vNil, ↓vCons, ↓vSl, ↓vSlL, ↓vP0, ↓vP1, ↓vRevT, ↓vRevL, ↓vRevLL, ↓vBits, ↓vPop, ↓vLc, ↓vTurn, ↓vYes, ↓gN, ↓gT, ↓gsC, ↓gs0, ↓gSet, ↓wL, ↓wT, ↓wR1, ↓wR2, ↓d2, ↓d20, ↓dAdd, ↓dMul, ↓dEq, ↓dNe, ↓dIsN, ↓dNotN, ↓isN, ↓dNeg, ↓dIx, ↓dInI, ↓dSl, ↓truD, ↓cLen, ↓cAbs, ↓cMax2, ↓cMin2, ↓cInt, ↓cTup, ↓cLst, ↓sv, ↓List.getD_cons_zero, ↓List.getD_cons_succ, ↓List.set_cons_zero, ↓List.set_cons_succ, ↓vxSeq, ↓vxIf, ↓vxRaise, ↓vxRet, ↓vxAsg, ↓vxCall, ↓vReason, ↓vEqS, ↓vIsi, ↓wR3, ↓wZip, ↓vSetDk, ↓vDkIn, ↓vDkPut, ↓vParE, ↓gL, ↓vxDrop, ↓cSrt, ↓cSum, ↓cMinD, ↓cAnyI, ↓vLenSet, ↓vLc2]
    refine ⟨mul_small (by omega), mul_small (by omega), by omega, div_small (by omega) (by omega), by omega, ?_, ?_⟩
    · rw [List.length_map, sizeLine_eq]; omega
    · rw [map_snoc, ← hW]
      refine ih _ _ _ (digs_snoc hd (dig_mod _)) (fun u hu => hx u (List.mem_cons_of_mem _ hu)) (by rw [List.length_append]; simp; omega) fun gs b7 b8 h1 h2 => hZ gs b7 b8 h1 (by rw [h2, List.length_append, List.length_cons]; simp; omega)
theorem loop_f2 (Z : VEnds) (a0 a1 a2 a4 a5 a8 : SV) : ∀ (xs : List Int) (fs : List Int) (n : Int) (j : Nat) (a7 : SV), digsOk fs → j ≤ xs.length → (j = 0 ∨ (1009 : Int) ^ (j - 1) ≤ n) → fs.length + xs.length ≤ 100000 →
    (∀ gs b6 b7, digsOk gs → fs.length + j ≤ gs.length → gs.length ≤ fs.length + xs.length → Z.nx [a0, a1, a2, .ow (gs.map .int), a4, a5, b6, b7, a8]) → vFor rd__law_digits_f2g rd__law_digits_f2b Z (xs.map .int) [a0, a1, a2, .ow (fs.map .int), a4, a5, .fr (.int n), a7, a8] := by
  intro xs
  induction xs with
  | nil => intro fs n j a7 hd hj hn hl hZ; exact hZ fs _ a7 hd (by simp at hj; omega) (by simp)
  | cons t xs ih =>
    intro fs n j a7 hd hj hn hl hZ
    rw [List.length_cons] at hl hj
    rw [List.map_cons, vFor_cons]
    generalize hW : vFor rd__law_digits_f2g rd__law_digits_f2b Z (xs.map .int) = W
    simp only [↓rd__law_digits_f2g, ↓rd__law_digits_f2b, ↓vSeq, ↓vPar, ↓vPar3, ↓vSet, ↓vSetO, ↓vAsg, ↓vAug, ↓vAppend, ↓vExt, ↓vUnp, ↓vFz, ↓vRet, ↓vRetN, ↓vDrop, ↓vIfS, ↓vNext, ↓vBrk, ↓vCnt, ↓vNever, ↓vForS, ↓vC, ↓vVar, ↓vTup, ↓vOf, ↓vBin, ↓vBinL, ↓vBinR, ↓vUn, ↓vCall, ↓vCallO, ↓vCallIO, ↓vCallSC, ↓vLookA, ↓vB, ↓vTru, ↓vTruO, ↓vAnd, ↓vOr, ↓vNot, ↓vAndV, ↓vOrV, ↓vNotV, ↓vIf, ↓vChain, ↓vNil, ↓vCons, ↓vSl, ↓vSlL, ↓vP0, ↓vP1, ↓vRevT, ↓vRevL, ↓vRevLL, ↓vBits, ↓vPop, ↓vLc, ↓vTurn, ↓vYes, ↓gN, ↓gT, ↓gsC, ↓gs0, ↓gSet, ↓wL, ↓wT, ↓wR1, ↓wR2, ↓d2, ↓d20, ↓dAdd, ↓dMul, ↓dEq, ↓dNe, ↓dIsN, ↓dNotN, ↓isN, ↓dNeg, ↓dIx, ↓dInI, ↓dSl, ↓truD, ↓cLen, ↓cAbs, ↓cMax2, ↓cMin2, ↓cInt, ↓cTup, ↓cLst, ↓sv, ↓List.getD_cons_zero, ↓List.getD_cons_succ, ↓List.set_cons_zero, ↓List.set_cons_succ, ↓vxSeq, ↓vxIf, ↓vxRaise, ↓vxRet, ↓vxAsg, ↓vxCall, ↓vReason, ↓vEqS, ↓vIsi, ↓wR3, ↓wZip, ↓vSetDk, ↓vDkIn, ↓vDkPut, ↓vParE, ↓gL, ↓vxDrop, ↓cSrt, ↓cSum, ↓cMinD, ↓cAnyI, ↓vLenSet, ↓vLc2]
    by_cases h : 0 < n
    · simp only [h, decide_true, ↓vSeq, ↓vPar, ↓vPar3, ↓vSet, ↓vSetO, ↓vAsg, ↓vAug, ↓vAppend, ↓vExt, ↓vUnp, ↓vFz, ↓vRet, ↓vRetN, ↓vDrop, ↓vIfS, ↓vNext, ↓vBrk, ↓vCnt, ↓vNever, ↓vForS, ↓vC, ↓vVar, ↓vTup, ↓vOf, ↓vBin, ↓vBinL, ↓vBinR, ↓vUn, ↓vCall, ↓vCallO, ↓vCallIO, ↓vCallSC, ↓vLookA, ↓vB, ↓vTru, ↓vTruO, ↓vAnd, ↓vOr, ↓vNot, ↓vAndV, ↓vOrV, ↓vNotV, ↓vIf, ↓vChain, ↓vNil, ↓vCons, ↓vSl, ↓vSlL, ↓vP0, ↓vP1, ↓vRevT, ↓vRevL, ↓vRevLL, ↓vBits, ↓vPop, ↓vLc, ↓vTurn, ↓vYes, ↓gN, ↓gT, ↓gsC, ↓gs0, ↓gSet, ↓wL, ↓wT, ↓wR1, ↓wR2, ↓d2, ↓d20, ↓dAdd, ↓dMul, ↓dEq, ↓dNe, ↓dIsN, ↓dNotN, ↓isN, ↓dNeg, ↓dIx, ↓dInI, ↓dSl, ↓truD, ↓cLen, ↓cAbs, ↓cMax2, ↓cMin2, ↓cInt, ↓cTup, ↓cLst, ↓sv, ↓List.getD_cons_zero, ↓List.getD_cons_succ, ↓List.set_cons_zero, ↓List.set_cons_succ, ↓vxSeq, ↓vxIf, ↓vxRaise, ↓vxRet, ↓vxAsg, ↓vxCall, ↓vReason, ↓vEqS, ↓vIsi, ↓wR3, ↓wZip, ↓vSetDk, ↓vDkIn, ↓vDkPut, ↓vParE, ↓gL, ↓vxDrop, ↓cSrt, ↓cSum, ↓cMinD, ↓cAnyI, ↓vLenSet, ↓vLc2]
      refine ⟨by omega, by rw [List.length_map, sizeLine_eq]; omega, div_small (by omega) (by omega), ?_⟩
      rw [map_snoc, ← hW]
      refine ih _ _ (j - 1) _ (digs_snoc hd (dig_mod _)) (by omega) ?_ (by rw [List.length_append]; simp; omega) fun gs b6 b7 h1 h2 h3 => hZ gs b6 b7 h1 (by rw [List.length_append] at h2; simp at h2; omega) (by rw [List.length_append] at h3; rw [List.length_cons]; simp at h3; omega)
      rcases hn with z | z
      · exact .inl (by omega)
      · by_cases h2 : j ≤ 1
        · exact .inl (by omega)
        · refine .inr ?_
          rw [fdiv_pos (by omega), Int.le_ediv_iff_mul_le (by omega)]
          have e : j - 1 = (j - 1 - 1) + 1 := by omega
          rw [e, Int.pow_succ] at z
          exact z
    · simp only [h, decide_false, ↓vSeq, ↓vPar, ↓vPar3, ↓vSet, ↓vSetO, ↓vAsg, ↓vAug, ↓vAppend, ↓vExt, ↓vUnp, ↓vFz, ↓vRet, ↓vRetN, ↓vDrop, ↓vIfS, ↓vNext, ↓vBrk, ↓vCnt, ↓vNever, ↓vForS, ↓vC, ↓vVar, ↓vTup, ↓vOf, ↓vBin, ↓vBinL, ↓vBinR, ↓vUn, ↓vCall, ↓vCallO, ↓vCallIO, ↓vCallSC, ↓vLookA, ↓vB, ↓vTru, ↓vTruO, ↓vAnd, ↓vOr, ↓vNot, ↓vAndV, ↓vOrV, ↓vNotV, ↓vIf, ↓vChain, ↓vNil, ↓vCons, ↓vSl, ↓vSlL, ↓vP0, ↓vP1, ↓vRevT, ↓vRevL, ↓vRevLL, ↓vBits, ↓vPop, ↓vLc, ↓vTurn, ↓vYes, ↓gN, ↓gT, ↓gsC, ↓gs0, ↓gSet, ↓wL, ↓wT, ↓wR1, ↓wR2, ↓d2, ↓d20, ↓dAdd, ↓dMul, ↓dEq, ↓dNe, ↓dIsN, ↓dNotN, ↓isN, ↓dNeg, ↓dIx, ↓dInI, ↓dSl, ↓truD, ↓cLen, ↓cAbs, ↓cMax2, ↓cMin2, ↓cInt, ↓cTup, ↓cLst, ↓sv, ↓List.getD_cons_zero, ↓List.getD_cons_succ, ↓List.set_cons_zero, ↓List.set_cons_succ, ↓vxSeq, ↓vxIf, ↓vxRaise, ↓vxRet, ↓vxAsg, ↓vxCall, ↓vReason, ↓vEqS, ↓vIsi, ↓wR3, ↓wZip, ↓vSetDk, ↓vDkIn, ↓vDkPut, ↓vParE, ↓gL, ↓vxDrop, ↓cSrt, ↓cSum, ↓cMinD, ↓cAnyI, ↓vLenSet, ↓vLc2]
      rw [← hW]
      have hj0 : j = 0 := by
        rcases hn with z | z
        · exact z
        · have : (0 : Int) < 1009 ^ (j - 1) := Int.pow_pos (by omega)
          omega
      exact ih _ _ j _ hd (by omega) (.inl hj0) (by omega) fun gs b6 b7 h1 h2 h3 => hZ gs b6 b7 h1 h2 (by rw [List.length_cons]; omega)
theorem rngD_map (lo : Int) (n : Nat) : rngD lo n = ((List.range n).map fun i => lo + (i : Nat)).map PyData.int := by
  unfold rngD; rw [List.map_map]; rfl
theorem loop_f1 (Z : VEnds) (ns : List Int) (a1 a2 : SV) : ∀ (xs : List Int) (fs : List Int) (a4 a5 a6 a7 a8 : SV), digsOk fs → (∀ t ∈ xs, 0 ≤ t ∧ t < 64) → fs.length + 60 * xs.length ≤ 10000 →
    (∀ gs b4 b5 b6 b7 b8, digsOk gs → fs.length + 6 * xs.length ≤ gs.length → Z.nx [.rw ns, a1, a2, .ow (gs.map .int), b4, b5, b6, b7, b8]) → vFor rd__law_digits_f1g rd__law_digits_f1b Z (xs.map .int) [.rw ns, a1, a2, .ow (fs.map .int), a4, a5, a6, a7, a8] := by
  intro xs
  induction xs with
  | nil => intro fs a4 a5 a6 a7 a8 hd hx hl hZ; exact hZ fs a4 a5 a6 a7 a8 hd (by simp)
  | cons t xs ih =>
    intro fs a4 a5 a6 a7 a8 hd hx hl hZ
    obtain ⟨t1, t2⟩ := hx t (List.mem_cons_self ..)
    rw [List.length_cons] at hl
    rw [List.map_cons, vFor_cons]
    generalize hW : vFor rd__law_digits_f1g rd__law_digits_f1b Z (xs.map .int) = W
    have go : ∀ gs b4 b5 b6 b7 b8, digsOk gs → fs.length + 6 ≤ gs.length → gs.length ≤ fs.length + 60 → W [.rw ns, a1, a2, .ow (gs.map .int), b4, b5, b6, b7, b8] := fun gs b4 b5 b6 b7 b8 h1 h2 h3 => by
      rw [← hW]
      exact ih gs b4 b5 b6 b7 b8 h1 (fun u hu => hx u (List.mem_cons_of_mem _ hu)) (by omega) fun hs c4 c5 c6 c7 c8 g1 g2 => hZ hs c4 c5 c6 c7 c8 g1 (by rw [List.length_cons]; omega)
    -- the rest of a turn, c known not to be negative
    have rest : ∀ c : Int, 0 ≤ c → (vIfS (vB (vBin (d20 fun i j => .bool (decide (j ≤ i))) (vVar 5) (vBin (d2 shlOk fun i j => .int (i ^ j.toNat)) (vC (.int 10)) (vC (.int 18))))) (vSeq (vSet 6 (vVar 5))
        (vForS (wR1 (vC (.int 60))) rd__law_digits_f2g rd__law_digits_f2b)) (vSeq (vSet 8 (vBin (d2 (fun _ j => j ≠ 0) fun i j => .int (i.fmod j)) (vBin dAdd (vBin dAdd (vBin dMul (vVar 5) (vC (.int 48271))) (vBin dMul (vCall cInt (vCons (vBin dAdd (vVar 4) (vC (.int 1))) vNil)) (vC (.int 69621)))) (vC (.int 11))) (vC (.int 2147483647))))
        (vForS (wR1 (vC (.int 12))) rd__law_digits_f3g rd__law_digits_f3b))) { nx := W, rt := Z.rt, bk := Z.nx, ct := W } [.rw ns, a1, a2, .ow (fs.map .int), .fr (.int t), .fr (.int c), a6, a7, a8] := fun c hc => by
      have hp : (10 : Int) ^ (18 : Int).toNat = 1000000000000000000 := by decide +kernel
      simp only [↓vSeq, ↓vPar, ↓vPar3, ↓vSet, ↓vSetO, ↓vAsg, ↓vAug, ↓vAppend, ↓vExt, ↓vUnp, ↓vFz, ↓vRet, ↓vRetN, ↓vDrop, ↓vIfS, ↓vNext, ↓vBrk, ↓vCnt, ↓vNever, ↓vForS, ↓vC, ↓vVar, ↓vTup, ↓vOf, ↓vBin, ↓vBinL, ↓vBinR, ↓vUn, ↓vCall, ↓vCallO, ↓vCallIO, ↓vCallSC, ↓vLookA, ↓vB, ↓vTru, ↓vTruO, ↓vAnd, ↓vOr, ↓vNot, ↓vAndV, ↓vOrV, ↓vNotV, ↓vIf, ↓vChain, ↓vNil, ↓vCons, ↓vSl, ↓vSlL, ↓vP0, ↓vP1, ↓vRevT, ↓vRevL, ↓vRevLL, ↓vBits, ↓vPop, ↓vLc, ↓vTurn, ↓vYes, ↓gN, ↓gT, ↓gsC, ↓gs0, ↓gSet, ↓wL, ↓wT, ↓wR1, ↓wR2, ↓d2, ↓d20, ↓dAdd, ↓dMul, ↓dEq, ↓dNe, ↓dIsN, ↓dNotN, ↓isN, ↓dNeg, ↓dIx, ↓dInI, ↓dSl, ↓truD, ↓cLen, ↓cAbs, ↓cMax2, ↓cMin2, ↓cInt, ↓cTup, ↓cLst, ↓sv, ↓List.getD_cons_zero, ↓List.getD_cons_succ, ↓List.set_cons_zero, ↓List.set_cons_succ, ↓vxSeq, ↓vxIf, ↓vxRaise, ↓vxRet, ↓vxAsg, ↓vxCall, ↓vReason, ↓vEqS, ↓vIsi, ↓wR3, ↓wZip, ↓vSetDk, ↓vDkIn, ↓vDkPut, ↓vParE, ↓gL, ↓vxDrop, ↓cSrt, ↓cSum, ↓cMinD, ↓cAnyI, ↓vLenSet, ↓vLc2, hp]
      refine ⟨⟨by omega, by omega, by omega, by omega⟩, ?_⟩
      by_cases h : (1000000000000000000 : Int) ≤ c
      · simp only [h, decide_true, ↓vSeq, ↓vPar, ↓vPar3, ↓vSet, ↓vSetO, ↓vAsg, ↓vAug, ↓vAppend, ↓vExt, ↓vUnp, ↓vFz, ↓vRet, ↓vRetN, ↓vDrop, ↓vIfS, ↓vNext, ↓vBrk, ↓vCnt, ↓vNever, ↓vForS, ↓vC, ↓vVar, ↓vTup, ↓vOf, ↓vBin, ↓vBinL, ↓vBinR, ↓vUn, ↓vCall, ↓vCallO, ↓vCallIO, ↓vCallSC, ↓vLookA, ↓vB, ↓vTru, ↓vTruO, ↓vAnd, ↓vOr, ↓vNot, ↓vAndV, ↓vOrV, ↓vNotV, ↓vIf, ↓vChain, ↓vNil, ↓vCons, ↓vSl, ↓vSlL, ↓vP0, ↓vP1, ↓vRevT, ↓vRevL, ↓vRevLL, ↓vBits, ↓vPop, ↓vLc, ↓vTurn, ↓vYes, ↓gN, ↓gT, ↓gsC, ↓gs0, ↓gSet, ↓wL, ↓wT, ↓wR1, ↓wR2, ↓d2, ↓d20, ↓dAdd, ↓dMul, ↓dEq, ↓dNe, ↓dIsN, ↓dNotN, ↓isN, ↓dNeg, ↓dIx, ↓dInI, ↓dSl, ↓truD, ↓cLen, ↓cAbs, ↓cMax2, ↓cMin2, ↓cInt, ↓cTup, ↓cLst, ↓sv, ↓List.getD_cons_zero, ↓List.getD_cons_succ, ↓List.set_cons_zero, ↓List.set_cons_succ, ↓vxSeq, ↓vxIf, ↓vxRaise, ↓vxRet, ↓vxAsg, ↓vxCall, ↓vReason, ↓vEqS, ↓vIsi, ↓wR3, ↓wZip, ↓vSetDk, ↓vDkIn, ↓vDkPut, ↓vParE, ↓gL, ↓vxDrop, ↓cSrt, ↓cSum, ↓cMinD, ↓cAnyI, ↓vLenSet, ↓vLc2]
        refine ⟨by decide +kernel, ?_⟩
        rw [rngD_map]
        refine loop_f2 _ _ _ _ _ _ _ _ fs c 6 _ hd (by simp) (.inr ?_) (by simp; omega) fun gs b6 b7 h1 h2 h3 => go gs _ _ _ _ _ h1 h2 (by simpa using h3)
        have : (1009 : Int) ^ (6 - 1) ≤ 1000000000000000000 := by decide +kernel
        omega
      · simp only [h, decide_false, ↓vSeq, ↓vPar, ↓vPar3, ↓vSet, ↓vSetO, ↓vAsg, ↓vAug, ↓vAppend, ↓vExt, ↓vUnp, ↓vFz, ↓vRet, ↓vRetN, ↓vDrop, ↓vIfS, ↓vNext, ↓vBrk, ↓vCnt, ↓vNever, ↓vForS, ↓vC, ↓vVar, ↓vTup, ↓vOf, ↓vBin, ↓vBinL, ↓vBinR, ↓vUn, ↓vCall, ↓vCallO, ↓vCallIO, ↓vCallSC, ↓vLookA, ↓vB, ↓vTru, ↓vTruO, ↓vAnd, ↓vOr, ↓vNot, ↓vAndV, ↓vOrV, ↓vNotV, ↓vIf, ↓vChain, ↓vNil, ↓vCons, ↓vSl, ↓vSlL, ↓vP0, ↓vP1, ↓vRevT, ↓vRevL, ↓vRevLL, ↓vBits, ↓vPop, ↓vLc, ↓vTurn, ↓vYes, ↓gN, ↓gT, ↓gsC, ↓gs0, ↓gSet, ↓wL, ↓wT, ↓wR1, ↓wR2, ↓d2, ↓d20, ↓dAdd, ↓dMul, ↓dEq, ↓dNe, ↓dIsN, ↓dNotN, ↓isN, ↓dNeg, ↓dIx, ↓dInI, ↓dSl, ↓truD, ↓cLen, ↓cAbs, ↓cMax2, ↓cMin2, ↓cInt, ↓cTup, ↓cLst, ↓sv, ↓List.getD_cons_zero, ↓List.getD_cons_succ, ↓List.set_cons_zero, ↓List.set_cons_succ, ↓vxSeq, ↓vxIf, ↓vxRaise, ↓vxRet, ↓vxAsg, ↓vxCall, ↓vReason, ↓vEqS, ↓vIsi, ↓wR3, ↓wZip, ↓vSetDk, ↓vDkIn, ↓vDkPut, ↓vParE, ↓gL, ↓vxDrop, ↓cSrt, ↓cSum, ↓cMinD, ↓cAnyI, ↓vLenSet, ↓vLc2]
        refine ⟨mul_small (by omega), mul_small (by omega), by omega, by decide +kernel, ?_⟩
        rw [rngD_map]
        refine loop_f3 _ _ _ _ _ _ _ _ fs _ _ hd (fun u hu => ?_) (by simp; omega) fun gs b7 b8 h1 h2 => go gs _ _ _ _ _ h1 (by simp at h2; omega) (by simp at h2; omega)
        obtain ⟨i, hi, rfl⟩ := List.mem_map.mp hu
        have := List.mem_range.mp hi
        omega
    simp only [↓rd__law_digits_f1g, ↓rd__law_digits_f1b, ↓vSeq, ↓gN, ↓vSet, ↓vCallSC, ↓sp__law_cell, ↓vSeq, ↓vPar, ↓vPar3, ↓vSet, ↓vSetO, ↓vAsg, ↓vAug, ↓vAppend, ↓vExt, ↓vUnp, ↓vFz, ↓vRet, ↓vRetN, ↓vDrop, ↓vIfS, ↓vNext, ↓vBrk, ↓vCnt, ↓vNever, ↓vForS, ↓vC, ↓vVar, ↓vTup, ↓vOf, ↓vBin, ↓vBinL, ↓vBinR, ↓vUn, ↓vCall, ↓vCallO, ↓vCallIO, ↓vCallSC, ↓vLookA, ↓vB, ↓vTru, ↓vTruO, ↓vAnd, ↓vOr, ↓vNot, ↓vAndV, ↓vOrV, ↓vNotV, ↓vIf, ↓vChain, ↓vNil, ↓vCons, ↓vSl, ↓vSlL, ↓vP0, ↓vP1, ↓vRevT, ↓vRevL, ↓vRevLL, ↓vBits, ↓vPop, ↓vLc, ↓vTurn, ↓vYes, ↓gN, ↓gT, ↓gsC, ↓gs0, ↓gSet, ↓wL, ↓wT, ↓wR1, ↓wR2, ↓d2, ↓d20, ↓dAdd, ↓dMul, ↓dEq, ↓dNe, ↓dIsN, ↓dNotN, ↓isN, ↓dNeg, ↓dIx, ↓dInI, ↓dSl, ↓truD, ↓cLen, ↓cAbs, ↓cMax2, ↓cMin2, ↓cInt, ↓cTup, ↓cLst, ↓sv, ↓List.getD_cons_zero, ↓List.getD_cons_succ, ↓List.set_cons_zero, ↓List.set_cons_succ, ↓vxSeq, ↓vxIf, ↓vxRaise, ↓vxRet, ↓vxAsg, ↓vxCall, ↓vReason, ↓vEqS, ↓vIsi, ↓wR3, ↓wZip, ↓vSetDk, ↓vDkIn, ↓vDkPut, ↓vParE, ↓gL, ↓vxDrop, ↓cSrt, ↓cSum, ↓cMinD, ↓cAnyI, ↓vLenSet, ↓vLc2] at rest ⊢
    refine ⟨t1, ?_⟩
    generalize cellOf ns t.toNat = c
    by_cases h : c < 0
    · simp only [h, decide_true, ↓vSeq, ↓vPar, ↓vPar3, ↓vSet, ↓vSetO, ↓vAsg, ↓vAug, ↓vAppend, ↓vExt, ↓vUnp, ↓vFz, ↓vRet, ↓vRetN, ↓vDrop, ↓vIfS, ↓vNext, ↓vBrk, ↓vCnt, ↓vNever, ↓vForS, ↓vC, ↓vVar, ↓vTup, ↓vOf, ↓vBin, ↓vBinL, ↓vBinR, ↓vUn, ↓vCall, ↓vCallO, ↓vCallIO, ↓vCallSC, ↓vLookA, ↓vB, ↓vTru, ↓vTruO, ↓vAnd, ↓vOr, ↓vNot, ↓vAndV, ↓vOrV, ↓vNotV, ↓vIf, ↓vChain, ↓vNil, ↓vCons, ↓vSl, ↓vSlL, ↓vP0, ↓vP1, ↓vRevT, ↓vRevL, ↓vRevLL, ↓vBits, ↓vPop, ↓vLc, ↓vTurn, ↓vYes, ↓gN, ↓gT, ↓gsC, ↓gs0, ↓gSet, ↓wL, ↓wT, ↓wR1, ↓wR2, ↓d2, ↓d20, ↓dAdd, ↓dMul, ↓dEq, ↓dNe, ↓dIsN, ↓dNotN, ↓isN, ↓dNeg, ↓dIx, ↓dInI, ↓dSl, ↓truD, ↓cLen, ↓cAbs, ↓cMax2, ↓cMin2, ↓cInt, ↓cTup, ↓cLst, ↓sv, ↓List.getD_cons_zero, ↓List.getD_cons_succ, ↓List.set_cons_zero, ↓List.set_cons_succ, ↓vxSeq, ↓vxIf, ↓vxRaise, ↓vxRet, ↓vxAsg, ↓vxCall, ↓vReason, ↓vEqS, ↓vIsi, ↓wR3, ↓wZip, ↓vSetDk, ↓vDkIn, ↓vDkPut, ↓vParE, ↓gL, ↓vxDrop, ↓cSrt, ↓cSum, ↓cMinD, ↓cAnyI, ↓vLenSet, ↓vLc2]
      exact ⟨mul_small (by omega), rest _ (by omega)⟩
    · simp only [h, decide_false, ↓vSeq, ↓vPar, ↓vPar3, ↓vSet, ↓vSetO, ↓vAsg, ↓vAug, ↓vAppend, ↓vExt, ↓vUnp, ↓vFz, ↓vRet, ↓vRetN, ↓vDrop, ↓vIfS, ↓vNext, ↓vBrk, ↓vCnt, ↓vNever, ↓vForS, ↓vC, ↓vVar, ↓vTup, ↓vOf, ↓vBin, ↓vBinL, ↓vBinR, ↓vUn, ↓vCall, ↓vCallO, ↓vCallIO, ↓vCallSC, ↓vLookA, ↓vB, ↓vTru, ↓vTruO, ↓vAnd, ↓vOr, ↓vNot, ↓vAndV, ↓vOrV, ↓vNotV, ↓vIf, ↓vChain, ↓vNil, ↓vCons, ↓vSl, ↓vSlL, ↓vP0, ↓vP1, ↓vRevT, ↓vRevL, ↓vRevLL, ↓vBits, ↓vPop, ↓vLc, ↓vTurn, ↓vYes, ↓gN, ↓gT, ↓gsC, ↓gs0, ↓gSet, ↓wL, ↓wT, ↓wR1, ↓wR2, ↓d2, ↓d20, ↓dAdd, ↓dMul, ↓dEq, ↓dNe, ↓dIsN, ↓dNotN, ↓isN, ↓dNeg, ↓dIx, ↓dInI, ↓dSl, ↓truD, ↓cLen, ↓cAbs, ↓cMax2, ↓cMin2, ↓cInt, ↓cTup, ↓cLst, ↓sv, ↓List.getD_cons_zero, ↓List.getD_cons_succ, ↓List.set_cons_zero, ↓List.set_cons_succ, ↓vxSeq, ↓vxIf, ↓vxRaise, ↓vxRet, ↓vxAsg, ↓vxCall, ↓vReason, ↓vEqS, ↓vIsi, ↓wR3, ↓wZip, ↓vSetDk, ↓vDkIn, ↓vDkPut, ↓vParE, ↓gL, ↓vxDrop, ↓cSrt, ↓cSum, ↓cMinD, ↓cAnyI, ↓vLenSet, ↓vLc2]
      exact rest _ (by omega)
theorem hq__law_digits (ns : List Int) (ds : List D) (Q : D → Prop) (h : sp__law_digits ns ds Q) : rd__law_digits { nx := fun _ => Q .none, rt := fun d _ => Q d } (evS ["script", "first", "last", "found", "k", "c", "n", "turn", "s"] ns ds) := by
  obtain ⟨lo, hi, rfl, h0, h1, h2, h⟩ := h
  show rd__law_digits _ [.rw ns, .fr (.int lo), .fr (.int hi), .un, .un, .un, .un, .un, .un]
  simp only [↓rd__law_digits, ↓vSeq, ↓vPar, ↓vPar3, ↓vSet, ↓vSetO, ↓vAsg, ↓vAug, ↓vAppend, ↓vExt, ↓vUnp, ↓vFz, ↓vRet, ↓vRetN, ↓vDrop, ↓vIfS, ↓vNext, ↓vBrk, ↓vCnt, ↓vNever, ↓vForS, ↓vC, ↓vVar, ↓vTup, ↓vOf, ↓vBin, ↓vBinL, ↓vBinR, ↓vUn, ↓vCall, ↓vCallO, ↓vCallIO, ↓vCallSC, ↓vLookA, ↓vB, ↓vTru, ↓vTruO, ↓vAnd, ↓vOr, ↓vNot, ↓vAndV, ↓vOrV, ↓vNotV, ↓vIf, ↓vChain, ↓vNil, ↓vCons, ↓vSl, ↓vSlL, ↓vP0, ↓vP1, ↓vRevT, ↓vRevL, ↓vRevLL, ↓vBits, ↓vPop, ↓vLc, ↓vTurn, ↓vYes, ↓gN, ↓gT, ↓gsC, ↓gs0, ↓gSet, ↓wL, ↓wT, ↓wR1, ↓wR2, ↓d2, ↓d20, ↓dAdd, ↓dMul, ↓dEq, ↓dNe, ↓dIsN, ↓dNotN, ↓isN, ↓dNeg, ↓dIx, ↓dInI, ↓dSl, ↓truD, ↓cLen, ↓cAbs, ↓cMax2, ↓cMin2, ↓cInt, ↓cTup, ↓cLst, ↓sv, ↓List.getD_cons_zero, ↓List.getD_cons_succ, ↓List.set_cons_zero, ↓List.set_cons_succ, ↓vxSeq, ↓vxIf, ↓vxRaise, ↓vxRet, ↓vxAsg, ↓vxCall, ↓vReason, ↓vEqS, ↓vIsi, ↓wR3, ↓wZip, ↓vSetDk, ↓vDkIn, ↓vDkPut, ↓vParE, ↓gL, ↓vxDrop, ↓cSrt, ↓cSum, ↓cMinD, ↓cAnyI, ↓vLenSet, ↓vLc2]
  refine ⟨by omega, ?_⟩
  rw [rngD_map]
  refine loop_f1 _ ns _ _ _ [] _ _ _ _ _ (fun d hd => by cases hd) (fun u hu => ?_) (by simp; omega) fun gs b4 b5 b6 b7 b8 g1 g2 => ?_
  · obtain ⟨i, hi, rfl⟩ := List.mem_map.mp hu
    have := List.mem_range.mp hi
    omega
  · simp only [↓vSeq, ↓vPar, ↓vPar3, ↓vSet, ↓vSetO, ↓vAsg, ↓vAug, ↓vAppend, ↓vExt, ↓vUnp, ↓vFz, ↓vRet, ↓vRetN, ↓vDrop, ↓vIfS, ↓vNext, ↓vBrk, ↓vCnt, ↓vNever, ↓vForS, ↓vC, ↓vVar, ↓vTup, ↓vOf, ↓vBin, ↓vBinL, ↓vBinR, ↓vUn, ↓vCall, ↓vCallO, ↓vCallIO, ↓vCallSC, ↓vLookA, ↓vB, ↓vTru, ↓vTruO, ↓vAnd, ↓vOr, ↓vNot, ↓vAndV, ↓vOrV, ↓vNotV, ↓vIf, ↓vChain, ↓vNil, ↓vCons, ↓vSl, ↓vSlL, ↓vP0, ↓vP1, ↓vRevT, ↓vRevL, ↓vRevLL, ↓vBits, ↓vPop, ↓vLc, ↓vTurn, ↓vYes, ↓gN, ↓gT, ↓gsC, ↓gs0, ↓gSet, ↓wL, ↓wT, ↓wR1, ↓wR2, ↓d2, ↓d20, ↓dAdd, ↓dMul, ↓dEq, ↓dNe, ↓dIsN, ↓dNotN, ↓isN, ↓dNeg, ↓dIx, ↓dInI, ↓dSl, ↓truD, ↓cLen, ↓cAbs, ↓cMax2, ↓cMin2, ↓cInt, ↓cTup, ↓cLst, ↓sv, ↓List.getD_cons_zero, ↓List.getD_cons_succ, ↓List.set_cons_zero, ↓List.set_cons_succ, ↓vxSeq, ↓vxIf, ↓vxRaise, ↓vxRet, ↓vxAsg, ↓vxCall, ↓vReason, ↓vEqS, ↓vIsi, ↓wR3, ↓wZip, ↓vSetDk, ↓vDkIn, ↓vDkPut, ↓vParE, ↓gL, ↓vxDrop, ↓cSrt, ↓cSum, ↓cMinD, ↓cAnyI, ↓vLenSet, ↓vLc2]
    exact h gs g1 (by simp at g2; omega)

/-! ### data compared -/
mutual
def plD : D → Bool
  | .int _ => true
  | .none => true
  | .list xs => plAll xs
  | .tuple xs => plAll xs
  | _ => false
def plAll : List D → Bool
  | [] => true
  | x :: xs => plD x && plAll xs
end
mutual
theorem pl_lay : ∀ d : D, plD d = true → d.canLay0 = true
  | .int _, _ => rfl
  | .none, _ => rfl
  | .list xs, h => plAll_lay xs h
  | .tuple xs, h => plAll_lay xs h
  | .bool _, h => nomatch h
  | .str _, h => nomatch h
  | .dict _, h => nomatch h
theorem plAll_lay : ∀ xs : List D, plAll xs = true → PyData.canLayAll0 xs = true
  | [], _ => rfl
  | x :: xs, h => by
    have h' : plD x = true ∧ plAll xs = true := by simpa [plAll] using h
    show (x.canLay0 && PyData.canLayAll0 xs) = true
    rw [pl_lay x h'.1, plAll_lay xs h'.2]; rfl
end
mutual
theorem pl_eqv : ∀ d e : D, plD d = true → plD e = true → (PyData.eqv d e = true ↔ d = e)
  | .int i, .int j, _, _ => by simp [PyData.eqv]
  | .none, .none, _, _ => by simp [PyData.eqv]
  | .list xs, .list ys, h, k => by
    rw [PyData.eqv, plAll_eqv xs ys h k]; simp
  | .tuple xs, .tuple ys, h, k => by
    rw [PyData.eqv, plAll_eqv xs ys h k]; simp
  | .int _, .none, _, _ => by simp [PyData.eqv]
  | .int _, .list _, _, _ => by simp [PyData.eqv]
  | .int _, .tuple _, _, _ => by simp [PyData.eqv]
  | .none, .int _, _, _ => by simp [PyData.eqv]
  | .none, .list _, _, _ => by simp [PyData.eqv]
  | .none, .tuple _, _, _ => by simp [PyData.eqv]
  | .list _, .int _, _, _ => by simp [PyData.eqv]
  | .list _, .none, _, _ => by simp [PyData.eqv]
  | .list _, .tuple _, _, _ => by simp [PyData.eqv]
  | .tuple _, .int _, _, _ => by simp [PyData.eqv]
  | .tuple _, .none, _, _ => by simp [PyData.eqv]
  | .tuple _, .list _, _, _ => by simp [PyData.eqv]
  | .bool _, _, h, _ => nomatch h
  | .str _, _, h, _ => nomatch h
  | .dict _, _, h, _ => nomatch h
  | .int _, .bool _, _, k => nomatch k
  | .int _, .str _, _, k => nomatch k
  | .int _, .dict _, _, k => nomatch k
  | .none, .bool _, _, k => nomatch k
  | .none, .str _, _, k => nomatch k
  | .none, .dict _, _, k => nomatch k
  | .list _, .bool _, _, k => nomatch k
  | .list _, .str _, _, k => nomatch k
  | .list _, .dict _, _, k => nomatch k
  | .tuple _, .bool _, _, k => nomatch k
  | .tuple _, .str _, _, k => nomatch k
  | .tuple _, .dict _, _, k => nomatch k
theorem plAll_eqv : ∀ xs ys : List D, plAll xs = true → plAll ys = true → (PyData.eqvAll xs ys = true ↔ xs = ys)
  | [], [], _, _ => by simp [PyData.eqvAll]
  | [], _ :: _, _, _ => by simp [PyData.eqvAll]
  | _ :: _, [], _, _ => by simp [PyData.eqvAll]
  | x :: xs, y :: ys, h, k => by
    have h' : plD x = true ∧ plAll xs = true := by simpa [plAll] using h
    have k' : plD y = true ∧ plAll ys = true := by simpa [plAll] using k
    rw [PyData.eqvAll, Bool.and_eq_true, pl_eqv x y h'.1 k'.1, plAll_eqv xs ys h'.2 k'.2]
    simp
end
theorem plAll_iff {xs : List D} : plAll xs = true ↔ ∀ x ∈ xs, plD x = true := by
  induction xs with
  | nil => simp [plAll]
  | cons x xs ih => simp [plAll, ih]
theorem depthAll_le {xs : List D} {n : Nat} : PyData.depthAll xs ≤ n ↔ ∀ x ∈ xs, PyData.depth x ≤ n := by
  induction xs with
  | nil => simp [PyData.depthAll]
  | cons x xs ih => simp [PyData.depthAll, Nat.max_le, ih]
theorem shaped_pl {d : D} (h : plD d = true) (k : PyData.depth d ≤ 64) : SeqAt.shaped d = true := by
  unfold SeqAt.shaped
  rw [pl_lay d h, decide_eq_true k]; rfl
theorem eqv_same {d e : D} (h : plD d = true) (k : plD e = true) (q : d = e) : PyData.eqv d e = true := (pl_eqv d e h k).mpr q
theorem eqv_other {d e : D} (h : plD d = true) (k : plD e = true) (q : d ≠ e) : PyData.eqv d e = false := by
  cases z : PyData.eqv d e with
  | false => rfl
  | true => exact absurd ((pl_eqv d e h k).mp z) q
theorem plAll_ints (xs : List Int) : plAll (xs.map PyData.int) = true := plAll_iff.mpr fun x hx => by
  obtain ⟨i, _, rfl⟩ := List.mem_map.mp hx
  rfl
theorem map_int_inj {xs ys : List Int} : xs.map PyData.int = ys.map PyData.int ↔ xs = ys := by
  constructor
  · intro h
    exact List.map_inj_right (fun a b e => by cases e; rfl) |>.mp h
  · intro h; rw [h]
theorem depth_ints (xs : List Int) : PyData.depthAll (xs.map PyData.int) ≤ 0 := depthAll_le.mpr fun x hx => by
  obtain ⟨i, _, rfl⟩ := List.mem_map.mp hx
  exact Nat.le_refl _
/-! ### slices -/
theorem sIx_some (n d : Nat) (v : Int) : HT.sIx n d (some v) = if v < 0 then (v + (n : Int)).toNat else min v.toNat n := rfl
theorem cut_init {xs : List D} : cutD xs none (some (-1)) = xs.dropLast := by
  unfold cutD
  rw [sIx_some, HT.sIx_none, List.drop_zero, if_pos (by omega), List.dropLast_eq_take]
  congr 1
  omega
theorem cut_tail {xs : List D} : cutD xs (some 1) none = xs.drop 1 := by
  unfold cutD
  rw [sIx_some, HT.sIx_none, if_neg (by omega)]
  by_cases h : xs = []
  · subst h; rfl
  · have hp := List.length_pos_iff.mpr h
    have e : min (Int.toNat 1) xs.length = 1 := by simp; omega
    rw [e, List.take_of_length_le (by rw [List.length_drop]; omega)]
theorem cut_take {xs : List D} {m : Int} (h : 0 ≤ m) : cutD xs none (some m) = xs.take m.toNat := by
  unfold cutD
  rw [sIx_some, HT.sIx_none, if_neg (by omega), List.drop_zero, Nat.sub_zero]
  by_cases z : m.toNat ≤ xs.length
  · rw [Nat.min_eq_left z]
  · rw [Nat.min_eq_right (by omega), List.take_of_length_le (Nat.le_refl _), List.take_of_length_le (by omega)]
end VL

set_option Elab.async false
set_option linter.all false
set_option maxRecDepth 1000000
set_option maxHeartbeats 8000000
namespace VL
open PySem PySem.Spec PyProof.Rows L2 HD
/-! ### power_by -/
theorem wit_pow (D : VEnds) (p r : Nat) (hp : 2 ≤ p) (hs : p < 4294967296) : ∀ (k e b f : Nat), e < k → f < p → b < 18446744073709551616 → f * b ^ e % p = r → (∀ b' : Nat, D.nx [.fr (.int b'), .fr (.int 0), .fr (.int p), .fr (.int r)]) →
    wit rd_power_by_w1c rd_power_by_w1b D k [.fr (.int b), .fr (.int e), .fr (.int p), .fr (.int f)] := by
  intro k
  induction k with
  | zero => intro e b f h; omega
  | succ k ih =>
    intro e b f h hf hb hr hD
    rw [wit_succ]
    generalize hW : wit rd_power_by_w1c rd_power_by_w1b D k = W
    simp only [↓rd_power_by_w1c, ↓rd_power_by_w1b, ↓vSeq, ↓vPar, ↓vPar3, ↓vSet, ↓vSetO, ↓vAsg, ↓vAug, ↓vAppend, ↓vExt, ↓vUnp, ↓vFz, ↓vRet, ↓vRetN, ↓vDrop, ↓vIfS, ↓vNext, ↓vBrk, ↓vCnt, ↓vNever, ↓vForS, ↓vC, ↓vVar, ↓vTup, ↓vOf, ↓vBin, ↓vBinL, ↓vBinR, ↓vUn, ↓vCall, ↓vCallO, ↓vCallIO, ↓vCallSC, ↓vLookA, ↓vB, ↓vTru, ↓vTruO, ↓vAnd, ↓vOr, ↓vNot, ↓vAndV, ↓vOrV, ↓vNotV, ↓vIf, ↓vChain, ↓vNil, ↓vCons, ↓vSl, ↓vSlL, ↓vP0, ↓vP1, ↓vRevT, ↓vRevL, ↓vRevLL, ↓vBits, ↓vPop, ↓vLc, ↓vTurn, ↓vYes, ↓gN, ↓gT, ↓gsC, ↓gs0, ↓gSet, ↓wL, ↓wT, ↓wR1, ↓wR2, ↓d2, ↓d20, ↓dAdd, ↓dMul, ↓dEq, ↓dNe, ↓dIsN, ↓dNotN, ↓isN, ↓dNeg, ↓dIx, ↓dInI, ↓dSl, ↓truD, ↓cLen, ↓cAbs, ↓cMax2, ↓cMin2, ↓cInt, ↓cTup, ↓cLst, ↓sv, ↓List.getD_cons_zero, ↓List.getD_cons_succ, ↓List.set_cons_zero, ↓List.set_cons_succ, ↓vxSeq, ↓vxIf, ↓vxRaise, ↓vxRet, ↓vxAsg, ↓vxCall, ↓vReason, ↓vEqS, ↓vIsi, ↓wR3, ↓wZip, ↓vSetDk, ↓vDkIn, ↓vDkPut, ↓vParE, ↓gL, ↓vxDrop, ↓cSrt, ↓cSum, ↓cMinD, ↓cAnyI, ↓vLenSet, ↓vLc2]
    by_cases e0 : e = 0
    · subst e0
      have : r = f := by rw [← hr, Nat.pow_zero, Nat.mul_one, Nat.mod_eq_of_lt hf]
      subst this
      simpa using hD b
    · have t0 : (!((e : Int) == 0)) = true := by simp; omega
      have e1 : ((e : Int) != 0) = true := by simp; omega
      have hm : ((e : Int)).fmod 2 = ((e % 2 : Nat) : Int) := by rw [fmod_pos (by omega)]; omega
      have hd : ((e : Int)).fdiv 2 = ((e / 2 : Nat) : Int) := by rw [fdiv_pos (by omega)]; omega
      have hq : ∀ a : Nat, ((a : Int)).fmod (p : Int) = ((a % p : Nat) : Int) := fun a => by rw [fmod_pos (by omega), Int.natCast_emod]
      have key : ∀ f' : Nat, f' < p → f' * (b * b % p) ^ (e / 2) % p = r → W [.fr (.int ((b * b % p : Nat) : Int)), .fr (.int ((e / 2 : Nat) : Int)), .fr (.int p), .fr (.int f')] := fun f' h1 h2 => by
        rw [← hW]
        exact ih (e / 2) (b * b % p) f' (by omega) h1 (by have := Nat.mod_lt (b * b) (show 0 < p by omega); omega) h2 hD
      have pw : ∀ g : Nat, g * (b * b % p) ^ (e / 2) % p = g * (b * b) ^ (e / 2) % p := fun g => by
        rw [Nat.mul_mod, ← Nat.pow_mod, ← Nat.mul_mod]
      rw [show ((b : Int) * (b : Int)) = ((b * b : Nat) : Int) by rw [Int.natCast_mul]]
      simp only [hm, hd, hq]
      have bb : (b * b) ^ (e / 2) = b ^ (2 * (e / 2)) := by rw [Nat.pow_mul, Nat.pow_two]
      have z0 : (((0 : Nat) : Int) != 0) = false := by decide
      have z1 : (((1 : Nat) : Int) != 0) = true := by decide
      rcases Nat.mod_two_eq_zero_or_one e with z | z
      · simp only [z, e1, z0]
        refine ⟨by omega, mul_small ⟨by omega, by omega⟩, by omega, div_small (by omega) ⟨by omega, by omega⟩, key f hf ?_⟩
        rw [pw, bb, ← hr]
        congr 3; omega
      · simp only [z, e1, z1]
        refine ⟨by omega, mul_small ⟨by omega, by omega⟩, by omega, mul_small ⟨by omega, by omega⟩, by omega, div_small (by omega) ⟨by omega, by omega⟩, ?_⟩
        rw [show ((f : Int) * (b : Int)) = ((f * b : Nat) : Int) by rw [Int.natCast_mul], hq]
        refine key _ (Nat.mod_lt _ (by omega)) ?_
        rw [Nat.mul_mod, Nat.mod_mod, ← Nat.mul_mod, pw, bb, ← hr]
        have : b ^ e = b * b ^ (2 * (e / 2)) := by
          rw [← Nat.pow_succ']; congr 1; omega
        rw [this]; congr 1; grind
theorem hq_power_by (ds : List D) (Q : D → Prop) (h : sp_power_by ds Q) : rd_power_by { nx := fun _ => Q .none, rt := fun d _ => Q d } (ev0 ["number", "power", "prime", "found"] ds) := by
  obtain ⟨b, e, p, rfl, hp, hs, hb, h⟩ := h
  show rd_power_by _ [.fr (.int b), .fr (.int e), .fr (.int p), .un]
  simp only [↓rd_power_by, ↓vSeq, ↓vPar, ↓vPar3, ↓vSet, ↓vSetO, ↓vAsg, ↓vAug, ↓vAppend, ↓vExt, ↓vUnp, ↓vFz, ↓vRet, ↓vRetN, ↓vDrop, ↓vIfS, ↓vNext, ↓vBrk, ↓vCnt, ↓vNever, ↓vForS, ↓vC, ↓vVar, ↓vTup, ↓vOf, ↓vBin, ↓vBinL, ↓vBinR, ↓vUn, ↓vCall, ↓vCallO, ↓vCallIO, ↓vCallSC, ↓vLookA, ↓vB, ↓vTru, ↓vTruO, ↓vAnd, ↓vOr, ↓vNot, ↓vAndV, ↓vOrV, ↓vNotV, ↓vIf, ↓vChain, ↓vNil, ↓vCons, ↓vSl, ↓vSlL, ↓vP0, ↓vP1, ↓vRevT, ↓vRevL, ↓vRevLL, ↓vBits, ↓vPop, ↓vLc, ↓vTurn, ↓vYes, ↓gN, ↓gT, ↓gsC, ↓gs0, ↓gSet, ↓wL, ↓wT, ↓wR1, ↓wR2, ↓d2, ↓d20, ↓dAdd, ↓dMul, ↓dEq, ↓dNe, ↓dIsN, ↓dNotN, ↓isN, ↓dNeg, ↓dIx, ↓dInI, ↓dSl, ↓truD, ↓cLen, ↓cAbs, ↓cMax2, ↓cMin2, ↓cInt, ↓cTup, ↓cLst, ↓sv, ↓List.getD_cons_zero, ↓List.getD_cons_succ, ↓List.set_cons_zero, ↓List.set_cons_succ, ↓vxSeq, ↓vxIf, ↓vxRaise, ↓vxRet, ↓vxAsg, ↓vxCall, ↓vReason, ↓vEqS, ↓vIsi, ↓wR3, ↓wZip, ↓vSetDk, ↓vDkIn, ↓vDkPut, ↓vParE, ↓gL, ↓vxDrop, ↓cSrt, ↓cSum, ↓cMinD, ↓cAnyI, ↓vLenSet, ↓vLc2, vWhile]
  refine ⟨e + 1, wit_pow _ p (b ^ e % p) hp hs (e + 1) e b 1 (by omega) (by omega) hb (by rw [Nat.one_mul]) fun b' => ?_⟩
  simpa only [↓vSeq, ↓vPar, ↓vPar3, ↓vSet, ↓vSetO, ↓vAsg, ↓vAug, ↓vAppend, ↓vExt, ↓vUnp, ↓vFz, ↓vRet, ↓vRetN, ↓vDrop, ↓vIfS, ↓vNext, ↓vBrk, ↓vCnt, ↓vNever, ↓vForS, ↓vC, ↓vVar, ↓vTup, ↓vOf, ↓vBin, ↓vBinL, ↓vBinR, ↓vUn, ↓vCall, ↓vCallO, ↓vCallIO, ↓vCallSC, ↓vLookA, ↓vB, ↓vTru, ↓vTruO, ↓vAnd, ↓vOr, ↓vNot, ↓vAndV, ↓vOrV, ↓vNotV, ↓vIf, ↓vChain, ↓vNil, ↓vCons, ↓vSl, ↓vSlL, ↓vP0, ↓vP1, ↓vRevT, ↓vRevL, ↓vRevLL, ↓vBits, ↓vPop, ↓vLc, ↓vTurn, ↓vYes, ↓gN, ↓gT, ↓gsC, ↓gs0, ↓gSet, ↓wL, ↓wT, ↓wR1, ↓wR2, ↓d2, ↓d20, ↓dAdd, ↓dMul, ↓dEq, ↓dNe, ↓dIsN, ↓dNotN, ↓isN, ↓dNeg, ↓dIx, ↓dInI, ↓dSl, ↓truD, ↓cLen, ↓cAbs, ↓cMax2, ↓cMin2, ↓cInt, ↓cTup, ↓cLst, ↓sv, ↓List.getD_cons_zero, ↓List.getD_cons_succ, ↓List.set_cons_zero, ↓List.set_cons_succ, ↓vxSeq, ↓vxIf, ↓vxRaise, ↓vxRet, ↓vxAsg, ↓vxCall, ↓vReason, ↓vEqS, ↓vIsi, ↓wR3, ↓wZip, ↓vSetDk, ↓vDkIn, ↓vDkPut, ↓vParE, ↓gL, ↓vxDrop, ↓cSrt, ↓cSum, ↓cMinD, ↓cAnyI, ↓vLenSet, ↓vLc2] using h

/-! ### factors_of -/
theorem wit_fac2 (D : VEnds) (p : Nat) (hp : 2 ≤ p) (hs : p ≤ 4294967296) (fd : SV) : ∀ (k m e : Nat), m < k → 1 ≤ m → (∀ e' m' : Nat, e ≤ e' → m = p ^ (e' - e) * m' → 1 ≤ m' → ¬ p ∣ m' → D.nx [.fr (.int m'), fd, .fr (.int p), .fr (.int e')]) →
    wit rd_factors_of_w2c rd_factors_of_w2b D k [.fr (.int m), fd, .fr (.int p), .fr (.int e)] := by
  intro k
  induction k with
  | zero => intro m e h; omega
  | succ k ih =>
    intro m e h h1 hD
    rw [wit_succ]
    generalize hW : wit rd_factors_of_w2c rd_factors_of_w2b D k = W
    simp only [↓rd_factors_of_w2c, ↓rd_factors_of_w2b, ↓vSeq, ↓vPar, ↓vPar3, ↓vSet, ↓vSetO, ↓vAsg, ↓vAug, ↓vAppend, ↓vExt, ↓vUnp, ↓vFz, ↓vRet, ↓vRetN, ↓vDrop, ↓vIfS, ↓vNext, ↓vBrk, ↓vCnt, ↓vNever, ↓vForS, ↓vC, ↓vVar, ↓vTup, ↓vOf, ↓vBin, ↓vBinL, ↓vBinR, ↓vUn, ↓vCall, ↓vCallO, ↓vCallIO, ↓vCallSC, ↓vLookA, ↓vB, ↓vTru, ↓vTruO, ↓vAnd, ↓vOr, ↓vNot, ↓vAndV, ↓vOrV, ↓vNotV, ↓vIf, ↓vChain, ↓vNil, ↓vCons, ↓vSl, ↓vSlL, ↓vP0, ↓vP1, ↓vRevT, ↓vRevL, ↓vRevLL, ↓vBits, ↓vPop, ↓vLc, ↓vTurn, ↓vYes, ↓gN, ↓gT, ↓gsC, ↓gs0, ↓gSet, ↓wL, ↓wT, ↓wR1, ↓wR2, ↓d2, ↓d20, ↓dAdd, ↓dMul, ↓dEq, ↓dNe, ↓dIsN, ↓dNotN, ↓isN, ↓dNeg, ↓dIx, ↓dInI, ↓dSl, ↓truD, ↓cLen, ↓cAbs, ↓cMax2, ↓cMin2, ↓cInt, ↓cTup, ↓cLst, ↓sv, ↓List.getD_cons_zero, ↓List.getD_cons_succ, ↓List.set_cons_zero, ↓List.set_cons_succ, ↓vxSeq, ↓vxIf, ↓vxRaise, ↓vxRet, ↓vxAsg, ↓vxCall, ↓vReason, ↓vEqS, ↓vIsi, ↓wR3, ↓wZip, ↓vSetDk, ↓vDkIn, ↓vDkPut, ↓vParE, ↓gL, ↓vxDrop, ↓cSrt, ↓cSum, ↓cMinD, ↓cAnyI, ↓vLenSet, ↓vLc2]
    have hm : ((m : Int)).fmod (p : Int) = ((m % p : Nat) : Int) := by rw [fmod_pos (by omega), Int.natCast_emod]
    have hd : ((m : Int)).fdiv (p : Int) = ((m / p : Nat) : Int) := by rw [fdiv_pos (by omega), Int.natCast_ediv]
    rw [hm, hd]
    by_cases d : p ∣ m
    · obtain ⟨c, rfl⟩ := d
      have e1 : decide (((p * c % p : Nat) : Int) = 0) = true := by rw [Nat.mul_mod_right]; rfl
      have c1 : 1 ≤ c := Nat.one_le_iff_ne_zero.mpr fun z => by subst z; omega
      refine ⟨by omega, ?_⟩
      simp only [e1]
      refine ⟨div_small (by omega) ⟨by omega, by omega⟩, ?_⟩
      rw [Nat.mul_div_cancel_left c (by omega), ← hW]
      have e2 : ((e : Int) + 1) = ((e + 1 : Nat) : Int) := by omega
      rw [e2]
      have lt : c < p * c := by
        have := Nat.mul_le_mul_right c hp; omega
      refine ih c (e + 1) (by omega) c1 fun e' m' h2 h3 h4 h5 => hD e' m' (by omega) ?_ h4 h5
      have : e' - e = (e' - (e + 1)) + 1 := by omega
      rw [this, Nat.pow_succ, h3]; grind
    · have n0 : m % p ≠ 0 := fun z => d (Nat.dvd_of_mod_eq_zero z)
      have e1 : decide (((m % p : Nat) : Int) = 0) = false := decide_eq_false (by omega)
      refine ⟨by omega, ?_⟩
      simp only [e1]
      exact hD e m (Nat.le_refl e) (by rw [Nat.sub_self, Nat.pow_zero, Nat.one_mul]) h1 d
theorem dvd_pow' (p : Nat) {e : Nat} (h : e ≠ 0) : p ∣ p ^ e := by
  obtain ⟨f, rfl⟩ : ∃ f, e = f + 1 := ⟨e - 1, by omega⟩
  rw [Nat.pow_succ]; exact Nat.dvd_mul_left p _
theorem sq_le_of {p N : Nat} (h : p * p ≤ N) (hN : N < 18446744073709551616) : p < 4294967296 := by
  rcases Nat.lt_or_ge p 4294967296 with z | z
  · exact z
  · have := Nat.mul_le_mul z z; omega
theorem wit_fac1 (D : VEnds) (n : Nat) (hn : n < 18446744073709551616)
    (hD : ∀ (m p : Nat) (acc : List (Nat × Nat)) (x : SV), 1 ≤ m → 2 ≤ p → m < p * p → NT.NoD m p → (∀ l, NT.FacL p m l → NT.FacL 2 n (acc ++ l)) → acc.length ≤ 64 → D.nx [.fr (.int m), .ow (acc.map facD), .fr (.int p), x]) :
    ∀ (k m p : Nat) (acc : List (Nat × Nat)) (x : SV), m < p + k → 1 ≤ m → 2 ≤ p → p ≤ 4294967296 → m * 2 ^ acc.length ≤ n → NT.NoD m p → (∀ l, NT.FacL p m l → NT.FacL 2 n (acc ++ l)) →
      wit rd_factors_of_w1c rd_factors_of_w1b D (k + 1) [.fr (.int m), .ow (acc.map facD), .fr (.int p), x] := by
  have len : ∀ (m a : Nat), 1 ≤ m → m * 2 ^ a ≤ n → a ≤ 64 := fun m a h1 h2 => by
    rcases Nat.lt_or_ge a 65 with z | z
    · omega
    · have h3 : 2 ^ 65 ≤ 2 ^ a := Nat.pow_le_pow_right (by omega) z
      have h4 : 1 * 2 ^ a ≤ m * 2 ^ a := Nat.mul_le_mul_right _ h1
      omega
  intro k
  induction k with
  | zero =>
    intro m p acc x h h1 h2 hs hl nd hf
    have lt : m < p * p := by
      have := Nat.mul_le_mul_left p h2; omega
    rw [wit_succ]
    simp only [↓rd_factors_of_w1c, ↓rd_factors_of_w1b, ↓vSeq, ↓vPar, ↓vPar3, ↓vSet, ↓vSetO, ↓vAsg, ↓vAug, ↓vAppend, ↓vExt, ↓vUnp, ↓vFz, ↓vRet, ↓vRetN, ↓vDrop, ↓vIfS, ↓vNext, ↓vBrk, ↓vCnt, ↓vNever, ↓vForS, ↓vC, ↓vVar, ↓vTup, ↓vOf, ↓vBin, ↓vBinL, ↓vBinR, ↓vUn, ↓vCall, ↓vCallO, ↓vCallIO, ↓vCallSC, ↓vLookA, ↓vB, ↓vTru, ↓vTruO, ↓vAnd, ↓vOr, ↓vNot, ↓vAndV, ↓vOrV, ↓vNotV, ↓vIf, ↓vChain, ↓vNil, ↓vCons, ↓vSl, ↓vSlL, ↓vP0, ↓vP1, ↓vRevT, ↓vRevL, ↓vRevLL, ↓vBits, ↓vPop, ↓vLc, ↓vTurn, ↓vYes, ↓gN, ↓gT, ↓gsC, ↓gs0, ↓gSet, ↓wL, ↓wT, ↓wR1, ↓wR2, ↓d2, ↓d20, ↓dAdd, ↓dMul, ↓dEq, ↓dNe, ↓dIsN, ↓dNotN, ↓isN, ↓dNeg, ↓dIx, ↓dInI, ↓dSl, ↓truD, ↓cLen, ↓cAbs, ↓cMax2, ↓cMin2, ↓cInt, ↓cTup, ↓cLst, ↓sv, ↓List.getD_cons_zero, ↓List.getD_cons_succ, ↓List.set_cons_zero, ↓List.set_cons_succ, ↓vxSeq, ↓vxIf, ↓vxRaise, ↓vxRet, ↓vxAsg, ↓vxCall, ↓vReason, ↓vEqS, ↓vIsi, ↓wR3, ↓wZip, ↓vSetDk, ↓vDkIn, ↓vDkPut, ↓vParE, ↓gL, ↓vxDrop, ↓cSrt, ↓cSum, ↓cMinD, ↓cAnyI, ↓vLenSet, ↓vLc2]
    have e1 : decide ((p : Int) * p ≤ m) = false := decide_eq_false (by rw [← Int.natCast_mul]; omega)
    simp only [e1]
    exact ⟨mul_small ⟨by omega, by omega⟩, hD m p acc x h1 h2 lt nd hf (len _ _ h1 hl)⟩
  | succ k ih =>
    intro m p acc x h h1 h2 hs hl nd hf
    rw [wit_succ]
    generalize hW : wit rd_factors_of_w1c rd_factors_of_w1b D (k + 1) = W
    simp only [↓rd_factors_of_w1c, ↓rd_factors_of_w1b, ↓vSeq, ↓vPar, ↓vPar3, ↓vSet, ↓vSetO, ↓vAsg, ↓vAug, ↓vAppend, ↓vExt, ↓vUnp, ↓vFz, ↓vRet, ↓vRetN, ↓vDrop, ↓vIfS, ↓vNext, ↓vBrk, ↓vCnt, ↓vNever, ↓vForS, ↓vC, ↓vVar, ↓vTup, ↓vOf, ↓vBin, ↓vBinL, ↓vBinR, ↓vUn, ↓vCall, ↓vCallO, ↓vCallIO, ↓vCallSC, ↓vLookA, ↓vB, ↓vTru, ↓vTruO, ↓vAnd, ↓vOr, ↓vNot, ↓vAndV, ↓vOrV, ↓vNotV, ↓vIf, ↓vChain, ↓vNil, ↓vCons, ↓vSl, ↓vSlL, ↓vP0, ↓vP1, ↓vRevT, ↓vRevL, ↓vRevLL, ↓vBits, ↓vPop, ↓vLc, ↓vTurn, ↓vYes, ↓gN, ↓gT, ↓gsC, ↓gs0, ↓gSet, ↓wL, ↓wT, ↓wR1, ↓wR2, ↓d2, ↓d20, ↓dAdd, ↓dMul, ↓dEq, ↓dNe, ↓dIsN, ↓dNotN, ↓isN, ↓dNeg, ↓dIx, ↓dInI, ↓dSl, ↓truD, ↓cLen, ↓cAbs, ↓cMax2, ↓cMin2, ↓cInt, ↓cTup, ↓cLst, ↓sv, ↓List.getD_cons_zero, ↓List.getD_cons_succ, ↓List.set_cons_zero, ↓List.set_cons_succ, ↓vxSeq, ↓vxIf, ↓vxRaise, ↓vxRet, ↓vxAsg, ↓vxCall, ↓vReason, ↓vEqS, ↓vIsi, ↓wR3, ↓wZip, ↓vSetDk, ↓vDkIn, ↓vDkPut, ↓vParE, ↓gL, ↓vxDrop, ↓cSrt, ↓cSum, ↓cMinD, ↓cAnyI, ↓vLenSet, ↓vLc2]
    have mn : m ≤ n := Nat.le_trans (Nat.le_mul_of_pos_right m (Nat.pow_pos (by omega))) hl
    rcases Nat.lt_or_ge m (p * p) with lt | ge
    · have e1 : decide ((p : Int) * p ≤ m) = false := decide_eq_false (by rw [← Int.natCast_mul]; omega)
      simp only [e1]
      exact ⟨mul_small ⟨by omega, by omega⟩, hD m p acc x h1 h2 lt nd hf (len _ _ h1 hl)⟩
    · have e1 : decide ((p : Int) * p ≤ m) = true := decide_eq_true (by rw [← Int.natCast_mul]; omega)
      simp only [e1, vWhile]
      have ps : p < 4294967296 := sq_le_of ge (by omega)
      refine ⟨mul_small ⟨by omega, by omega⟩, m + 1, wit_fac2 _ p h2 hs _ (m + 1) m 0 (by omega) h1 fun e m' h3 h4 h5 h6 => ?_⟩
      rw [Nat.sub_zero] at h4
      have ec : ((p : Int) + 1) = ((p + 1 : Nat) : Int) := by omega
      by_cases e0 : e = 0
      · subst e0
        rw [Nat.pow_zero, Nat.one_mul] at h4
        subst h4
        simp only [↓vSeq, ↓vPar, ↓vPar3, ↓vSet, ↓vSetO, ↓vAsg, ↓vAug, ↓vAppend, ↓vExt, ↓vUnp, ↓vFz, ↓vRet, ↓vRetN, ↓vDrop, ↓vIfS, ↓vNext, ↓vBrk, ↓vCnt, ↓vNever, ↓vForS, ↓vC, ↓vVar, ↓vTup, ↓vOf, ↓vBin, ↓vBinL, ↓vBinR, ↓vUn, ↓vCall, ↓vCallO, ↓vCallIO, ↓vCallSC, ↓vLookA, ↓vB, ↓vTru, ↓vTruO, ↓vAnd, ↓vOr, ↓vNot, ↓vAndV, ↓vOrV, ↓vNotV, ↓vIf, ↓vChain, ↓vNil, ↓vCons, ↓vSl, ↓vSlL, ↓vP0, ↓vP1, ↓vRevT, ↓vRevL, ↓vRevLL, ↓vBits, ↓vPop, ↓vLc, ↓vTurn, ↓vYes, ↓gN, ↓gT, ↓gsC, ↓gs0, ↓gSet, ↓wL, ↓wT, ↓wR1, ↓wR2, ↓d2, ↓d20, ↓dAdd, ↓dMul, ↓dEq, ↓dNe, ↓dIsN, ↓dNotN, ↓isN, ↓dNeg, ↓dIx, ↓dInI, ↓dSl, ↓truD, ↓cLen, ↓cAbs, ↓cMax2, ↓cMin2, ↓cInt, ↓cTup, ↓cLst, ↓sv, ↓List.getD_cons_zero, ↓List.getD_cons_succ, ↓List.set_cons_zero, ↓List.set_cons_succ, ↓vxSeq, ↓vxIf, ↓vxRaise, ↓vxRet, ↓vxAsg, ↓vxCall, ↓vReason, ↓vEqS, ↓vIsi, ↓wR3, ↓wZip, ↓vSetDk, ↓vDkIn, ↓vDkPut, ↓vParE, ↓gL, ↓vxDrop, ↓cSrt, ↓cSum, ↓cMinD, ↓cAnyI, ↓vLenSet, ↓vLc2, ec]
        have t0 : (((0 : Nat) : Int) != 0) = false := by decide
        simp only [t0]
        rw [← hW]
        refine ih m (p + 1) acc _ (by omega) h1 (by omega) (by omega) hl (nd.succ h6) fun l hl' => hf l ?_
        exact NT.FacL.le (by omega) hl'
      · have t0 : ((e : Int) != 0) = true := by simp; omega
        simp only [↓vSeq, ↓vPar, ↓vPar3, ↓vSet, ↓vSetO, ↓vAsg, ↓vAug, ↓vAppend, ↓vExt, ↓vUnp, ↓vFz, ↓vRet, ↓vRetN, ↓vDrop, ↓vIfS, ↓vNext, ↓vBrk, ↓vCnt, ↓vNever, ↓vForS, ↓vC, ↓vVar, ↓vTup, ↓vOf, ↓vBin, ↓vBinL, ↓vBinR, ↓vUn, ↓vCall, ↓vCallO, ↓vCallIO, ↓vCallSC, ↓vLookA, ↓vB, ↓vTru, ↓vTruO, ↓vAnd, ↓vOr, ↓vNot, ↓vAndV, ↓vOrV, ↓vNotV, ↓vIf, ↓vChain, ↓vNil, ↓vCons, ↓vSl, ↓vSlL, ↓vP0, ↓vP1, ↓vRevT, ↓vRevL, ↓vRevLL, ↓vBits, ↓vPop, ↓vLc, ↓vTurn, ↓vYes, ↓gN, ↓gT, ↓gsC, ↓gs0, ↓gSet, ↓wL, ↓wT, ↓wR1, ↓wR2, ↓d2, ↓d20, ↓dAdd, ↓dMul, ↓dEq, ↓dNe, ↓dIsN, ↓dNotN, ↓isN, ↓dNeg, ↓dIx, ↓dInI, ↓dSl, ↓truD, ↓cLen, ↓cAbs, ↓cMax2, ↓cMin2, ↓cInt, ↓cTup, ↓cLst, ↓sv, ↓List.getD_cons_zero, ↓List.getD_cons_succ, ↓List.set_cons_zero, ↓List.set_cons_succ, ↓vxSeq, ↓vxIf, ↓vxRaise, ↓vxRet, ↓vxAsg, ↓vxCall, ↓vReason, ↓vEqS, ↓vIsi, ↓wR3, ↓wZip, ↓vSetDk, ↓vDkIn, ↓vDkPut, ↓vParE, ↓gL, ↓vxDrop, ↓cSrt, ↓cSum, ↓cMinD, ↓cAnyI, ↓vLenSet, ↓vLc2, ec, t0]
        have pd : p ∣ m := by
          rw [h4]
          exact Nat.dvd_trans (dvd_pow' p e0) ⟨m', rfl⟩
        have pr := nd.pr_dvd h2 pd
        have hl2 : m' * 2 ^ (acc ++ [(p, e)]).length ≤ n := by
          rw [List.length_append, List.length_singleton, Nat.pow_succ]
          have q1 : 2 ≤ p ^ e := by
            have : p ^ 1 ≤ p ^ e := Nat.pow_le_pow_right (by omega) (by omega)
            rw [Nat.pow_one] at this; omega
          have q2 : 2 * m' * 2 ^ acc.length ≤ p ^ e * m' * 2 ^ acc.length := Nat.mul_le_mul_right _ (Nat.mul_le_mul_right _ q1)
          rw [← h4] at q2
          have q3 : m' * (2 ^ acc.length * 2) = 2 * m' * 2 ^ acc.length := by grind
          omega
        have hlen := len _ _ h5 hl2
        rw [List.length_append, List.length_singleton] at hlen
        refine ⟨by rw [List.length_map, sizeLine_eq]; omega, ?_⟩
        have eq : acc.map facD ++ [.tuple [.int p, .int e]] = (acc ++ [(p, e)]).map facD := by rw [List.map_append]; rfl
        rw [eq, ← hW]
        have md : m' ∣ m := ⟨p ^ e, by rw [h4, Nat.mul_comm]⟩
        have mle : m' ≤ m := Nat.le_of_dvd (by omega) md
        refine ih m' (p + 1) _ _ (by omega) h5 (by omega) (by omega) hl2 ((nd.div md).succ h6) fun l hl' => ?_
        rw [List.append_assoc]
        exact hf _ ⟨Nat.le_refl p, pr, by omega, m', h4, h6, hl'⟩
theorem hq_factors_of (ds : List D) (Q : D → Prop) (h : sp_factors_of ds Q) : rd_factors_of { nx := fun _ => Q .none, rt := fun d _ => Q d } (ev0 ["number", "found", "prime", "power"] ds) := by
  obtain ⟨n, rfl, h1, hn, h⟩ := h
  show rd_factors_of _ [.fr (.int n), .un, .un, .un]
  simp only [↓rd_factors_of, ↓vSeq, ↓vPar, ↓vPar3, ↓vSet, ↓vSetO, ↓vAsg, ↓vAug, ↓vAppend, ↓vExt, ↓vUnp, ↓vFz, ↓vRet, ↓vRetN, ↓vDrop, ↓vIfS, ↓vNext, ↓vBrk, ↓vCnt, ↓vNever, ↓vForS, ↓vC, ↓vVar, ↓vTup, ↓vOf, ↓vBin, ↓vBinL, ↓vBinR, ↓vUn, ↓vCall, ↓vCallO, ↓vCallIO, ↓vCallSC, ↓vLookA, ↓vB, ↓vTru, ↓vTruO, ↓vAnd, ↓vOr, ↓vNot, ↓vAndV, ↓vOrV, ↓vNotV, ↓vIf, ↓vChain, ↓vNil, ↓vCons, ↓vSl, ↓vSlL, ↓vP0, ↓vP1, ↓vRevT, ↓vRevL, ↓vRevLL, ↓vBits, ↓vPop, ↓vLc, ↓vTurn, ↓vYes, ↓gN, ↓gT, ↓gsC, ↓gs0, ↓gSet, ↓wL, ↓wT, ↓wR1, ↓wR2, ↓d2, ↓d20, ↓dAdd, ↓dMul, ↓dEq, ↓dNe, ↓dIsN, ↓dNotN, ↓isN, ↓dNeg, ↓dIx, ↓dInI, ↓dSl, ↓truD, ↓cLen, ↓cAbs, ↓cMax2, ↓cMin2, ↓cInt, ↓cTup, ↓cLst, ↓sv, ↓List.getD_cons_zero, ↓List.getD_cons_succ, ↓List.set_cons_zero, ↓List.set_cons_succ, ↓vxSeq, ↓vxIf, ↓vxRaise, ↓vxRet, ↓vxAsg, ↓vxCall, ↓vReason, ↓vEqS, ↓vIsi, ↓wR3, ↓wZip, ↓vSetDk, ↓vDkIn, ↓vDkPut, ↓vParE, ↓gL, ↓vxDrop, ↓cSrt, ↓cSum, ↓cMinD, ↓cAnyI, ↓vLenSet, ↓vLc2, vWhile]
  refine ⟨n + 1, wit_fac1 _ n hn (fun m p acc x h1 h2 lt nd hf hl => ?_) n n 2 [] _ (by omega) h1 (by omega) (by omega) (by rw [List.length_nil, Nat.pow_zero, Nat.mul_one]; exact Nat.le_refl n) (fun d h1 h2 h3 => by omega) (fun l hl => hl)⟩
  simp only [↓vSeq, ↓vPar, ↓vPar3, ↓vSet, ↓vSetO, ↓vAsg, ↓vAug, ↓vAppend, ↓vExt, ↓vUnp, ↓vFz, ↓vRet, ↓vRetN, ↓vDrop, ↓vIfS, ↓vNext, ↓vBrk, ↓vCnt, ↓vNever, ↓vForS, ↓vC, ↓vVar, ↓vTup, ↓vOf, ↓vBin, ↓vBinL, ↓vBinR, ↓vUn, ↓vCall, ↓vCallO, ↓vCallIO, ↓vCallSC, ↓vLookA, ↓vB, ↓vTru, ↓vTruO, ↓vAnd, ↓vOr, ↓vNot, ↓vAndV, ↓vOrV, ↓vNotV, ↓vIf, ↓vChain, ↓vNil, ↓vCons, ↓vSl, ↓vSlL, ↓vP0, ↓vP1, ↓vRevT, ↓vRevL, ↓vRevLL, ↓vBits, ↓vPop, ↓vLc, ↓vTurn, ↓vYes, ↓gN, ↓gT, ↓gsC, ↓gs0, ↓gSet, ↓wL, ↓wT, ↓wR1, ↓wR2, ↓d2, ↓d20, ↓dAdd, ↓dMul, ↓dEq, ↓dNe, ↓dIsN, ↓dNotN, ↓isN, ↓dNeg, ↓dIx, ↓dInI, ↓dSl, ↓truD, ↓cLen, ↓cAbs, ↓cMax2, ↓cMin2, ↓cInt, ↓cTup, ↓cLst, ↓sv, ↓List.getD_cons_zero, ↓List.getD_cons_succ, ↓List.set_cons_zero, ↓List.set_cons_succ, ↓vxSeq, ↓vxIf, ↓vxRaise, ↓vxRet, ↓vxAsg, ↓vxCall, ↓vReason, ↓vEqS, ↓vIsi, ↓wR3, ↓wZip, ↓vSetDk, ↓vDkIn, ↓vDkPut, ↓vParE, ↓gL, ↓vxDrop, ↓cSrt, ↓cSum, ↓cMinD, ↓cAnyI, ↓vLenSet, ↓vLc2]
  by_cases m1 : m = 1
  · subst m1
    have e1 : decide ((1 : Int) < ((1 : Nat) : Int)) = false := by decide
    simp only [e1]
    exact h _ (by have := hf [] rfl; rwa [List.append_nil] at this)
  · have e1 : decide ((1 : Int) < (m : Int)) = true := decide_eq_true (by omega)
    simp only [e1]
    have pr := nd.pr (by omega) lt
    have pm : p ≤ m := by
      rcases Nat.lt_or_ge m p with z | z
      · exact absurd (Nat.dvd_refl m) (nd m (by omega) z)
      · exact z
    refine ⟨by rw [List.length_map, sizeLine_eq]; simp; omega, ?_⟩
    have eq : acc.map facD ++ [.tuple [.int m, .int 1]] = (acc ++ [(m, 1)]).map facD := by rw [List.map_append]; rfl
    rw [eq]
    exact h _ (hf _ ⟨pm, pr, by omega, 1, by rw [Nat.pow_one, Nat.mul_one], fun z => by have := Nat.le_of_dvd (by omega) z; omega, rfl⟩)

/-! ### prime_squares -/
theorem wit_ps1 (D : VEnds) (p : Nat) (h2 : 2 ≤ p) (hs : p < 4294967296) (a : Nat) (ha : a < p) (hw : a ^ ((p - 1) / 2) % p = p - 1) (x2 x3 x4 : SV) (hD : ∀ b : Nat, 1 ≤ b → b < p → b ^ ((p - 1) / 2) % p = p - 1 → D.nx [.fr (.int p), .fr (.int b), x2, x3, x4]) :
    ∀ (k b : Nat), a < b + k → b ≤ a → 1 ≤ b → wit rd_prime_squares_w1c rd_prime_squares_w1b D (k + 1) [.fr (.int p), .fr (.int b), x2, x3, x4] := by
  intro k
  have hd : ((p : Int) - 1).fdiv 2 = (((p - 1) / 2 : Nat) : Int) := by rw [fdiv_pos (by omega)]; omega
  induction k with
  | zero => intro b h1 h3; omega
  | succ k ih =>
    intro b h1 h3 h4
    rw [wit_succ]
    generalize hW : wit rd_prime_squares_w1c rd_prime_squares_w1b D (k + 1) = W
    simp only [↓rd_prime_squares_w1c, ↓rd_prime_squares_w1b, ↓vSeq, ↓vPar, ↓vPar3, ↓vSet, ↓vSetO, ↓vAsg, ↓vAug, ↓vAppend, ↓vExt, ↓vUnp, ↓vFz, ↓vRet, ↓vRetN, ↓vDrop, ↓vIfS, ↓vNext, ↓vBrk, ↓vCnt, ↓vNever, ↓vForS, ↓vC, ↓vVar, ↓vTup, ↓vOf, ↓vBin, ↓vBinL, ↓vBinR, ↓vUn, ↓vCall, ↓vCallO, ↓vCallIO, ↓vCallSC, ↓vLookA, ↓vB, ↓vTru, ↓vTruO, ↓vAnd, ↓vOr, ↓vNot, ↓vAndV, ↓vOrV, ↓vNotV, ↓vIf, ↓vChain, ↓vNil, ↓vCons, ↓vSl, ↓vSlL, ↓vP0, ↓vP1, ↓vRevT, ↓vRevL, ↓vRevLL, ↓vBits, ↓vPop, ↓vLc, ↓vTurn, ↓vYes, ↓gN, ↓gT, ↓gsC, ↓gs0, ↓gSet, ↓wL, ↓wT, ↓wR1, ↓wR2, ↓d2, ↓d20, ↓dAdd, ↓dMul, ↓dEq, ↓dNe, ↓dIsN, ↓dNotN, ↓isN, ↓dNeg, ↓dIx, ↓dInI, ↓dSl, ↓truD, ↓cLen, ↓cAbs, ↓cMax2, ↓cMin2, ↓cInt, ↓cTup, ↓cLst, ↓sv, ↓List.getD_cons_zero, ↓List.getD_cons_succ, ↓List.set_cons_zero, ↓List.set_cons_succ, ↓vxSeq, ↓vxIf, ↓vxRaise, ↓vxRet, ↓vxAsg, ↓vxCall, ↓vReason, ↓vEqS, ↓vIsi, ↓wR3, ↓wZip, ↓vSetDk, ↓vDkIn, ↓vDkPut, ↓vParE, ↓gL, ↓vxDrop, ↓cSrt, ↓cSum, ↓cMinD, ↓cAnyI, ↓vLenSet, ↓vLc2, hd]
    refine ⟨div_small (by omega) ⟨by omega, by omega⟩, b, (p - 1) / 2, p, rfl, h2, hs, by omega, ?_⟩
    simp only [↓vSeq, ↓vPar, ↓vPar3, ↓vSet, ↓vSetO, ↓vAsg, ↓vAug, ↓vAppend, ↓vExt, ↓vUnp, ↓vFz, ↓vRet, ↓vRetN, ↓vDrop, ↓vIfS, ↓vNext, ↓vBrk, ↓vCnt, ↓vNever, ↓vForS, ↓vC, ↓vVar, ↓vTup, ↓vOf, ↓vBin, ↓vBinL, ↓vBinR, ↓vUn, ↓vCall, ↓vCallO, ↓vCallIO, ↓vCallSC, ↓vLookA, ↓vB, ↓vTru, ↓vTruO, ↓vAnd, ↓vOr, ↓vNot, ↓vAndV, ↓vOrV, ↓vNotV, ↓vIf, ↓vChain, ↓vNil, ↓vCons, ↓vSl, ↓vSlL, ↓vP0, ↓vP1, ↓vRevT, ↓vRevL, ↓vRevLL, ↓vBits, ↓vPop, ↓vLc, ↓vTurn, ↓vYes, ↓gN, ↓gT, ↓gsC, ↓gs0, ↓gSet, ↓wL, ↓wT, ↓wR1, ↓wR2, ↓d2, ↓d20, ↓dAdd, ↓dMul, ↓dEq, ↓dNe, ↓dIsN, ↓dNotN, ↓isN, ↓dNeg, ↓dIx, ↓dInI, ↓dSl, ↓truD, ↓cLen, ↓cAbs, ↓cMax2, ↓cMin2, ↓cInt, ↓cTup, ↓cLst, ↓sv, ↓List.getD_cons_zero, ↓List.getD_cons_succ, ↓List.set_cons_zero, ↓List.set_cons_succ, ↓vxSeq, ↓vxIf, ↓vxRaise, ↓vxRet, ↓vxAsg, ↓vxCall, ↓vReason, ↓vEqS, ↓vIsi, ↓wR3, ↓wZip, ↓vSetDk, ↓vDkIn, ↓vDkPut, ↓vParE, ↓gL, ↓vxDrop, ↓cSrt, ↓cSum, ↓cMinD, ↓cAnyI, ↓vLenSet, ↓vLc2]
    by_cases z : b ^ ((p - 1) / 2) % p = p - 1
    · have e1 : (!decide (((b ^ ((p - 1) / 2) % p : Nat) : Int) = (p : Int) - 1)) = false := by
        rw [decide_eq_true (by omega)]; rfl
      simp only [e1]
      exact hD b h4 (by omega) z
    · have e1 : (!decide (((b ^ ((p - 1) / 2) % p : Nat) : Int) = (p : Int) - 1)) = true := by
        rw [decide_eq_false (by omega)]; rfl
      have ec : ((b : Int) + 1) = ((b + 1 : Nat) : Int) := by omega
      simp only [e1, ec]
      rw [← hW]
      refine ih (b + 1) (by omega) ?_ (by omega)
      rcases Nat.lt_or_ge b a with q | q
      · omega
      · have : b = a := by omega
        subst this; exact absurd hw z
theorem wit_ps2 (D : VEnds) (p : Nat) (h2 : 2 ≤ p) (hs : p < 4294967296) (x1 x4 : SV) (hD : ∀ a b u t : Int, NT.Cn p a b u t → b * b ≤ p → D.nx [.fr (.int p), x1, .fr (.int a), .fr (.int b), x4]) :
    ∀ (k : Nat) (a b u t : Int), b < k → b < 4294967296 → NT.Cn p a b u t → wit rd_prime_squares_w2c rd_prime_squares_w2b D k [.fr (.int p), x1, .fr (.int a), .fr (.int b), x4] := by
  intro k
  induction k with
  | zero => intro a b u t h1 _ c; have := c.hb; omega
  | succ k ih =>
    intro a b u t h1 hb c
    rw [wit_succ]
    generalize hW : wit rd_prime_squares_w2c rd_prime_squares_w2b D k = W
    simp only [↓rd_prime_squares_w2c, ↓rd_prime_squares_w2b, ↓vSeq, ↓vPar, ↓vPar3, ↓vSet, ↓vSetO, ↓vAsg, ↓vAug, ↓vAppend, ↓vExt, ↓vUnp, ↓vFz, ↓vRet, ↓vRetN, ↓vDrop, ↓vIfS, ↓vNext, ↓vBrk, ↓vCnt, ↓vNever, ↓vForS, ↓vC, ↓vVar, ↓vTup, ↓vOf, ↓vBin, ↓vBinL, ↓vBinR, ↓vUn, ↓vCall, ↓vCallO, ↓vCallIO, ↓vCallSC, ↓vLookA, ↓vB, ↓vTru, ↓vTruO, ↓vAnd, ↓vOr, ↓vNot, ↓vAndV, ↓vOrV, ↓vNotV, ↓vIf, ↓vChain, ↓vNil, ↓vCons, ↓vSl, ↓vSlL, ↓vP0, ↓vP1, ↓vRevT, ↓vRevL, ↓vRevLL, ↓vBits, ↓vPop, ↓vLc, ↓vTurn, ↓vYes, ↓gN, ↓gT, ↓gsC, ↓gs0, ↓gSet, ↓wL, ↓wT, ↓wR1, ↓wR2, ↓d2, ↓d20, ↓dAdd, ↓dMul, ↓dEq, ↓dNe, ↓dIsN, ↓dNotN, ↓isN, ↓dNeg, ↓dIx, ↓dInI, ↓dSl, ↓truD, ↓cLen, ↓cAbs, ↓cMax2, ↓cMin2, ↓cInt, ↓cTup, ↓cLst, ↓sv, ↓List.getD_cons_zero, ↓List.getD_cons_succ, ↓List.set_cons_zero, ↓List.set_cons_succ, ↓vxSeq, ↓vxIf, ↓vxRaise, ↓vxRet, ↓vxAsg, ↓vxCall, ↓vReason, ↓vEqS, ↓vIsi, ↓wR3, ↓wZip, ↓vSetDk, ↓vDkIn, ↓vDkPut, ↓vParE, ↓gL, ↓vxDrop, ↓cSrt, ↓cSum, ↓cMinD, ↓cAnyI, ↓vLenSet, ↓vLc2]
    have b0 := c.hb
    refine ⟨mul_small ⟨by omega, by omega⟩, ?_⟩
    rcases Int.lt_or_le (p : Int) (b * b) with z | z
    · simp only [decide_eq_true z]
      have bp : 0 < b := by
        rcases Int.lt_or_le 0 b with q | q
        · exact q
        · have : b = 0 := by omega
          subst this; omega
      rw [fmod_pos (by omega), ← hW]
      have := Int.emod_lt_of_pos a bp
      exact ⟨by omega, ih b (a % b) t (u + a / b * t) (by omega) (by omega) (c.step (by omega) z)⟩
    · simp only [decide_eq_false (Int.not_lt.mpr z)]
      exact hD a b u t c z
theorem hq_prime_squares (ds : List D) (Q : D → Prop) (h : sp_prime_squares ds Q) : rd_prime_squares { nx := fun _ => Q .none, rt := fun d _ => Q d } (ev0 ["prime", "number", "one", "other", "rest"] ds) := by
  obtain ⟨p, rfl, pr, hs, hp, h⟩ := h
  show rd_prime_squares _ [.fr (.int p), .un, .un, .un, .un]
  have h2 := pr.1
  by_cases p2 : p = 2
  · subst p2
    simp only [↓rd_prime_squares, ↓vSeq, ↓vPar, ↓vPar3, ↓vSet, ↓vSetO, ↓vAsg, ↓vAug, ↓vAppend, ↓vExt, ↓vUnp, ↓vFz, ↓vRet, ↓vRetN, ↓vDrop, ↓vIfS, ↓vNext, ↓vBrk, ↓vCnt, ↓vNever, ↓vForS, ↓vC, ↓vVar, ↓vTup, ↓vOf, ↓vBin, ↓vBinL, ↓vBinR, ↓vUn, ↓vCall, ↓vCallO, ↓vCallIO, ↓vCallSC, ↓vLookA, ↓vB, ↓vTru, ↓vTruO, ↓vAnd, ↓vOr, ↓vNot, ↓vAndV, ↓vOrV, ↓vNotV, ↓vIf, ↓vChain, ↓vNil, ↓vCons, ↓vSl, ↓vSlL, ↓vP0, ↓vP1, ↓vRevT, ↓vRevL, ↓vRevLL, ↓vBits, ↓vPop, ↓vLc, ↓vTurn, ↓vYes, ↓gN, ↓gT, ↓gsC, ↓gs0, ↓gSet, ↓wL, ↓wT, ↓wR1, ↓wR2, ↓d2, ↓d20, ↓dAdd, ↓dMul, ↓dEq, ↓dNe, ↓dIsN, ↓dNotN, ↓isN, ↓dNeg, ↓dIx, ↓dInI, ↓dSl, ↓truD, ↓cLen, ↓cAbs, ↓cMax2, ↓cMin2, ↓cInt, ↓cTup, ↓cLst, ↓sv, ↓List.getD_cons_zero, ↓List.getD_cons_succ, ↓List.set_cons_zero, ↓List.set_cons_succ, ↓vxSeq, ↓vxIf, ↓vxRaise, ↓vxRet, ↓vxAsg, ↓vxCall, ↓vReason, ↓vEqS, ↓vIsi, ↓wR3, ↓wZip, ↓vSetDk, ↓vDkIn, ↓vDkPut, ↓vParE, ↓gL, ↓vxDrop, ↓cSrt, ↓cSum, ↓cMinD, ↓cAnyI, ↓vLenSet, ↓vLc2]
    exact h 1 1 (by decide) (by decide) (by decide)
  have e2 : decide ((p : Int) = 2) = false := decide_eq_false (by omega)
  simp only [↓rd_prime_squares, ↓vSeq, ↓vPar, ↓vPar3, ↓vSet, ↓vSetO, ↓vAsg, ↓vAug, ↓vAppend, ↓vExt, ↓vUnp, ↓vFz, ↓vRet, ↓vRetN, ↓vDrop, ↓vIfS, ↓vNext, ↓vBrk, ↓vCnt, ↓vNever, ↓vForS, ↓vC, ↓vVar, ↓vTup, ↓vOf, ↓vBin, ↓vBinL, ↓vBinR, ↓vUn, ↓vCall, ↓vCallO, ↓vCallIO, ↓vCallSC, ↓vLookA, ↓vB, ↓vTru, ↓vTruO, ↓vAnd, ↓vOr, ↓vNot, ↓vAndV, ↓vOrV, ↓vNotV, ↓vIf, ↓vChain, ↓vNil, ↓vCons, ↓vSl, ↓vSlL, ↓vP0, ↓vP1, ↓vRevT, ↓vRevL, ↓vRevLL, ↓vBits, ↓vPop, ↓vLc, ↓vTurn, ↓vYes, ↓gN, ↓gT, ↓gsC, ↓gs0, ↓gSet, ↓wL, ↓wT, ↓wR1, ↓wR2, ↓d2, ↓d20, ↓dAdd, ↓dMul, ↓dEq, ↓dNe, ↓dIsN, ↓dNotN, ↓isN, ↓dNeg, ↓dIx, ↓dInI, ↓dSl, ↓truD, ↓cLen, ↓cAbs, ↓cMax2, ↓cMin2, ↓cInt, ↓cTup, ↓cLst, ↓sv, ↓List.getD_cons_zero, ↓List.getD_cons_succ, ↓List.set_cons_zero, ↓List.set_cons_succ, ↓vxSeq, ↓vxIf, ↓vxRaise, ↓vxRet, ↓vxAsg, ↓vxCall, ↓vReason, ↓vEqS, ↓vIsi, ↓wR3, ↓wZip, ↓vSetDk, ↓vDkIn, ↓vDkPut, ↓vParE, ↓gL, ↓vxDrop, ↓cSrt, ↓cSum, ↓cMinD, ↓cAnyI, ↓vLenSet, ↓vLc2, vWhile, e2]
  obtain ⟨a, a1, a2, ad⟩ := NT.nonres (m := (p - 1) / 2) pr (by omega)
  have neg : ∀ (x : Nat), (p : Int) ∣ (x : Int) + 1 → x % p = p - 1 := fun x hx => by
    have e : ((x : Int) + 1) % p = 0 := Int.emod_eq_zero_of_dvd hx
    have e3 : (x + 1) % p = 0 := by exact_mod_cast e
    have l := Nat.mod_lt x (show 0 < p by omega)
    rw [Nat.add_mod] at e3
    rw [Nat.mod_eq_of_lt (show 1 < p by omega)] at e3
    rcases Nat.lt_or_ge (x % p + 1) p with q | q
    · rw [Nat.mod_eq_of_lt q] at e3; omega
    · omega
  have aw : a ^ ((p - 1) / 2) % p = p - 1 := neg _ (by rw [Int.natCast_pow]; exact ad)
  refine ⟨a + 1, wit_ps1 _ p h2 hs a a2 aw _ _ _ (fun b b1 b2 bw => ?_) a 1 (by omega) a1 (by omega)⟩
  have hd4 : ((p : Int) - 1).fdiv 4 = (((p - 1) / 4 : Nat) : Int) := by rw [fdiv_pos (by omega)]; omega
  simp only [↓vSeq, ↓vPar, ↓vPar3, ↓vSet, ↓vSetO, ↓vAsg, ↓vAug, ↓vAppend, ↓vExt, ↓vUnp, ↓vFz, ↓vRet, ↓vRetN, ↓vDrop, ↓vIfS, ↓vNext, ↓vBrk, ↓vCnt, ↓vNever, ↓vForS, ↓vC, ↓vVar, ↓vTup, ↓vOf, ↓vBin, ↓vBinL, ↓vBinR, ↓vUn, ↓vCall, ↓vCallO, ↓vCallIO, ↓vCallSC, ↓vLookA, ↓vB, ↓vTru, ↓vTruO, ↓vAnd, ↓vOr, ↓vNot, ↓vAndV, ↓vOrV, ↓vNotV, ↓vIf, ↓vChain, ↓vNil, ↓vCons, ↓vSl, ↓vSlL, ↓vP0, ↓vP1, ↓vRevT, ↓vRevL, ↓vRevLL, ↓vBits, ↓vPop, ↓vLc, ↓vTurn, ↓vYes, ↓gN, ↓gT, ↓gsC, ↓gs0, ↓gSet, ↓wL, ↓wT, ↓wR1, ↓wR2, ↓d2, ↓d20, ↓dAdd, ↓dMul, ↓dEq, ↓dNe, ↓dIsN, ↓dNotN, ↓isN, ↓dNeg, ↓dIx, ↓dInI, ↓dSl, ↓truD, ↓cLen, ↓cAbs, ↓cMax2, ↓cMin2, ↓cInt, ↓cTup, ↓cLst, ↓sv, ↓List.getD_cons_zero, ↓List.getD_cons_succ, ↓List.set_cons_zero, ↓List.set_cons_succ, ↓vxSeq, ↓vxIf, ↓vxRaise, ↓vxRet, ↓vxAsg, ↓vxCall, ↓vReason, ↓vEqS, ↓vIsi, ↓wR3, ↓wZip, ↓vSetDk, ↓vDkIn, ↓vDkPut, ↓vParE, ↓gL, ↓vxDrop, ↓cSrt, ↓cSum, ↓cMinD, ↓cAnyI, ↓vLenSet, ↓vLc2, hd4]
  refine ⟨div_small (by omega) ⟨by omega, by omega⟩, b, (p - 1) / 4, p, rfl, h2, hs, by omega, ?_⟩
  simp only [↓vSeq, ↓vPar, ↓vPar3, ↓vSet, ↓vSetO, ↓vAsg, ↓vAug, ↓vAppend, ↓vExt, ↓vUnp, ↓vFz, ↓vRet, ↓vRetN, ↓vDrop, ↓vIfS, ↓vNext, ↓vBrk, ↓vCnt, ↓vNever, ↓vForS, ↓vC, ↓vVar, ↓vTup, ↓vOf, ↓vBin, ↓vBinL, ↓vBinR, ↓vUn, ↓vCall, ↓vCallO, ↓vCallIO, ↓vCallSC, ↓vLookA, ↓vB, ↓vTru, ↓vTruO, ↓vAnd, ↓vOr, ↓vNot, ↓vAndV, ↓vOrV, ↓vNotV, ↓vIf, ↓vChain, ↓vNil, ↓vCons, ↓vSl, ↓vSlL, ↓vP0, ↓vP1, ↓vRevT, ↓vRevL, ↓vRevLL, ↓vBits, ↓vPop, ↓vLc, ↓vTurn, ↓vYes, ↓gN, ↓gT, ↓gsC, ↓gs0, ↓gSet, ↓wL, ↓wT, ↓wR1, ↓wR2, ↓d2, ↓d20, ↓dAdd, ↓dMul, ↓dEq, ↓dNe, ↓dIsN, ↓dNotN, ↓isN, ↓dNeg, ↓dIx, ↓dInI, ↓dSl, ↓truD, ↓cLen, ↓cAbs, ↓cMax2, ↓cMin2, ↓cInt, ↓cTup, ↓cLst, ↓sv, ↓List.getD_cons_zero, ↓List.getD_cons_succ, ↓List.set_cons_zero, ↓List.set_cons_succ, ↓vxSeq, ↓vxIf, ↓vxRaise, ↓vxRet, ↓vxAsg, ↓vxCall, ↓vReason, ↓vEqS, ↓vIsi, ↓wR3, ↓wZip, ↓vSetDk, ↓vDkIn, ↓vDkPut, ↓vParE, ↓gL, ↓vxDrop, ↓cSrt, ↓cSum, ↓cMinD, ↓cAnyI, ↓vLenSet, ↓vLc2, vWhile]
  generalize hr : b ^ ((p - 1) / 4) % p = r
  have rl : r < p := by rw [← hr]; exact Nat.mod_lt _ (by omega)
  have rd : (p : Int) ∣ (r : Int) * r + 1 := by
    have e5 : (r * r + 1) % p = 0 := by
      have e6 : r * r % p = p - 1 := by
        rw [← hr, ← Nat.mul_mod, ← Nat.pow_add, show (p - 1) / 4 + (p - 1) / 4 = (p - 1) / 2 by omega, bw]
      rw [Nat.add_mod, e6, Nat.mod_eq_of_lt (show 1 < p by omega), show p - 1 + 1 = p by omega, Nat.mod_self]
    exact Int.dvd_of_emod_eq_zero (by exact_mod_cast e5)
  refine ⟨p + 1, wit_ps2 _ p h2 hs _ _ (fun a b u t c bb => ?_) (p + 1) p r 0 1 (by omega) (by omega) (NT.Cn.start (by omega) (by omega) (by omega) rd)⟩
  obtain ⟨f1, f2, f3, f4⟩ := c.fin pr p2 bb
  simp only [↓vSeq, ↓vPar, ↓vPar3, ↓vSet, ↓vSetO, ↓vAsg, ↓vAug, ↓vAppend, ↓vExt, ↓vUnp, ↓vFz, ↓vRet, ↓vRetN, ↓vDrop, ↓vIfS, ↓vNext, ↓vBrk, ↓vCnt, ↓vNever, ↓vForS, ↓vC, ↓vVar, ↓vTup, ↓vOf, ↓vBin, ↓vBinL, ↓vBinR, ↓vUn, ↓vCall, ↓vCallO, ↓vCallIO, ↓vCallSC, ↓vLookA, ↓vB, ↓vTru, ↓vTruO, ↓vAnd, ↓vOr, ↓vNot, ↓vAndV, ↓vOrV, ↓vNotV, ↓vIf, ↓vChain, ↓vNil, ↓vCons, ↓vSl, ↓vSlL, ↓vP0, ↓vP1, ↓vRevT, ↓vRevL, ↓vRevLL, ↓vBits, ↓vPop, ↓vLc, ↓vTurn, ↓vYes, ↓gN, ↓gT, ↓gsC, ↓gs0, ↓gSet, ↓wL, ↓wT, ↓wR1, ↓wR2, ↓d2, ↓d20, ↓dAdd, ↓dMul, ↓dEq, ↓dNe, ↓dIsN, ↓dNotN, ↓isN, ↓dNeg, ↓dIx, ↓dInI, ↓dSl, ↓truD, ↓cLen, ↓cAbs, ↓cMax2, ↓cMin2, ↓cInt, ↓cTup, ↓cLst, ↓sv, ↓List.getD_cons_zero, ↓List.getD_cons_succ, ↓List.set_cons_zero, ↓List.set_cons_succ, ↓vxSeq, ↓vxIf, ↓vxRaise, ↓vxRet, ↓vxAsg, ↓vxCall, ↓vReason, ↓vEqS, ↓vIsi, ↓wR3, ↓wZip, ↓vSetDk, ↓vDkIn, ↓vDkPut, ↓vParE, ↓gL, ↓vxDrop, ↓cSrt, ↓cSum, ↓cMinD, ↓cAnyI, ↓vLenSet, ↓vLc2]
  rw [fmod_pos (by omega), f2]
  refine ⟨by omega, ?_⟩
  show Q (tI [if b < t then t else b, if t < b then t else b])
  by_cases z : b < t
  · rw [if_pos z, if_neg (by omega)]
    exact h t b (by omega) (by omega) (by omega)
  · rw [if_neg z]
    by_cases z' : t < b
    · rw [if_pos z']
      exact h b t (by omega) (by omega) (by omega)
    · have e : t = b := by omega
      subst e
      rw [if_neg z']
      exact h t t f1 (by omega) (by omega)
end VL

set_option Elab.async false
set_option linter.all false
set_option maxRecDepth 1000000
set_option maxHeartbeats 8000000
namespace VL
open PySem PySem.Spec PyProof.Rows L2 HD
/-! ### checks -/
theorem hq_check_sum (ds : List D) (Q : D → Prop) (h : sp_check_sum ds Q) : rd_check_sum { nx := fun _ => Q .none, rt := fun d _ => Q d } (ev0 ["number"] ds) := by
  obtain ⟨n, rfl, h1, h2, h⟩ := h
  show rd_check_sum _ [.fr (.int n)]
  simp only [↓rd_check_sum, ↓vSeq, ↓vPar, ↓vPar3, ↓vSet, ↓vSetO, ↓vAsg, ↓vAug, ↓vAppend, ↓vExt, ↓vUnp, ↓vFz, ↓vRet, ↓vRetN, ↓vDrop, ↓vIfS, ↓vNext, ↓vBrk, ↓vCnt, ↓vNever, ↓vForS, ↓vC, ↓vVar, ↓vTup, ↓vOf, ↓vBin, ↓vBinL, ↓vBinR, ↓vUn, ↓vCall, ↓vCallO, ↓vCallIO, ↓vCallSC, ↓vLookA, ↓vB, ↓vTru, ↓vTruO, ↓vAnd, ↓vOr, ↓vNot, ↓vAndV, ↓vOrV, ↓vNotV, ↓vIf, ↓vChain, ↓vNil, ↓vCons, ↓vSl, ↓vSlL, ↓vP0, ↓vP1, ↓vRevT, ↓vRevL, ↓vRevLL, ↓vBits, ↓vPop, ↓vLc, ↓vTurn, ↓vYes, ↓gN, ↓gT, ↓gsC, ↓gs0, ↓gSet, ↓wL, ↓wT, ↓wR1, ↓wR2, ↓d2, ↓d20, ↓dAdd, ↓dMul, ↓dEq, ↓dNe, ↓dIsN, ↓dNotN, ↓isN, ↓dNeg, ↓dIx, ↓dInI, ↓dSl, ↓truD, ↓cLen, ↓cAbs, ↓cMax2, ↓cMin2, ↓cInt, ↓cTup, ↓cLst, ↓sv, ↓List.getD_cons_zero, ↓List.getD_cons_succ, ↓List.set_cons_zero, ↓List.set_cons_succ, ↓vxSeq, ↓vxIf, ↓vxRaise, ↓vxRet, ↓vxAsg, ↓vxCall, ↓vReason, ↓vEqS, ↓vIsi, ↓wR3, ↓wZip, ↓vSetDk, ↓vDkIn, ↓vDkPut, ↓vParE, ↓gL, ↓vxDrop, ↓cSrt, ↓cSum, ↓cMinD, ↓cAnyI, ↓vLenSet, ↓vLc2]
  have i1 : (!isD "int" (.int n)) = false := rfl
  have i2 : isD "bool" (.int n) = false := rfl
  simp only [i1, i2, decide_eq_true h1, decide_eq_true h2]
  exact ⟨trivial, trivial, h⟩
/-! ### two_squares -/
theorem loop_two2 (Z : VEnds) (n p e a b : SV) (q : Int) (hq : 0 ≤ q ∧ q < 4294967296) (hp : p = .fr (.int q)) : ∀ (xs : List D) (x y : Int) (s : SV), (∀ s', Z.nx [n, .fr (.int (x * q ^ xs.length)), .fr (.int (y * q ^ xs.length)), p, e, s', a, b]) →
    vFor rd_two_squares_f2g rd_two_squares_f2b Z xs [n, .fr (.int x), .fr (.int y), p, e, s, a, b] := by
  subst hp
  intro xs
  induction xs with
  | nil => intro x y s h; simpa [vFor_nil] using h s
  | cons d xs ih =>
    intro x y s h
    rw [vFor_cons]
    generalize hW : vFor rd_two_squares_f2g rd_two_squares_f2b Z xs = W
    simp only [↓rd_two_squares_f2g, ↓rd_two_squares_f2b, ↓vSeq, ↓vPar, ↓vPar3, ↓vSet, ↓vSetO, ↓vAsg, ↓vAug, ↓vAppend, ↓vExt, ↓vUnp, ↓vFz, ↓vRet, ↓vRetN, ↓vDrop, ↓vIfS, ↓vNext, ↓vBrk, ↓vCnt, ↓vNever, ↓vForS, ↓vC, ↓vVar, ↓vTup, ↓vOf, ↓vBin, ↓vBinL, ↓vBinR, ↓vUn, ↓vCall, ↓vCallO, ↓vCallIO, ↓vCallSC, ↓vLookA, ↓vB, ↓vTru, ↓vTruO, ↓vAnd, ↓vOr, ↓vNot, ↓vAndV, ↓vOrV, ↓vNotV, ↓vIf, ↓vChain, ↓vNil, ↓vCons, ↓vSl, ↓vSlL, ↓vP0, ↓vP1, ↓vRevT, ↓vRevL, ↓vRevLL, ↓vBits, ↓vPop, ↓vLc, ↓vTurn, ↓vYes, ↓gN, ↓gT, ↓gsC, ↓gs0, ↓gSet, ↓wL, ↓wT, ↓wR1, ↓wR2, ↓d2, ↓d20, ↓dAdd, ↓dMul, ↓dEq, ↓dNe, ↓dIsN, ↓dNotN, ↓isN, ↓dNeg, ↓dIx, ↓dInI, ↓dSl, ↓truD, ↓cLen, ↓cAbs, ↓cMax2, ↓cMin2, ↓cInt, ↓cTup, ↓cLst, ↓sv, ↓List.getD_cons_zero, ↓List.getD_cons_succ, ↓List.set_cons_zero, ↓List.set_cons_succ, ↓vxSeq, ↓vxIf, ↓vxRaise, ↓vxRet, ↓vxAsg, ↓vxCall, ↓vReason, ↓vEqS, ↓vIsi, ↓wR3, ↓wZip, ↓vSetDk, ↓vDkIn, ↓vDkPut, ↓vParE, ↓gL, ↓vxDrop, ↓cSrt, ↓cSum, ↓cMinD, ↓cAnyI, ↓vLenSet, ↓vLc2]
    refine ⟨mul_small ⟨by omega, by omega⟩, mul_small ⟨by omega, by omega⟩, ?_⟩
    rw [← hW]
    refine ih _ _ _ fun s' => ?_
    have := h s'
    rw [List.length_cons, Int.pow_succ] at this
    rw [show x * q * q ^ xs.length = x * (q ^ xs.length * q) by grind, show y * q * q ^ xs.length = y * (q ^ xs.length * q) by grind]
    exact this
theorem loop_two3 (Z : VEnds) (n p e : SV) (a b : Int) (ha : 0 ≤ a ∧ a < 4294967296) (hb : 0 ≤ b ∧ b < 4294967296) : ∀ (xs : List D) (x y : Int) (s : SV), 0 ≤ x → 0 ≤ y →
    (∀ x' y' s', 0 ≤ x' → 0 ≤ y' → x' * x' + y' * y' = (a * a + b * b) ^ xs.length * (x * x + y * y) → Z.nx [n, .fr (.int x'), .fr (.int y'), p, e, s', .fr (.int a), .fr (.int b)]) →
    vFor rd_two_squares_f3g rd_two_squares_f3b Z xs [n, .fr (.int x), .fr (.int y), p, e, s, .fr (.int a), .fr (.int b)] := by
  intro xs
  induction xs with
  | nil => intro x y s hx hy h; rw [vFor_nil]; exact h x y s hx hy (by rw [List.length_nil, Int.pow_zero, Int.one_mul])
  | cons d xs ih =>
    intro x y s hx hy h
    rw [vFor_cons]
    generalize hW : vFor rd_two_squares_f3g rd_two_squares_f3b Z xs = W
    simp only [↓rd_two_squares_f3g, ↓rd_two_squares_f3b, ↓vSeq, ↓vPar, ↓vPar3, ↓vSet, ↓vSetO, ↓vAsg, ↓vAug, ↓vAppend, ↓vExt, ↓vUnp, ↓vFz, ↓vRet, ↓vRetN, ↓vDrop, ↓vIfS, ↓vNext, ↓vBrk, ↓vCnt, ↓vNever, ↓vForS, ↓vC, ↓vVar, ↓vTup, ↓vOf, ↓vBin, ↓vBinL, ↓vBinR, ↓vUn, ↓vCall, ↓vCallO, ↓vCallIO, ↓vCallSC, ↓vLookA, ↓vB, ↓vTru, ↓vTruO, ↓vAnd, ↓vOr, ↓vNot, ↓vAndV, ↓vOrV, ↓vNotV, ↓vIf, ↓vChain, ↓vNil, ↓vCons, ↓vSl, ↓vSlL, ↓vP0, ↓vP1, ↓vRevT, ↓vRevL, ↓vRevLL, ↓vBits, ↓vPop, ↓vLc, ↓vTurn, ↓vYes, ↓gN, ↓gT, ↓gsC, ↓gs0, ↓gSet, ↓wL, ↓wT, ↓wR1, ↓wR2, ↓d2, ↓d20, ↓dAdd, ↓dMul, ↓dEq, ↓dNe, ↓dIsN, ↓dNotN, ↓isN, ↓dNeg, ↓dIx, ↓dInI, ↓dSl, ↓truD, ↓cLen, ↓cAbs, ↓cMax2, ↓cMin2, ↓cInt, ↓cTup, ↓cLst, ↓sv, ↓List.getD_cons_zero, ↓List.getD_cons_succ, ↓List.set_cons_zero, ↓List.set_cons_succ, ↓vxSeq, ↓vxIf, ↓vxRaise, ↓vxRet, ↓vxAsg, ↓vxCall, ↓vReason, ↓vEqS, ↓vIsi, ↓wR3, ↓wZip, ↓vSetDk, ↓vDkIn, ↓vDkPut, ↓vParE, ↓gL, ↓vxDrop, ↓cSrt, ↓cSum, ↓cMinD, ↓cAnyI, ↓vLenSet, ↓vLc2]
    refine ⟨mul_smallL ⟨by omega, by omega⟩, mul_smallL ⟨by omega, by omega⟩, mul_smallL ⟨by omega, by omega⟩, mul_smallL ⟨by omega, by omega⟩, ?_⟩
    rw [← hW]
    have ab : ∀ z : Int, (if z < 0 then -z else z) * (if z < 0 then -z else z) = z * z ∧ 0 ≤ (if z < 0 then -z else z) := fun z => by
      split
      · exact ⟨by grind, by omega⟩
      · exact ⟨rfl, by omega⟩
    obtain ⟨z1, z2⟩ := ab (a * x - b * y)
    refine ih _ _ _ z2 (Int.add_nonneg (Int.mul_nonneg ha.1 hy) (Int.mul_nonneg hb.1 hx)) fun x' y' s' h1 h2 h3 => h x' y' s' h1 h2 ?_
    rw [h3, z1, List.length_cons, Int.pow_succ]
    grind
theorem sqs_le {x y N : Int} (h : x * x + y * y ≤ N) (hN : N < 18446744073709551616) (hx : 0 ≤ x) (hy : 0 ≤ y) : x < 4294967296 ∧ y < 4294967296 := by
  have h1 := sq_nonneg x; have h2 := sq_nonneg y
  constructor
  · rcases Int.lt_or_le x 4294967296 with z | z
    · exact z
    · have := Int.mul_le_mul z z (by omega) (by omega); omega
  · rcases Int.lt_or_le y 4294967296 with z | z
    · exact z
    · have := Int.mul_le_mul z z (by omega) (by omega); omega
theorem loop_two (Z : VEnds) (n : Nat) (hn : n < 4294967296) (hD : ∀ (x y : Int) (s3 s4 s5 s6 s7 : SV), 0 ≤ x → 0 ≤ y → x * x + y * y = n → Z.nx [.fr (.int n), .fr (.int x), .fr (.int y), s3, s4, s5, s6, s7])
    (hR : ∀ (p e m : Nat) ev, n = p ^ e * m → NT.Pr p → p % 4 = 3 → e % 2 = 1 → ¬ p ∣ m → Z.rt (.tuple [.bool false, .int p]) ev) :
    ∀ (l : List (Nat × Nat)) (lo m K : Nat) (x y : Int) (s3 s4 s5 s6 s7 : SV), NT.FacL lo m l → 0 ≤ x → 0 ≤ y → x * x + y * y = K → n = K * m → 1 ≤ m → (∀ q, NT.Pr q → q ∣ K → q < lo) →
      vFor rd_two_squares_f1g rd_two_squares_f1b Z (l.map facD) [.fr (.int n), .fr (.int x), .fr (.int y), s3, s4, s5, s6, s7] := by
  intro l
  induction l with
  | nil =>
    intro lo m K x y s3 s4 s5 s6 s7 hf hx hy hk hm m1 hq
    obtain rfl : m = 1 := hf
    exact hD x y _ _ _ _ _ hx hy (by rw [hk, hm, Nat.mul_one])
  | cons pe l ih =>
    obtain ⟨p, e⟩ := pe
    intro lo m K x y s3 s4 s5 s6 s7 hf hx hy hk hm m1 hq
    obtain ⟨hl, pr, e1, m', hm', nd, hf'⟩ := hf
    rw [List.map_cons, vFor_cons]
    generalize hW : vFor rd_two_squares_f1g rd_two_squares_f1b Z (l.map facD) = W
    have p2 := pr.1
    have m'1 : 1 ≤ m' := Nat.one_le_iff_ne_zero.mpr fun z => by subst z; omega
    have K1 : 1 ≤ n → 1 ≤ K := fun z => Nat.one_le_iff_ne_zero.mpr fun q => by subst q; omega
    have nK : ¬ p ∣ K := fun z => by have := hq p pr z; omega
    have pm : p ∣ m := by rw [hm']; exact Nat.dvd_trans (dvd_pow' p (by omega)) ⟨m', rfl⟩
    -- p is no divisor of 0, so K is not 0
    have K0 : K ≠ 0 := fun z => nK (z ▸ Nat.dvd_zero p)
    have ple : p ≤ m := Nat.le_of_dvd (by omega) pm
    have mle : m ≤ n := by rw [hm]; exact Nat.le_mul_of_pos_left m (by omega)
    have nx : ∀ (x' y' : Int) (s3 s4 s5 s6 s7 : SV), 0 ≤ x' → 0 ≤ y' → x' * x' + y' * y' = ((p ^ e * K : Nat) : Int) → W [.fr (.int n), .fr (.int x'), .fr (.int y'), s3, s4, s5, s6, s7] := fun x' y' s3 s4 s5 s6 s7 h1 h2 h3 => by
      rw [← hW]
      refine ih (p + 1) m' (p ^ e * K) x' y' _ _ _ _ _ hf' h1 h2 h3 (by rw [hm, hm']; grind) m'1 fun q hq' hd => ?_
      rcases hq'.dvd hd with d | d
      · have := hq'.self_of_dvd pr (hq'.npow d); omega
      · have := hq q hq' d; omega
    simp only [↓rd_two_squares_f1g, ↓rd_two_squares_f1b, facD, ↓vSeq, ↓vPar, ↓vPar3, ↓vSet, ↓vSetO, ↓vAsg, ↓vAug, ↓vAppend, ↓vExt, ↓vUnp, ↓vFz, ↓vRet, ↓vRetN, ↓vDrop, ↓vIfS, ↓vNext, ↓vBrk, ↓vCnt, ↓vNever, ↓vForS, ↓vC, ↓vVar, ↓vTup, ↓vOf, ↓vBin, ↓vBinL, ↓vBinR, ↓vUn, ↓vCall, ↓vCallO, ↓vCallIO, ↓vCallSC, ↓vLookA, ↓vB, ↓vTru, ↓vTruO, ↓vAnd, ↓vOr, ↓vNot, ↓vAndV, ↓vOrV, ↓vNotV, ↓vIf, ↓vChain, ↓vNil, ↓vCons, ↓vSl, ↓vSlL, ↓vP0, ↓vP1, ↓vRevT, ↓vRevL, ↓vRevLL, ↓vBits, ↓vPop, ↓vLc, ↓vTurn, ↓vYes, ↓gN, ↓gT, ↓gsC, ↓gs0, ↓gSet, ↓wL, ↓wT, ↓wR1, ↓wR2, ↓d2, ↓d20, ↓dAdd, ↓dMul, ↓dEq, ↓dNe, ↓dIsN, ↓dNotN, ↓isN, ↓dNeg, ↓dIx, ↓dInI, ↓dSl, ↓truD, ↓cLen, ↓cAbs, ↓cMax2, ↓cMin2, ↓cInt, ↓cTup, ↓cLst, ↓sv, ↓List.getD_cons_zero, ↓List.getD_cons_succ, ↓List.set_cons_zero, ↓List.set_cons_succ, ↓vxSeq, ↓vxIf, ↓vxRaise, ↓vxRet, ↓vxAsg, ↓vxCall, ↓vReason, ↓vEqS, ↓vIsi, ↓wR3, ↓wZip, ↓vSetDk, ↓vDkIn, ↓vDkPut, ↓vParE, ↓gL, ↓vxDrop, ↓cSrt, ↓cSum, ↓cMinD, ↓cAnyI, ↓vLenSet, ↓vLc2]
    have hm4 : ((p : Int)).fmod 4 = ((p % 4 : Nat) : Int) := by rw [fmod_pos (by omega)]; omega
    refine ⟨rfl, by omega, ?_⟩
    rw [hm4]
    by_cases h3 : p % 4 = 3
    · have c1 : decide (((p % 4 : Nat) : Int) = 3) = true := decide_eq_true (by omega)
      have c2 : ((e : Int)).fmod 2 = ((e % 2 : Nat) : Int) := by rw [fmod_pos (by omega)]; omega
      simp only [c1, c2]
      rcases Nat.mod_two_eq_zero_or_one e with z | z
      · have c3 : (((e % 2 : Nat) : Int) != 0) = false := by rw [z]; decide
        have c4 : ((e : Int)).fdiv 2 = ((e / 2 : Nat) : Int) := by rw [fdiv_pos (by omega)]; omega
        simp only [c3, c4]
        refine ⟨by omega, div_small (by omega) ⟨by omega, by omega⟩, ⟨by omega, ?_⟩, loop_two2 _ _ _ _ _ _ (p : Int) ⟨by omega, by omega⟩ rfl _ x y _ fun s' => ?_⟩
        · have : e < 2 ^ e := Nat.lt_two_pow_self
          have q2 : 2 ^ e ≤ p ^ e := Nat.pow_le_pow_left p2 e
          have q3 : p ^ e ≤ m := by rw [hm']; exact Nat.le_mul_of_pos_right _ (by omega)
          omega
        · have l1 : (rngD 0 (((e / 2 : Nat) : Int)).toNat).length = e / 2 := by unfold rngD; rw [List.length_map, List.length_range]; omega
          rw [l1]
          refine nx _ _ _ _ _ _ _ (Int.mul_nonneg hx (Int.pow_nonneg (by omega))) (Int.mul_nonneg hy (Int.pow_nonneg (by omega))) ?_
          have q1 : (p : Int) ^ (e / 2) * (p : Int) ^ (e / 2) = ((p ^ e : Nat) : Int) := by
            rw [← Int.pow_add, show e / 2 + e / 2 = e by omega, Int.natCast_pow]
          rw [Int.natCast_mul, ← hk, ← q1]
          grind
      · have c3 : (((e % 2 : Nat) : Int) != 0) = true := by rw [z]; decide
        simp only [c3]
        refine ⟨by omega, hR p e (K * m') _ (by rw [hm, hm']; grind) pr h3 z fun d => ?_⟩
        rcases pr.dvd d with d | d
        · exact nK d
        · exact nd d
    · have c1 : decide (((p % 4 : Nat) : Int) = 3) = false := decide_eq_false (by omega)
      simp only [c1]
      refine ⟨p, rfl, pr, by omega, ?_, fun a b hab hb hba => ?_⟩
      · by_cases z : p = 2
        · exact .inl z
        · right
          have : p % 2 ≠ 0 := fun q => by
            rcases pr.2 2 (Nat.dvd_of_mod_eq_zero q) with w | w <;> omega
          omega
      simp only [tI, List.map_cons, List.map_nil, ↓vSeq, ↓vPar, ↓vPar3, ↓vSet, ↓vSetO, ↓vAsg, ↓vAug, ↓vAppend, ↓vExt, ↓vUnp, ↓vFz, ↓vRet, ↓vRetN, ↓vDrop, ↓vIfS, ↓vNext, ↓vBrk, ↓vCnt, ↓vNever, ↓vForS, ↓vC, ↓vVar, ↓vTup, ↓vOf, ↓vBin, ↓vBinL, ↓vBinR, ↓vUn, ↓vCall, ↓vCallO, ↓vCallIO, ↓vCallSC, ↓vLookA, ↓vB, ↓vTru, ↓vTruO, ↓vAnd, ↓vOr, ↓vNot, ↓vAndV, ↓vOrV, ↓vNotV, ↓vIf, ↓vChain, ↓vNil, ↓vCons, ↓vSl, ↓vSlL, ↓vP0, ↓vP1, ↓vRevT, ↓vRevL, ↓vRevLL, ↓vBits, ↓vPop, ↓vLc, ↓vTurn, ↓vYes, ↓gN, ↓gT, ↓gsC, ↓gs0, ↓gSet, ↓wL, ↓wT, ↓wR1, ↓wR2, ↓d2, ↓d20, ↓dAdd, ↓dMul, ↓dEq, ↓dNe, ↓dIsN, ↓dNotN, ↓isN, ↓dNeg, ↓dIx, ↓dInI, ↓dSl, ↓truD, ↓cLen, ↓cAbs, ↓cMax2, ↓cMin2, ↓cInt, ↓cTup, ↓cLst, ↓sv, ↓List.getD_cons_zero, ↓List.getD_cons_succ, ↓List.set_cons_zero, ↓List.set_cons_succ, ↓vxSeq, ↓vxIf, ↓vxRaise, ↓vxRet, ↓vxAsg, ↓vxCall, ↓vReason, ↓vEqS, ↓vIsi, ↓wR3, ↓wZip, ↓vSetDk, ↓vDkIn, ↓vDkPut, ↓vParE, ↓gL, ↓vxDrop, ↓cSrt, ↓cSum, ↓cMinD, ↓cAnyI, ↓vLenSet, ↓vLc2]
      obtain ⟨a1, b1⟩ := sqs_le (x := a) (y := b) (N := p) (by omega) (by omega) (by omega) hb
      refine ⟨rfl, ⟨by omega, ?_⟩, loop_two3 _ _ _ _ a b ⟨by omega, a1⟩ ⟨hb, b1⟩ _ x y _ hx hy fun x' y' s' h1 h2 h3 => ?_⟩
      · have : e < 2 ^ e := Nat.lt_two_pow_self
        have q2 : 2 ^ e ≤ p ^ e := Nat.pow_le_pow_left p2 e
        have q3 : p ^ e ≤ m := by rw [hm']; exact Nat.le_mul_of_pos_right _ (by omega)
        omega
      · have l1 : (rngD 0 ((e : Int)).toNat).length = e := by unfold rngD; rw [List.length_map, List.length_range]; omega
        rw [l1, hab, hk] at h3
        exact nx _ _ _ _ _ _ _ h1 h2 (by rw [h3, Int.natCast_mul, Int.natCast_pow])
theorem hq_two_squares (ds : List D) (Q : D → Prop) (h : sp_two_squares ds Q) : rd_two_squares { nx := fun _ => Q .none, rt := fun d _ => Q d } (ev0 ["number", "x", "y", "prime", "power", "turn", "a", "b"] ds) := by
  obtain ⟨n, rfl, h1, h2, hT, hF⟩ := h
  show rd_two_squares _ [.fr (.int n), .un, .un, .un, .un, .un, .un, .un]
  simp only [↓rd_two_squares, ↓vSeq, ↓vPar, ↓vPar3, ↓vSet, ↓vSetO, ↓vAsg, ↓vAug, ↓vAppend, ↓vExt, ↓vUnp, ↓vFz, ↓vRet, ↓vRetN, ↓vDrop, ↓vIfS, ↓vNext, ↓vBrk, ↓vCnt, ↓vNever, ↓vForS, ↓vC, ↓vVar, ↓vTup, ↓vOf, ↓vBin, ↓vBinL, ↓vBinR, ↓vUn, ↓vCall, ↓vCallO, ↓vCallIO, ↓vCallSC, ↓vLookA, ↓vB, ↓vTru, ↓vTruO, ↓vAnd, ↓vOr, ↓vNot, ↓vAndV, ↓vOrV, ↓vNotV, ↓vIf, ↓vChain, ↓vNil, ↓vCons, ↓vSl, ↓vSlL, ↓vP0, ↓vP1, ↓vRevT, ↓vRevL, ↓vRevLL, ↓vBits, ↓vPop, ↓vLc, ↓vTurn, ↓vYes, ↓gN, ↓gT, ↓gsC, ↓gs0, ↓gSet, ↓wL, ↓wT, ↓wR1, ↓wR2, ↓d2, ↓d20, ↓dAdd, ↓dMul, ↓dEq, ↓dNe, ↓dIsN, ↓dNotN, ↓isN, ↓dNeg, ↓dIx, ↓dInI, ↓dSl, ↓truD, ↓cLen, ↓cAbs, ↓cMax2, ↓cMin2, ↓cInt, ↓cTup, ↓cLst, ↓sv, ↓List.getD_cons_zero, ↓List.getD_cons_succ, ↓List.set_cons_zero, ↓List.set_cons_succ, ↓vxSeq, ↓vxIf, ↓vxRaise, ↓vxRet, ↓vxAsg, ↓vxCall, ↓vReason, ↓vEqS, ↓vIsi, ↓wR3, ↓wZip, ↓vSetDk, ↓vDkIn, ↓vDkPut, ↓vParE, ↓gL, ↓vxDrop, ↓cSrt, ↓cSum, ↓cMinD, ↓cAnyI, ↓vLenSet, ↓vLc2]
  refine ⟨n, rfl, h1, h2, ?_⟩
  by_cases z : n = 0
  · subst z
    simp only [↓vSeq, ↓vPar, ↓vPar3, ↓vSet, ↓vSetO, ↓vAsg, ↓vAug, ↓vAppend, ↓vExt, ↓vUnp, ↓vFz, ↓vRet, ↓vRetN, ↓vDrop, ↓vIfS, ↓vNext, ↓vBrk, ↓vCnt, ↓vNever, ↓vForS, ↓vC, ↓vVar, ↓vTup, ↓vOf, ↓vBin, ↓vBinL, ↓vBinR, ↓vUn, ↓vCall, ↓vCallO, ↓vCallIO, ↓vCallSC, ↓vLookA, ↓vB, ↓vTru, ↓vTruO, ↓vAnd, ↓vOr, ↓vNot, ↓vAndV, ↓vOrV, ↓vNotV, ↓vIf, ↓vChain, ↓vNil, ↓vCons, ↓vSl, ↓vSlL, ↓vP0, ↓vP1, ↓vRevT, ↓vRevL, ↓vRevLL, ↓vBits, ↓vPop, ↓vLc, ↓vTurn, ↓vYes, ↓gN, ↓gT, ↓gsC, ↓gs0, ↓gSet, ↓wL, ↓wT, ↓wR1, ↓wR2, ↓d2, ↓d20, ↓dAdd, ↓dMul, ↓dEq, ↓dNe, ↓dIsN, ↓dNotN, ↓isN, ↓dNeg, ↓dIx, ↓dInI, ↓dSl, ↓truD, ↓cLen, ↓cAbs, ↓cMax2, ↓cMin2, ↓cInt, ↓cTup, ↓cLst, ↓sv, ↓List.getD_cons_zero, ↓List.getD_cons_succ, ↓List.set_cons_zero, ↓List.set_cons_succ, ↓vxSeq, ↓vxIf, ↓vxRaise, ↓vxRet, ↓vxAsg, ↓vxCall, ↓vReason, ↓vEqS, ↓vIsi, ↓wR3, ↓wZip, ↓vSetDk, ↓vDkIn, ↓vDkPut, ↓vParE, ↓gL, ↓vxDrop, ↓cSrt, ↓cSum, ↓cMinD, ↓cAnyI, ↓vLenSet, ↓vLc2]
    exact hT 0 0 (by decide) (by decide) (by decide)
  · simp only [↓vSeq, ↓vPar, ↓vPar3, ↓vSet, ↓vSetO, ↓vAsg, ↓vAug, ↓vAppend, ↓vExt, ↓vUnp, ↓vFz, ↓vRet, ↓vRetN, ↓vDrop, ↓vIfS, ↓vNext, ↓vBrk, ↓vCnt, ↓vNever, ↓vForS, ↓vC, ↓vVar, ↓vTup, ↓vOf, ↓vBin, ↓vBinL, ↓vBinR, ↓vUn, ↓vCall, ↓vCallO, ↓vCallIO, ↓vCallSC, ↓vLookA, ↓vB, ↓vTru, ↓vTruO, ↓vAnd, ↓vOr, ↓vNot, ↓vAndV, ↓vOrV, ↓vNotV, ↓vIf, ↓vChain, ↓vNil, ↓vCons, ↓vSl, ↓vSlL, ↓vP0, ↓vP1, ↓vRevT, ↓vRevL, ↓vRevLL, ↓vBits, ↓vPop, ↓vLc, ↓vTurn, ↓vYes, ↓gN, ↓gT, ↓gsC, ↓gs0, ↓gSet, ↓wL, ↓wT, ↓wR1, ↓wR2, ↓d2, ↓d20, ↓dAdd, ↓dMul, ↓dEq, ↓dNe, ↓dIsN, ↓dNotN, ↓isN, ↓dNeg, ↓dIx, ↓dInI, ↓dSl, ↓truD, ↓cLen, ↓cAbs, ↓cMax2, ↓cMin2, ↓cInt, ↓cTup, ↓cLst, ↓sv, ↓List.getD_cons_zero, ↓List.getD_cons_succ, ↓List.set_cons_zero, ↓List.set_cons_succ, ↓vxSeq, ↓vxIf, ↓vxRaise, ↓vxRet, ↓vxAsg, ↓vxCall, ↓vReason, ↓vEqS, ↓vIsi, ↓wR3, ↓wZip, ↓vSetDk, ↓vDkIn, ↓vDkPut, ↓vParE, ↓gL, ↓vxDrop, ↓cSrt, ↓cSum, ↓cMinD, ↓cAnyI, ↓vLenSet, ↓vLc2, decide_eq_false z]
    obtain ⟨N, rfl⟩ : ∃ N : Nat, n = N := ⟨n.toNat, by omega⟩
    refine ⟨rfl, N, rfl, by omega, by omega, fun l hl => ?_⟩
    simp only [↓vSeq, ↓vPar, ↓vPar3, ↓vSet, ↓vSetO, ↓vAsg, ↓vAug, ↓vAppend, ↓vExt, ↓vUnp, ↓vFz, ↓vRet, ↓vRetN, ↓vDrop, ↓vIfS, ↓vNext, ↓vBrk, ↓vCnt, ↓vNever, ↓vForS, ↓vC, ↓vVar, ↓vTup, ↓vOf, ↓vBin, ↓vBinL, ↓vBinR, ↓vUn, ↓vCall, ↓vCallO, ↓vCallIO, ↓vCallSC, ↓vLookA, ↓vB, ↓vTru, ↓vTruO, ↓vAnd, ↓vOr, ↓vNot, ↓vAndV, ↓vOrV, ↓vNotV, ↓vIf, ↓vChain, ↓vNil, ↓vCons, ↓vSl, ↓vSlL, ↓vP0, ↓vP1, ↓vRevT, ↓vRevL, ↓vRevLL, ↓vBits, ↓vPop, ↓vLc, ↓vTurn, ↓vYes, ↓gN, ↓gT, ↓gsC, ↓gs0, ↓gSet, ↓wL, ↓wT, ↓wR1, ↓wR2, ↓d2, ↓d20, ↓dAdd, ↓dMul, ↓dEq, ↓dNe, ↓dIsN, ↓dNotN, ↓isN, ↓dNeg, ↓dIx, ↓dInI, ↓dSl, ↓truD, ↓cLen, ↓cAbs, ↓cMax2, ↓cMin2, ↓cInt, ↓cTup, ↓cLst, ↓sv, ↓List.getD_cons_zero, ↓List.getD_cons_succ, ↓List.set_cons_zero, ↓List.set_cons_succ, ↓vxSeq, ↓vxIf, ↓vxRaise, ↓vxRet, ↓vxAsg, ↓vxCall, ↓vReason, ↓vEqS, ↓vIsi, ↓wR3, ↓wZip, ↓vSetDk, ↓vDkIn, ↓vDkPut, ↓vParE, ↓gL, ↓vxDrop, ↓cSrt, ↓cSum, ↓cMinD, ↓cAnyI, ↓vLenSet, ↓vLc2]
    refine loop_two _ N (by omega) (fun x y s3 s4 s5 s6 s7 hx hy e => ?_) (fun p e m ev q1 q2 q3 q4 q5 => hF p e m (by rw [q1]) q2 q3 q4 q5) l 2 N 1 1 0 _ _ _ _ _ hl (by decide) (by decide) (by decide) (by omega) (by omega) fun q hq d => ?_
    · simp only [↓vSeq, ↓vPar, ↓vPar3, ↓vSet, ↓vSetO, ↓vAsg, ↓vAug, ↓vAppend, ↓vExt, ↓vUnp, ↓vFz, ↓vRet, ↓vRetN, ↓vDrop, ↓vIfS, ↓vNext, ↓vBrk, ↓vCnt, ↓vNever, ↓vForS, ↓vC, ↓vVar, ↓vTup, ↓vOf, ↓vBin, ↓vBinL, ↓vBinR, ↓vUn, ↓vCall, ↓vCallO, ↓vCallIO, ↓vCallSC, ↓vLookA, ↓vB, ↓vTru, ↓vTruO, ↓vAnd, ↓vOr, ↓vNot, ↓vAndV, ↓vOrV, ↓vNotV, ↓vIf, ↓vChain, ↓vNil, ↓vCons, ↓vSl, ↓vSlL, ↓vP0, ↓vP1, ↓vRevT, ↓vRevL, ↓vRevLL, ↓vBits, ↓vPop, ↓vLc, ↓vTurn, ↓vYes, ↓gN, ↓gT, ↓gsC, ↓gs0, ↓gSet, ↓wL, ↓wT, ↓wR1, ↓wR2, ↓d2, ↓d20, ↓dAdd, ↓dMul, ↓dEq, ↓dNe, ↓dIsN, ↓dNotN, ↓isN, ↓dNeg, ↓dIx, ↓dInI, ↓dSl, ↓truD, ↓cLen, ↓cAbs, ↓cMax2, ↓cMin2, ↓cInt, ↓cTup, ↓cLst, ↓sv, ↓List.getD_cons_zero, ↓List.getD_cons_succ, ↓List.set_cons_zero, ↓List.set_cons_succ, ↓vxSeq, ↓vxIf, ↓vxRaise, ↓vxRet, ↓vxAsg, ↓vxCall, ↓vReason, ↓vEqS, ↓vIsi, ↓wR3, ↓wZip, ↓vSetDk, ↓vDkIn, ↓vDkPut, ↓vParE, ↓gL, ↓vxDrop, ↓cSrt, ↓cSum, ↓cMinD, ↓cAnyI, ↓vLenSet, ↓vLc2]
      show Q (.tuple [.bool true, tI [if x < y then y else x, if y < x then y else x]])
      by_cases z1 : x < y
      · rw [if_pos z1, if_neg (by omega)]
        exact hT y x (by omega) hx (by omega)
      · rw [if_neg z1]
        by_cases z2 : y < x
        · rw [if_pos z2]
          exact hT x y e hy (by omega)
        · rw [if_neg z2]
          have : x = y := by omega
          subst this
          exact hT x x e hx (by omega)
    · have := Nat.le_of_dvd (by decide) d
      have := hq.1
      omega
/-! ### three_squares -/
theorem sq_perm {l m : List Int} (h : l.Perm m) : (l.map fun x => x * x).sum = (m.map fun x => x * x).sum := by
  induction h with
  | nil => rfl
  | cons x _ ih => simp only [List.map_cons, List.sum_cons, ih]
  | swap x y l => simp only [List.map_cons, List.sum_cons]; omega
  | trans _ _ a b => rw [a, b]
/-- sorted down -/
theorem down_ok (l : List Int) : (ordB true (sortI l)).Perm l ∧ (ordB true (sortI l)).Pairwise (· ≥ ·) := by
  have h1 : (sortI l).Perm l := sortB_perm _ _
  have h2 := sortB_srtd swo_I l
  refine ⟨(List.reverse_perm _).trans h1, ?_⟩
  show (sortI l).reverse.Pairwise _
  rw [List.pairwise_reverse]
  exact h2.imp fun {a b} h => by have := of_decide_eq_false h; omega
theorem down3 (x y z : Int) : ∃ u v w, ordB true (sortI [x, y, z]) = [u, v, w] ∧ w ≤ v ∧ v ≤ u ∧ u * u + v * v + w * w = x * x + y * y + z * z ∧ (0 ≤ x → 0 ≤ y → 0 ≤ z → 0 ≤ w) := by
  obtain ⟨p, s⟩ := down_ok [x, y, z]
  have hl := p.length_eq
  match h : ordB true (sortI [x, y, z]), hl with
  | [u, v, w], _ =>
    rw [h] at p s
    have e := sq_perm p
    simp only [List.map_cons, List.map_nil, List.sum_cons, List.sum_nil] at e
    simp only [List.pairwise_cons, List.mem_cons, List.not_mem_nil, or_false, forall_eq_or_imp, forall_eq] at s
    refine ⟨u, v, w, rfl, by omega, by omega, by omega, fun hx hy hz => ?_⟩
    have : w ∈ [x, y, z] := p.mem_iff.mp (by simp)
    simp only [List.mem_cons, List.not_mem_nil, or_false] at this
    omega
theorem down4 (x y z t : Int) : ∃ u v w r, ordB true (sortI [x, y, z, t]) = [u, v, w, r] ∧ r ≤ w ∧ w ≤ v ∧ v ≤ u ∧ u * u + v * v + w * w + r * r = x * x + y * y + z * z + t * t ∧ (0 ≤ x → 0 ≤ y → 0 ≤ z → 0 ≤ t → 0 ≤ r) := by
  obtain ⟨p, s⟩ := down_ok [x, y, z, t]
  have hl := p.length_eq
  match h : ordB true (sortI [x, y, z, t]), hl with
  | [u, v, w, r], _ =>
    rw [h] at p s
    have e := sq_perm p
    simp only [List.map_cons, List.map_nil, List.sum_cons, List.sum_nil] at e
    simp only [List.pairwise_cons, List.mem_cons, List.not_mem_nil, or_false, forall_eq_or_imp, forall_eq] at s
    refine ⟨u, v, w, r, rfl, by omega, by omega, by omega, by omega, fun hx hy hz ht => ?_⟩
    have : r ∈ [x, y, z, t] := p.mem_iff.mp (by simp)
    simp only [List.mem_cons, List.not_mem_nil, or_false] at this
    omega
/-- r, .., 0 -/
def dnD : Nat → List D
  | 0 => [.int 0]
  | r + 1 => .int (r + 1 : Nat) :: dnD r
theorem rngC_down : ∀ r : Nat, rngC r (-1) (r + 1) = dnD r
  | 0 => rfl
  | r + 1 => by
    rw [dnD, ← rngC_down r]
    unfold rngC
    rw [List.range_succ_eq_map, List.map_cons, List.map_map]
    refine List.cons_eq_cons.mpr ⟨congrArg PyData.int (by omega), List.map_congr_left fun i _ => congrArg PyData.int ?_⟩
    show ((r + 1 : Nat) : Int) + ((i + 1 : Nat) : Int) * -1 = _
    omega
theorem wit_three (D : VEnds) (n : SV) (s3 s4 s5 s6 s7 : SV) : ∀ (k m a : Nat), m < k → m < 18446744073709551616 → (∀ m' a' : Nat, m = 4 ^ (a' - a) * m' → a ≤ a' → (m' = 0 ∨ m' % 4 ≠ 0) → (a' = a ∨ 4 ^ (a' - a) ≤ m) → D.nx [n, .fr (.int a'), .fr (.int m'), s3, s4, s5, s6, s7]) →
    wit rd_three_squares_w1c rd_three_squares_w1b D k [n, .fr (.int a), .fr (.int m), s3, s4, s5, s6, s7] := by
  intro k
  induction k with
  | zero => intro m a h; omega
  | succ k ih =>
    intro m a h hs hD
    rw [wit_succ]
    generalize hW : wit rd_three_squares_w1c rd_three_squares_w1b D k = W
    simp only [↓rd_three_squares_w1c, ↓rd_three_squares_w1b, ↓vSeq, ↓vPar, ↓vPar3, ↓vSet, ↓vSetO, ↓vAsg, ↓vAug, ↓vAppend, ↓vExt, ↓vUnp, ↓vFz, ↓vRet, ↓vRetN, ↓vDrop, ↓vIfS, ↓vNext, ↓vBrk, ↓vCnt, ↓vNever, ↓vForS, ↓vC, ↓vVar, ↓vTup, ↓vOf, ↓vBin, ↓vBinL, ↓vBinR, ↓vUn, ↓vCall, ↓vCallO, ↓vCallIO, ↓vCallSC, ↓vLookA, ↓vB, ↓vTru, ↓vTruO, ↓vAnd, ↓vOr, ↓vNot, ↓vAndV, ↓vOrV, ↓vNotV, ↓vIf, ↓vChain, ↓vNil, ↓vCons, ↓vSl, ↓vSlL, ↓vP0, ↓vP1, ↓vRevT, ↓vRevL, ↓vRevLL, ↓vBits, ↓vPop, ↓vLc, ↓vTurn, ↓vYes, ↓gN, ↓gT, ↓gsC, ↓gs0, ↓gSet, ↓wL, ↓wT, ↓wR1, ↓wR2, ↓d2, ↓d20, ↓dAdd, ↓dMul, ↓dEq, ↓dNe, ↓dIsN, ↓dNotN, ↓isN, ↓dNeg, ↓dIx, ↓dInI, ↓dSl, ↓truD, ↓cLen, ↓cAbs, ↓cMax2, ↓cMin2, ↓cInt, ↓cTup, ↓cLst, ↓sv, ↓List.getD_cons_zero, ↓List.getD_cons_succ, ↓List.set_cons_zero, ↓List.set_cons_succ, ↓vxSeq, ↓vxIf, ↓vxRaise, ↓vxRet, ↓vxAsg, ↓vxCall, ↓vReason, ↓vEqS, ↓vIsi, ↓wR3, ↓wZip, ↓vSetDk, ↓vDkIn, ↓vDkPut, ↓vParE, ↓gL, ↓vxDrop, ↓cSrt, ↓cSum, ↓cMinD, ↓cAnyI, ↓vLenSet, ↓vLc2]
    have self : (m = 0 ∨ m % 4 ≠ 0) → D.nx [n, .fr (.int a), .fr (.int m), s3, s4, s5, s6, s7] := fun z => hD m a (by rw [Nat.sub_self, Nat.pow_zero, Nat.one_mul]) (Nat.le_refl a) z (.inl rfl)
    by_cases m0 : m = 0
    · subst m0
      have c1 : (((0 : Nat) : Int) != 0) = false := by decide
      simp only [c1]
      exact self (.inl rfl)
    · have c1 : ((m : Int) != 0) = true := by simp; omega
      have c2 : ((m : Int)).fmod 4 = ((m % 4 : Nat) : Int) := by rw [fmod_pos (by omega)]; omega
      simp only [c1, c2]
      by_cases m4 : m % 4 = 0
      · have c3 : decide (((m % 4 : Nat) : Int) = 0) = true := decide_eq_true (by omega)
        have c4 : ((m : Int)).fdiv 4 = ((m / 4 : Nat) : Int) := by rw [fdiv_pos (by omega)]; omega
        have c5 : ((a : Int) + 1) = ((a + 1 : Nat) : Int) := by omega
        simp only [c3, c4, c5]
        refine ⟨by omega, div_small (by omega) ⟨by omega, by omega⟩, rfl, ?_⟩
        rw [← hW]
        refine ih (m / 4) (a + 1) (by omega) (by omega) fun m' a' h1 h2 h3 h4 => hD m' a' ?_ (by omega) h3 ?_
        · rw [show a' - a = (a' - (a + 1)) + 1 by omega, Nat.pow_succ]
          generalize 4 ^ (a' - (a + 1)) = w at *
          have e4 : m = 4 * (m / 4) := by omega
          have : 4 * (m / 4) = 4 * (w * m') := congrArg (4 * ·) h1
          grind
        · right
          rw [show a' - a = (a' - (a + 1)) + 1 by omega, Nat.pow_succ]
          rcases h4 with h4 | h4
          · rw [h4, Nat.sub_self, Nat.pow_zero]; omega
          · omega
      · have c3 : decide (((m % 4 : Nat) : Int) = 0) = false := decide_eq_false (by omega)
        simp only [c3]
        exact ⟨by omega, self (.inr m4)⟩
theorem comp_three (Q : List D → Ev → Prop) (n : SV) (a : Nat) (ha : a ≤ 100) (x2 x3 x4 x5 x6 s7 : SV) : ∀ (xs : List Int) (acc : List D), (∀ t ∈ xs, small t) → Q (acc ++ (xs.map fun t => 2 ^ a * t).map .int) [n, .fr (.int a), x2, x3, x4, x5, x6, s7] →
    vComp rd_three_squares_c3_g rd_three_squares_c3_t rd_three_squares_c3_e [7] Q (xs.map .int) [n, .fr (.int a), x2, x3, x4, x5, x6, s7] acc := by
  intro xs
  induction xs with
  | nil => intro acc _ h; simpa [vComp] using h
  | cons t xs ih =>
    intro acc ht h
    rw [List.map_cons]
    show vTurn _ _ _ _ _ _ _ _
    simp only [↓vTurn, ↓rd_three_squares_c3_g, ↓rd_three_squares_c3_t, ↓rd_three_squares_c3_e, ↓wipeE, ↓vSeq, ↓vPar, ↓vPar3, ↓vSet, ↓vSetO, ↓vAsg, ↓vAug, ↓vAppend, ↓vExt, ↓vUnp, ↓vFz, ↓vRet, ↓vRetN, ↓vDrop, ↓vIfS, ↓vNext, ↓vBrk, ↓vCnt, ↓vNever, ↓vForS, ↓vC, ↓vVar, ↓vTup, ↓vOf, ↓vBin, ↓vBinL, ↓vBinR, ↓vUn, ↓vCall, ↓vCallO, ↓vCallIO, ↓vCallSC, ↓vLookA, ↓vB, ↓vTru, ↓vTruO, ↓vAnd, ↓vOr, ↓vNot, ↓vAndV, ↓vOrV, ↓vNotV, ↓vIf, ↓vChain, ↓vNil, ↓vCons, ↓vSl, ↓vSlL, ↓vP0, ↓vP1, ↓vRevT, ↓vRevL, ↓vRevLL, ↓vBits, ↓vPop, ↓vLc, ↓vTurn, ↓vYes, ↓gN, ↓gT, ↓gsC, ↓gs0, ↓gSet, ↓wL, ↓wT, ↓wR1, ↓wR2, ↓d2, ↓d20, ↓dAdd, ↓dMul, ↓dEq, ↓dNe, ↓dIsN, ↓dNotN, ↓isN, ↓dNeg, ↓dIx, ↓dInI, ↓dSl, ↓truD, ↓cLen, ↓cAbs, ↓cMax2, ↓cMin2, ↓cInt, ↓cTup, ↓cLst, ↓sv, ↓List.getD_cons_zero, ↓List.getD_cons_succ, ↓List.set_cons_zero, ↓List.set_cons_succ, ↓vxSeq, ↓vxIf, ↓vxRaise, ↓vxRet, ↓vxAsg, ↓vxCall, ↓vReason, ↓vEqS, ↓vIsi, ↓wR3, ↓wZip, ↓vSetDk, ↓vDkIn, ↓vDkPut, ↓vParE, ↓gL, ↓vxDrop, ↓cSrt, ↓cSum, ↓cMinD, ↓cAnyI, ↓vLenSet, ↓vLc2, back]
    refine ⟨⟨by omega, by omega, by omega, by omega⟩, mul_small (ht t List.mem_cons_self), ?_⟩
    refine ih _ (fun u hu => ht u (List.mem_cons_of_mem _ hu)) ?_
    rw [Int.one_mul, Int.toNat_natCast, List.append_assoc]
    exact h
theorem loop_three (Z : VEnds) (n : SV) (a m : Nat) (hm : m < 1006992) (ha : a ≤ 100) (hR : ∀ (x y z : Int) ev, x * x + y * y + z * z = m → 0 ≤ z → z ≤ y → y ≤ x → Z.rt (.tuple [.bool true, tI [2 ^ a * x, 2 ^ a * y, 2 ^ a * z]]) ev) :
    ∀ (r : Nat) (s3 s4 s5 s6 : SV), r * r ≤ m → (∃ (x0 : Nat) (y z : Int), x0 ≤ r ∧ x0 * x0 + y * y + z * z = m) → vFor rd_three_squares_f2g rd_three_squares_f2b Z (dnD r) [n, .fr (.int a), .fr (.int m), s3, s4, s5, s6, .un] := by
  intro r
  have step : ∀ (r : Nat) (W : Ev → Prop) (s3 s4 s5 s6 : SV) (xs : List D), r * r ≤ m → (∀ s3 s4 s5 s6, (¬ ∃ (y z : Int), r * r + y * y + z * z = m) → W [n, .fr (.int a), .fr (.int m), s3, s4, s5, s6, .un]) →
      rd_three_squares_f2g (.int r) [n, .fr (.int a), .fr (.int m), s3, s4, s5, s6, .un] fun e1 => rd_three_squares_f2b { nx := W, rt := Z.rt, bk := Z.nx, ct := W } e1 := by
    intro r W s3 s4 s5 s6 xs hr hn
    simp only [↓rd_three_squares_f2g, ↓rd_three_squares_f2b, ↓vSeq, ↓vPar, ↓vPar3, ↓vSet, ↓vSetO, ↓vAsg, ↓vAug, ↓vAppend, ↓vExt, ↓vUnp, ↓vFz, ↓vRet, ↓vRetN, ↓vDrop, ↓vIfS, ↓vNext, ↓vBrk, ↓vCnt, ↓vNever, ↓vForS, ↓vC, ↓vVar, ↓vTup, ↓vOf, ↓vBin, ↓vBinL, ↓vBinR, ↓vUn, ↓vCall, ↓vCallO, ↓vCallIO, ↓vCallSC, ↓vLookA, ↓vB, ↓vTru, ↓vTruO, ↓vAnd, ↓vOr, ↓vNot, ↓vAndV, ↓vOrV, ↓vNotV, ↓vIf, ↓vChain, ↓vNil, ↓vCons, ↓vSl, ↓vSlL, ↓vP0, ↓vP1, ↓vRevT, ↓vRevL, ↓vRevLL, ↓vBits, ↓vPop, ↓vLc, ↓vTurn, ↓vYes, ↓gN, ↓gT, ↓gsC, ↓gs0, ↓gSet, ↓wL, ↓wT, ↓wR1, ↓wR2, ↓d2, ↓d20, ↓dAdd, ↓dMul, ↓dEq, ↓dNe, ↓dIsN, ↓dNotN, ↓isN, ↓dNeg, ↓dIx, ↓dInI, ↓dSl, ↓truD, ↓cLen, ↓cAbs, ↓cMax2, ↓cMin2, ↓cInt, ↓cTup, ↓cLst, ↓sv, ↓List.getD_cons_zero, ↓List.getD_cons_succ, ↓List.set_cons_zero, ↓List.set_cons_succ, ↓vxSeq, ↓vxIf, ↓vxRaise, ↓vxRet, ↓vxAsg, ↓vxCall, ↓vReason, ↓vEqS, ↓vIsi, ↓wR3, ↓wZip, ↓vSetDk, ↓vDkIn, ↓vDkPut, ↓vParE, ↓gL, ↓vxDrop, ↓cSrt, ↓cSum, ↓cMinD, ↓cAnyI, ↓vLenSet, ↓vLc2]
    have rs : (r : Int) < 4294967296 := by
      have h0 : ((r * r : Nat) : Int) ≤ m := by omega
      rw [Int.natCast_mul] at h0
      exact (sqs_le (x := r) (y := 0) (N := m) (by omega) (by omega) (by omega) (by omega)).1
    have rr : (r : Int) * r = ((r * r : Nat) : Int) := by rw [Int.natCast_mul]
    refine ⟨mul_small ⟨by omega, by omega⟩, (m : Int) - r * r, rfl, by omega, by omega, fun x y e hy hx => ?_, fun p e m' e1 e2 e3 e4 e5 => ?_⟩
    · have k0 : ∀ q w : D, atI [q, w] 0 = some q := fun q w => rfl
      have k1 : ∀ q w : D, atI [q, w] 1 = some w := fun q w => rfl
      simp only [↓vSeq, ↓vPar, ↓vPar3, ↓vSet, ↓vSetO, ↓vAsg, ↓vAug, ↓vAppend, ↓vExt, ↓vUnp, ↓vFz, ↓vRet, ↓vRetN, ↓vDrop, ↓vIfS, ↓vNext, ↓vBrk, ↓vCnt, ↓vNever, ↓vForS, ↓vC, ↓vVar, ↓vTup, ↓vOf, ↓vBin, ↓vBinL, ↓vBinR, ↓vUn, ↓vCall, ↓vCallO, ↓vCallIO, ↓vCallSC, ↓vLookA, ↓vB, ↓vTru, ↓vTruO, ↓vAnd, ↓vOr, ↓vNot, ↓vAndV, ↓vOrV, ↓vNotV, ↓vIf, ↓vChain, ↓vNil, ↓vCons, ↓vSl, ↓vSlL, ↓vP0, ↓vP1, ↓vRevT, ↓vRevL, ↓vRevLL, ↓vBits, ↓vPop, ↓vLc, ↓vTurn, ↓vYes, ↓gN, ↓gT, ↓gsC, ↓gs0, ↓gSet, ↓wL, ↓wT, ↓wR1, ↓wR2, ↓d2, ↓d20, ↓dAdd, ↓dMul, ↓dEq, ↓dNe, ↓dIsN, ↓dNotN, ↓isN, ↓dNeg, ↓dIx, ↓dInI, ↓dSl, ↓truD, ↓cLen, ↓cAbs, ↓cMax2, ↓cMin2, ↓cInt, ↓cTup, ↓cLst, ↓sv, ↓List.getD_cons_zero, ↓List.getD_cons_succ, ↓List.set_cons_zero, ↓List.set_cons_succ, ↓vxSeq, ↓vxIf, ↓vxRaise, ↓vxRet, ↓vxAsg, ↓vxCall, ↓vReason, ↓vEqS, ↓vIsi, ↓wR3, ↓wZip, ↓vSetDk, ↓vDkIn, ↓vDkPut, ↓vParE, ↓gL, ↓vxDrop, ↓cSrt, ↓cSum, ↓cMinD, ↓cAnyI, ↓vLenSet, ↓vLc2, tI, List.map_cons, List.map_nil, k0, k1]
      refine ⟨rfl, .inl ⟨[(r : Int), x, y], rfl, ?_⟩⟩
      obtain ⟨u, v, w, e0, h1, h2, h3, h4⟩ := down3 r x y
      rw [e0]
      have sw : u * u + v * v + w * w ≤ m := by omega
      have w0 := h4 (by omega) (by omega) hy
      have us := (sqs_le (x := u) (y := v) (N := m) (by have := sq_nonneg w; omega) (by omega) (by omega) (by omega))
      refine ⟨by rw [List.length_map, sizeLine_eq]; simp, fun i hi => ?_, ?_⟩
      · obtain rfl : i = 7 := by simpa using hi
        exact id
      refine comp_three _ n a ha _ _ _ _ _ _ [u, v, w] [] (fun t ht => ?_) ?_
      · simp only [List.mem_cons, List.not_mem_nil, or_false] at ht
        unfold small
        omega
      · exact hR u v w _ (by omega) w0 h1 h2
    · simp only [↓vSeq, ↓vPar, ↓vPar3, ↓vSet, ↓vSetO, ↓vAsg, ↓vAug, ↓vAppend, ↓vExt, ↓vUnp, ↓vFz, ↓vRet, ↓vRetN, ↓vDrop, ↓vIfS, ↓vNext, ↓vBrk, ↓vCnt, ↓vNever, ↓vForS, ↓vC, ↓vVar, ↓vTup, ↓vOf, ↓vBin, ↓vBinL, ↓vBinR, ↓vUn, ↓vCall, ↓vCallO, ↓vCallIO, ↓vCallSC, ↓vLookA, ↓vB, ↓vTru, ↓vTruO, ↓vAnd, ↓vOr, ↓vNot, ↓vAndV, ↓vOrV, ↓vNotV, ↓vIf, ↓vChain, ↓vNil, ↓vCons, ↓vSl, ↓vSlL, ↓vP0, ↓vP1, ↓vRevT, ↓vRevL, ↓vRevLL, ↓vBits, ↓vPop, ↓vLc, ↓vTurn, ↓vYes, ↓gN, ↓gT, ↓gsC, ↓gs0, ↓gSet, ↓wL, ↓wT, ↓wR1, ↓wR2, ↓d2, ↓d20, ↓dAdd, ↓dMul, ↓dEq, ↓dNe, ↓dIsN, ↓dNotN, ↓isN, ↓dNeg, ↓dIx, ↓dInI, ↓dSl, ↓truD, ↓cLen, ↓cAbs, ↓cMax2, ↓cMin2, ↓cInt, ↓cTup, ↓cLst, ↓sv, ↓List.getD_cons_zero, ↓List.getD_cons_succ, ↓List.set_cons_zero, ↓List.set_cons_succ, ↓vxSeq, ↓vxIf, ↓vxRaise, ↓vxRet, ↓vxAsg, ↓vxCall, ↓vReason, ↓vEqS, ↓vIsi, ↓wR3, ↓wZip, ↓vSetDk, ↓vDkIn, ↓vDkPut, ↓vParE, ↓gL, ↓vxDrop, ↓cSrt, ↓cSum, ↓cMinD, ↓cAnyI, ↓vLenSet, ↓vLc2]
      refine ⟨rfl, hn _ _ _ _ fun ⟨y, z, q⟩ => ?_⟩
      refine NT.not_two e2 e3 e5 e y z e4 ?_
      rw [← e1]; omega
  induction r with
  | zero =>
    intro s3 s4 s5 s6 hr ⟨x0, y, z, h1, h2⟩
    rw [dnD, vFor_cons]
    refine step 0 _ s3 s4 s5 s6 [] hr fun _ _ _ _ q => ?_
    have : x0 = 0 := by omega
    subst this
    exact absurd ⟨y, z, h2⟩ q
  | succ r ih =>
    intro s3 s4 s5 s6 hr ⟨x0, y, z, h1, h2⟩
    rw [dnD, vFor_cons]
    refine step (r + 1) _ s3 s4 s5 s6 [] hr fun s3 s4 s5 s6 q => ?_
    have rr : r * r ≤ (r + 1) * (r + 1) := Nat.mul_le_mul (by omega) (by omega)
    refine ih _ _ _ _ (by omega) ⟨x0, y, z, ?_, h2⟩
    rcases Nat.lt_or_ge r x0 with c | c
    · have : x0 = r + 1 := by omega
      subst this
      exact absurd ⟨y, z, h2⟩ q
    · exact c
theorem hq_three_squares (ds : List D) (Q : D → Prop) (h : sp_three_squares ds Q) : rd_three_squares { nx := fun _ => Q .none, rt := fun d _ => Q d } (ev0 ["number", "times", "rest", "x", "answer", "pair", "found", "one"] ds) := by
  obtain ⟨n, rfl, h1, h2, hT, hF⟩ := h
  show rd_three_squares _ [.fr (.int n), .un, .un, .un, .un, .un, .un, .un]
  obtain ⟨N, rfl⟩ : ∃ N : Nat, n = N := ⟨n.toNat, by omega⟩
  simp only [↓rd_three_squares, ↓vSeq, ↓vPar, ↓vPar3, ↓vSet, ↓vSetO, ↓vAsg, ↓vAug, ↓vAppend, ↓vExt, ↓vUnp, ↓vFz, ↓vRet, ↓vRetN, ↓vDrop, ↓vIfS, ↓vNext, ↓vBrk, ↓vCnt, ↓vNever, ↓vForS, ↓vC, ↓vVar, ↓vTup, ↓vOf, ↓vBin, ↓vBinL, ↓vBinR, ↓vUn, ↓vCall, ↓vCallO, ↓vCallIO, ↓vCallSC, ↓vLookA, ↓vB, ↓vTru, ↓vTruO, ↓vAnd, ↓vOr, ↓vNot, ↓vAndV, ↓vOrV, ↓vNotV, ↓vIf, ↓vChain, ↓vNil, ↓vCons, ↓vSl, ↓vSlL, ↓vP0, ↓vP1, ↓vRevT, ↓vRevL, ↓vRevLL, ↓vBits, ↓vPop, ↓vLc, ↓vTurn, ↓vYes, ↓gN, ↓gT, ↓gsC, ↓gs0, ↓gSet, ↓wL, ↓wT, ↓wR1, ↓wR2, ↓d2, ↓d20, ↓dAdd, ↓dMul, ↓dEq, ↓dNe, ↓dIsN, ↓dNotN, ↓isN, ↓dNeg, ↓dIx, ↓dInI, ↓dSl, ↓truD, ↓cLen, ↓cAbs, ↓cMax2, ↓cMin2, ↓cInt, ↓cTup, ↓cLst, ↓sv, ↓List.getD_cons_zero, ↓List.getD_cons_succ, ↓List.set_cons_zero, ↓List.set_cons_succ, ↓vxSeq, ↓vxIf, ↓vxRaise, ↓vxRet, ↓vxAsg, ↓vxCall, ↓vReason, ↓vEqS, ↓vIsi, ↓wR3, ↓wZip, ↓vSetDk, ↓vDkIn, ↓vDkPut, ↓vParE, ↓gL, ↓vxDrop, ↓cSrt, ↓cSum, ↓cMinD, ↓cAnyI, ↓vLenSet, ↓vLc2, vWhile]
  refine ⟨N, rfl, h1, by omega, rfl, N + 1, wit_three _ _ _ _ _ _ _ (N + 1) N 0 (by omega) (by omega) fun m a e ha hm hle => ?_⟩
  rw [Nat.sub_zero] at e hle
  simp only [↓vSeq, ↓vPar, ↓vPar3, ↓vSet, ↓vSetO, ↓vAsg, ↓vAug, ↓vAppend, ↓vExt, ↓vUnp, ↓vFz, ↓vRet, ↓vRetN, ↓vDrop, ↓vIfS, ↓vNext, ↓vBrk, ↓vCnt, ↓vNever, ↓vForS, ↓vC, ↓vVar, ↓vTup, ↓vOf, ↓vBin, ↓vBinL, ↓vBinR, ↓vUn, ↓vCall, ↓vCallO, ↓vCallIO, ↓vCallSC, ↓vLookA, ↓vB, ↓vTru, ↓vTruO, ↓vAnd, ↓vOr, ↓vNot, ↓vAndV, ↓vOrV, ↓vNotV, ↓vIf, ↓vChain, ↓vNil, ↓vCons, ↓vSl, ↓vSlL, ↓vP0, ↓vP1, ↓vRevT, ↓vRevL, ↓vRevLL, ↓vBits, ↓vPop, ↓vLc, ↓vTurn, ↓vYes, ↓gN, ↓gT, ↓gsC, ↓gs0, ↓gSet, ↓wL, ↓wT, ↓wR1, ↓wR2, ↓d2, ↓d20, ↓dAdd, ↓dMul, ↓dEq, ↓dNe, ↓dIsN, ↓dNotN, ↓isN, ↓dNeg, ↓dIx, ↓dInI, ↓dSl, ↓truD, ↓cLen, ↓cAbs, ↓cMax2, ↓cMin2, ↓cInt, ↓cTup, ↓cLst, ↓sv, ↓List.getD_cons_zero, ↓List.getD_cons_succ, ↓List.set_cons_zero, ↓List.set_cons_succ, ↓vxSeq, ↓vxIf, ↓vxRaise, ↓vxRet, ↓vxAsg, ↓vxCall, ↓vReason, ↓vEqS, ↓vIsi, ↓wR3, ↓wZip, ↓vSetDk, ↓vDkIn, ↓vDkPut, ↓vParE, ↓gL, ↓vxDrop, ↓cSrt, ↓cSum, ↓cMinD, ↓cAnyI, ↓vLenSet, ↓vLc2]
  have p4 : 1 ≤ 4 ^ a := Nat.one_le_iff_ne_zero.mpr fun z => by have := Nat.pow_eq_zero.mp z; omega
  have ml : m ≤ N := by rw [e]; exact Nat.le_mul_of_pos_left m (by omega)
  have m8 : ((m : Int)).fmod 8 = ((m % 8 : Nat) : Int) := by rw [fmod_pos (by omega)]; omega
  rw [m8]
  by_cases z : m % 8 = 7
  · have c1 : decide (((m % 8 : Nat) : Int) = 7) = true := decide_eq_true (by omega)
    have c2 : ((m : Int)).fdiv 8 = ((m / 8 : Nat) : Int) := by rw [fdiv_pos (by omega)]; omega
    simp only [c1, c2]
    refine ⟨by omega, div_small (by omega) ⟨by omega, by omega⟩, hF a (m / 8) ?_⟩
    have : m = 8 * (m / 8) + 7 := by omega
    rw [e]
    rw [Int.natCast_mul, Int.natCast_pow]
    have e8 : ((m : Nat) : Int) = 8 * ((m / 8 : Nat) : Int) + 7 := by omega
    rw [e8]; rfl
  · have c1 : decide (((m % 8 : Nat) : Int) = 7) = false := decide_eq_false (by omega)
    simp only [c1]
    refine ⟨by omega, (m : Int), rfl, by omega, by omega, fun r hr => ?_⟩
    obtain ⟨R, rfl⟩ : ∃ R : Nat, r = R := ⟨r.toNat, by have := hr.1; omega⟩
    have rr : R * R ≤ m := by
      have := hr.2.1
      rw [← Int.natCast_mul] at this
      omega
    have rs : R < 4294967296 := sq_le_of rr (by omega)
    simp only [↓vSeq, ↓vPar, ↓vPar3, ↓vSet, ↓vSetO, ↓vAsg, ↓vAug, ↓vAppend, ↓vExt, ↓vUnp, ↓vFz, ↓vRet, ↓vRetN, ↓vDrop, ↓vIfS, ↓vNext, ↓vBrk, ↓vCnt, ↓vNever, ↓vForS, ↓vC, ↓vVar, ↓vTup, ↓vOf, ↓vBin, ↓vBinL, ↓vBinR, ↓vUn, ↓vCall, ↓vCallO, ↓vCallIO, ↓vCallSC, ↓vLookA, ↓vB, ↓vTru, ↓vTruO, ↓vAnd, ↓vOr, ↓vNot, ↓vAndV, ↓vOrV, ↓vNotV, ↓vIf, ↓vChain, ↓vNil, ↓vCons, ↓vSl, ↓vSlL, ↓vP0, ↓vP1, ↓vRevT, ↓vRevL, ↓vRevLL, ↓vBits, ↓vPop, ↓vLc, ↓vTurn, ↓vYes, ↓gN, ↓gT, ↓gsC, ↓gs0, ↓gSet, ↓wL, ↓wT, ↓wR1, ↓wR2, ↓d2, ↓d20, ↓dAdd, ↓dMul, ↓dEq, ↓dNe, ↓dIsN, ↓dNotN, ↓isN, ↓dNeg, ↓dIx, ↓dInI, ↓dSl, ↓truD, ↓cLen, ↓cAbs, ↓cMax2, ↓cMin2, ↓cInt, ↓cTup, ↓cLst, ↓sv, ↓List.getD_cons_zero, ↓List.getD_cons_succ, ↓List.set_cons_zero, ↓List.set_cons_succ, ↓vxSeq, ↓vxIf, ↓vxRaise, ↓vxRet, ↓vxAsg, ↓vxCall, ↓vReason, ↓vEqS, ↓vIsi, ↓wR3, ↓wZip, ↓vSetDk, ↓vDkIn, ↓vDkPut, ↓vParE, ↓gL, ↓vxDrop, ↓cSrt, ↓cSum, ↓cMinD, ↓cAnyI, ↓vLenSet, ↓vLc2]
    refine ⟨R + 1, ?_, ?_⟩
    · have := RgC.neg (i := (R : Int)) (j := -1) (by omega) (by omega) (by omega) (by omega)
      rw [show ((R : Int) - -1).toNat = R + 1 by omega] at this
      exact this
    rw [rngC_down]
    have al : a ≤ 100 := by
      rcases Nat.lt_or_ge a 101 with q | q
      · omega
      · have q1 : 4 ^ 101 ≤ 4 ^ a := Nat.pow_le_pow_right (by omega) q
        have q2 : 1006992 < 4 ^ 101 := by decide +kernel
        rcases hle with h | h <;> omega
    refine loop_three _ _ a m (by omega) al (fun x y z ev e1 hz hy hx => ?_) R _ _ _ _ rr ?_
    · refine hT _ _ _ ?_ (Int.mul_nonneg (Int.pow_nonneg (by omega)) hz) (Int.mul_le_mul_of_nonneg_left hy (Int.pow_nonneg (by omega))) (Int.mul_le_mul_of_nonneg_left hx (Int.pow_nonneg (by omega)))
      have q : (2 : Int) ^ a * 2 ^ a = 4 ^ a := by rw [← Int.mul_pow]; rfl
      rw [e, Int.natCast_mul, Int.natCast_pow, ← e1]
      show _ = (4 : Int) ^ a * _
      rw [← q]; grind
    · rcases hm with hm | hm
      · subst hm
        exact ⟨0, 0, 0, by omega, by decide⟩
      · obtain ⟨x, y, w, hs⟩ := NT.three_nat (n := m) (by omega) hm z
        refine ⟨x, y, w, ?_, ?_⟩
        · rcases Nat.lt_or_ge R x with q | q
          · have h3 := hr.2.2
            have h4 : (R + 1) * (R + 1) ≤ x * x := Nat.mul_le_mul q q
            have h5 : ((R : Int) + 1) * (R + 1) = (((R + 1) * (R + 1) : Nat) : Int) := by rw [Int.natCast_mul]; rfl
            omega
          · exact q
        · rw [← Int.natCast_mul, ← Int.natCast_mul, ← Int.natCast_mul, ← Int.natCast_add, ← Int.natCast_add, hs]
/-! ### four_squares -/
theorem six_seven {a b a' b' : Nat} (e : (4 : Int) ^ a * (8 * b + 6) = 4 ^ a' * (8 * b' + 7)) : False := by
  have e' : 4 ^ a * (8 * b + 6) = 4 ^ a' * (8 * b' + 7) := by
    have h : ((4 ^ a * (8 * b + 6) : Nat) : Int) = ((4 ^ a' * (8 * b' + 7) : Nat) : Int) := by
      rw [Int.natCast_mul, Int.natCast_mul, Int.natCast_pow, Int.natCast_pow]; exact e
    exact Int.natCast_inj.mp h
  rcases Nat.lt_trichotomy a a' with c | c | c
  · obtain ⟨k, rfl⟩ : ∃ k, a' = a + (k + 1) := ⟨a' - a - 1, by omega⟩
    rw [Nat.pow_add, Nat.mul_assoc, Nat.pow_succ] at e'
    have := Nat.eq_of_mul_eq_mul_left (Nat.pow_pos (by omega)) e'
    have e2 : 4 ^ k * 4 * (8 * b' + 7) = 4 * (4 ^ k * (8 * b' + 7)) := by grind
    omega
  · subst c
    have := Nat.eq_of_mul_eq_mul_left (Nat.pow_pos (by omega)) e'
    omega
  · obtain ⟨k, rfl⟩ : ∃ k, a = a' + (k + 1) := ⟨a - a' - 1, by omega⟩
    rw [Nat.pow_add, Nat.mul_assoc, Nat.pow_succ] at e'
    have := Nat.eq_of_mul_eq_mul_left (Nat.pow_pos (by omega)) e'
    have e2 : 4 ^ k * 4 * (8 * b + 6) = 4 * (4 ^ k * (8 * b + 6)) := by grind
    omega
theorem hq_four_squares (ds : List D) (Q : D → Prop) (h : sp_four_squares ds Q) : rd_four_squares { nx := fun _ => Q .none, rt := fun d _ => Q d } (ev0 ["number", "answer", "row", "one"] ds) := by
  obtain ⟨n, rfl, h1, h2, h⟩ := h
  show rd_four_squares _ [.fr (.int n), .un, .un, .un]
  simp only [↓rd_four_squares, ↓vSeq, ↓vPar, ↓vPar3, ↓vSet, ↓vSetO, ↓vAsg, ↓vAug, ↓vAppend, ↓vExt, ↓vUnp, ↓vFz, ↓vRet, ↓vRetN, ↓vDrop, ↓vIfS, ↓vNext, ↓vBrk, ↓vCnt, ↓vNever, ↓vForS, ↓vC, ↓vVar, ↓vTup, ↓vOf, ↓vBin, ↓vBinL, ↓vBinR, ↓vUn, ↓vCall, ↓vCallO, ↓vCallIO, ↓vCallSC, ↓vLookA, ↓vB, ↓vTru, ↓vTruO, ↓vAnd, ↓vOr, ↓vNot, ↓vAndV, ↓vOrV, ↓vNotV, ↓vIf, ↓vChain, ↓vNil, ↓vCons, ↓vSl, ↓vSlL, ↓vP0, ↓vP1, ↓vRevT, ↓vRevL, ↓vRevLL, ↓vBits, ↓vPop, ↓vLc, ↓vTurn, ↓vYes, ↓gN, ↓gT, ↓gsC, ↓gs0, ↓gSet, ↓wL, ↓wT, ↓wR1, ↓wR2, ↓d2, ↓d20, ↓dAdd, ↓dMul, ↓dEq, ↓dNe, ↓dIsN, ↓dNotN, ↓isN, ↓dNeg, ↓dIx, ↓dInI, ↓dSl, ↓truD, ↓cLen, ↓cAbs, ↓cMax2, ↓cMin2, ↓cInt, ↓cTup, ↓cLst, ↓sv, ↓List.getD_cons_zero, ↓List.getD_cons_succ, ↓List.set_cons_zero, ↓List.set_cons_succ, ↓vxSeq, ↓vxIf, ↓vxRaise, ↓vxRet, ↓vxAsg, ↓vxCall, ↓vReason, ↓vEqS, ↓vIsi, ↓wR3, ↓wZip, ↓vSetDk, ↓vDkIn, ↓vDkPut, ↓vParE, ↓gL, ↓vxDrop, ↓cSrt, ↓cSum, ↓cMinD, ↓cAnyI, ↓vLenSet, ↓vLc2]
  refine ⟨n, rfl, h1, by omega, n, rfl, h1, h2, fun x y z e hz hy hx => ?_, fun a b e => ?_⟩
  · simp only [↓vSeq, ↓vPar, ↓vPar3, ↓vSet, ↓vSetO, ↓vAsg, ↓vAug, ↓vAppend, ↓vExt, ↓vUnp, ↓vFz, ↓vRet, ↓vRetN, ↓vDrop, ↓vIfS, ↓vNext, ↓vBrk, ↓vCnt, ↓vNever, ↓vForS, ↓vC, ↓vVar, ↓vTup, ↓vOf, ↓vBin, ↓vBinL, ↓vBinR, ↓vUn, ↓vCall, ↓vCallO, ↓vCallIO, ↓vCallSC, ↓vLookA, ↓vB, ↓vTru, ↓vTruO, ↓vAnd, ↓vOr, ↓vNot, ↓vAndV, ↓vOrV, ↓vNotV, ↓vIf, ↓vChain, ↓vNil, ↓vCons, ↓vSl, ↓vSlL, ↓vP0, ↓vP1, ↓vRevT, ↓vRevL, ↓vRevLL, ↓vBits, ↓vPop, ↓vLc, ↓vTurn, ↓vYes, ↓gN, ↓gT, ↓gsC, ↓gs0, ↓gSet, ↓wL, ↓wT, ↓wR1, ↓wR2, ↓d2, ↓d20, ↓dAdd, ↓dMul, ↓dEq, ↓dNe, ↓dIsN, ↓dNotN, ↓isN, ↓dNeg, ↓dIx, ↓dInI, ↓dSl, ↓truD, ↓cLen, ↓cAbs, ↓cMax2, ↓cMin2, ↓cInt, ↓cTup, ↓cLst, ↓sv, ↓List.getD_cons_zero, ↓List.getD_cons_succ, ↓List.set_cons_zero, ↓List.set_cons_succ, ↓vxSeq, ↓vxIf, ↓vxRaise, ↓vxRet, ↓vxAsg, ↓vxCall, ↓vReason, ↓vEqS, ↓vIsi, ↓wR3, ↓wZip, ↓vSetDk, ↓vDkIn, ↓vDkPut, ↓vParE, ↓gL, ↓vxDrop, ↓cSrt, ↓cSum, ↓cMinD, ↓cAnyI, ↓vLenSet, ↓vLc2, tI, List.map_cons, List.map_nil]
    exact ⟨rfl, by rw [sizeLine_eq]; simp, h x y z 0 (by omega) (by omega) hz hy hx⟩
  · have k0 : ∀ q w : D, atI [q, w] 0 = some q := fun q w => rfl
    have k1 : ∀ q w : D, atI [q, w] 1 = some w := fun q w => rfl
    simp only [↓vSeq, ↓vPar, ↓vPar3, ↓vSet, ↓vSetO, ↓vAsg, ↓vAug, ↓vAppend, ↓vExt, ↓vUnp, ↓vFz, ↓vRet, ↓vRetN, ↓vDrop, ↓vIfS, ↓vNext, ↓vBrk, ↓vCnt, ↓vNever, ↓vForS, ↓vC, ↓vVar, ↓vTup, ↓vOf, ↓vBin, ↓vBinL, ↓vBinR, ↓vUn, ↓vCall, ↓vCallO, ↓vCallIO, ↓vCallSC, ↓vLookA, ↓vB, ↓vTru, ↓vTruO, ↓vAnd, ↓vOr, ↓vNot, ↓vAndV, ↓vOrV, ↓vNotV, ↓vIf, ↓vChain, ↓vNil, ↓vCons, ↓vSl, ↓vSlL, ↓vP0, ↓vP1, ↓vRevT, ↓vRevL, ↓vRevLL, ↓vBits, ↓vPop, ↓vLc, ↓vTurn, ↓vYes, ↓gN, ↓gT, ↓gsC, ↓gs0, ↓gSet, ↓wL, ↓wT, ↓wR1, ↓wR2, ↓d2, ↓d20, ↓dAdd, ↓dMul, ↓dEq, ↓dNe, ↓dIsN, ↓dNotN, ↓isN, ↓dNeg, ↓dIx, ↓dInI, ↓dSl, ↓truD, ↓cLen, ↓cAbs, ↓cMax2, ↓cMin2, ↓cInt, ↓cTup, ↓cLst, ↓sv, ↓List.getD_cons_zero, ↓List.getD_cons_succ, ↓List.set_cons_zero, ↓List.set_cons_succ, ↓vxSeq, ↓vxIf, ↓vxRaise, ↓vxRet, ↓vxAsg, ↓vxCall, ↓vReason, ↓vEqS, ↓vIsi, ↓wR3, ↓wZip, ↓vSetDk, ↓vDkIn, ↓vDkPut, ↓vParE, ↓gL, ↓vxDrop, ↓cSrt, ↓cSum, ↓cMinD, ↓cAnyI, ↓vLenSet, ↓vLc2, tI, List.map_cons, List.map_nil, k0, k1]
    have al : a ≤ 100 := by
      rcases Nat.lt_or_ge a 101 with q | q
      · omega
      · have q1 : 4 ^ 101 ≤ 4 ^ a := Nat.pow_le_pow_right (by omega) q
        have q2 : 1006992 < 4 ^ 101 := by decide +kernel
        have q3 : ((4 ^ a : Nat) : Int) * 1 ≤ 4 ^ a * (8 * b + 7) := by
          rw [Int.natCast_pow]
          exact Int.mul_le_mul_of_nonneg_left (by omega) (Int.pow_nonneg (by omega))
        omega
    have q : (2 : Int) ^ a * 2 ^ a = 4 ^ a := by rw [← Int.mul_pow]; rfl
    rw [Int.one_mul, Int.toNat_natCast]
    have e5 : n - 2 ^ a * 2 ^ a = 4 ^ a * (8 * b + 6) := by rw [e, q]; grind
    have p0 : (0 : Int) < 4 ^ a := Int.pow_pos (by omega)
    have p2 : (0 : Int) < 2 ^ a := Int.pow_pos (by omega)
    have n0 : 0 ≤ n - 2 ^ a * 2 ^ a := by rw [e5]; exact Int.mul_nonneg (by omega) (by omega)
    have ps : (2 : Int) ^ a < 18446744073709551616 := by
      have : (2 : Int) ^ a * 1 ≤ 2 ^ a * 2 ^ a := Int.mul_le_mul_of_nonneg_left (by omega) (by omega)
      omega
    refine ⟨rfl, ⟨by omega, by omega, by omega, by omega⟩, mul_small ⟨by omega, ps⟩, n - 2 ^ a * 2 ^ a, rfl, n0, by omega, fun x y z e1 hz hy hx => ?_, fun a' b' e1 => ?_⟩
    · simp only [↓vSeq, ↓vPar, ↓vPar3, ↓vSet, ↓vSetO, ↓vAsg, ↓vAug, ↓vAppend, ↓vExt, ↓vUnp, ↓vFz, ↓vRet, ↓vRetN, ↓vDrop, ↓vIfS, ↓vNext, ↓vBrk, ↓vCnt, ↓vNever, ↓vForS, ↓vC, ↓vVar, ↓vTup, ↓vOf, ↓vBin, ↓vBinL, ↓vBinR, ↓vUn, ↓vCall, ↓vCallO, ↓vCallIO, ↓vCallSC, ↓vLookA, ↓vB, ↓vTru, ↓vTruO, ↓vAnd, ↓vOr, ↓vNot, ↓vAndV, ↓vOrV, ↓vNotV, ↓vIf, ↓vChain, ↓vNil, ↓vCons, ↓vSl, ↓vSlL, ↓vP0, ↓vP1, ↓vRevT, ↓vRevL, ↓vRevLL, ↓vBits, ↓vPop, ↓vLc, ↓vTurn, ↓vYes, ↓gN, ↓gT, ↓gsC, ↓gs0, ↓gSet, ↓wL, ↓wT, ↓wR1, ↓wR2, ↓d2, ↓d20, ↓dAdd, ↓dMul, ↓dEq, ↓dNe, ↓dIsN, ↓dNotN, ↓isN, ↓dNeg, ↓dIx, ↓dInI, ↓dSl, ↓truD, ↓cLen, ↓cAbs, ↓cMax2, ↓cMin2, ↓cInt, ↓cTup, ↓cLst, ↓sv, ↓List.getD_cons_zero, ↓List.getD_cons_succ, ↓List.set_cons_zero, ↓List.set_cons_succ, ↓vxSeq, ↓vxIf, ↓vxRaise, ↓vxRet, ↓vxAsg, ↓vxCall, ↓vReason, ↓vEqS, ↓vIsi, ↓wR3, ↓wZip, ↓vSetDk, ↓vDkIn, ↓vDkPut, ↓vParE, ↓gL, ↓vxDrop, ↓cSrt, ↓cSum, ↓cMinD, ↓cAnyI, ↓vLenSet, ↓vLc2, List.cons_append, List.nil_append]
      refine ⟨by rw [sizeLine_eq]; simp, .inl ⟨[x, y, z, 2 ^ a], rfl, ?_⟩⟩
      obtain ⟨u, v, w, r, e0, g1, g2, g3, g4, g5⟩ := down4 x y z (2 ^ a)
      rw [e0]
      exact h u v w r (by omega) (g5 (by omega) (by omega) hz (by omega)) g1 g2 g3
    · exact (six_seven (e5.symm.trans e1)).elim
end VL

set_option Elab.async false
set_option linter.all false
set_option maxRecDepth 1000000
set_option maxHeartbeats 8000000
namespace VL
open PySem PySem.Spec PyProof.Rows L2 HD
open NQ (Qn Wh mul conj nm RD Near)
theorem tI_eqv (xs ys : List Int) : PyData.eqv (tI xs) (tI ys) = decide (xs = ys) := by
  have h := pl_eqv (tI xs) (tI ys) (plAll_ints xs) (plAll_ints ys)
  by_cases e : xs = ys
  · rw [decide_eq_true e]
    exact h.mpr (by rw [e])
  · rw [decide_eq_false e, ← Bool.not_eq_true]
    exact fun z => e (map_int_inj.mp (by have := h.mp z; injection this))
theorem tI_shaped (xs : List Int) : SeqAt.shaped (tI xs) = true := shaped_pl (plAll_ints xs) (by
  show PyData.depthAll _ + 1 ≤ 64
  have := depth_ints xs
  omega)
theorem ent {q : Qn} (hw : Wh q) (hb : nm q ≤ big) : (-1073741824 < q.a ∧ q.a < 1073741824) ∧ (-1073741824 < q.b ∧ q.b < 1073741824) ∧ (-1073741824 < q.c ∧ q.c < 1073741824) ∧ (-1073741824 < q.d ∧ q.d < 1073741824) := by
  have e := NQ.sq4 hw
  unfold NQ.sq at e
  unfold big at hb
  have key : ∀ x : Int, x * x ≤ 72057594037927936 → -1073741824 < x ∧ x < 1073741824 := fun x hx => by
    constructor
    · rcases Int.lt_or_le (-1073741824) x with z | z
      · exact z
      · have := Int.mul_le_mul (show 1073741824 ≤ -x by omega) (show 1073741824 ≤ -x by omega) (by omega) (by omega)
        have e : -x * -x = x * x := by grind
        omega
    · rcases Int.lt_or_le x 1073741824 with z | z
      · exact z
      · have := Int.mul_le_mul z z (by omega) (by omega)
        omega
  have s1 := sq_nonneg q.a; have s2 := sq_nonneg q.b; have s3 := sq_nonneg q.c; have s4 := sq_nonneg q.d
  exact ⟨key _ (by omega), key _ (by omega), key _ (by omega), key _ (by omega)⟩
/-! ### is_prime -/
theorem fac_pr {p : Nat} (pr : NT.Pr p) {l : List (Nat × Nat)} (h : NT.FacL 2 p l) : l = [(p, 1)] := by
  have p2 := pr.1
  match l, h with
  | [], h => exact absurd h (by show ¬ p = 1; omega)
  | (q, e) :: l, ⟨_, q1, e1, m, hm, nd, hf⟩ =>
    have qe : q = p := q1.self_of_dvd pr (by rw [hm]; exact Nat.dvd_trans (dvd_pow' q (by omega)) ⟨m, rfl⟩)
    subst qe
    have ee : e = 1 := by
      rcases Nat.lt_or_ge e 2 with c | c
      · omega
      · obtain ⟨k, rfl⟩ : ∃ k, e = k + 2 := ⟨e - 2, by omega⟩
        have h1 : q * 2 ≤ q * q := Nat.mul_le_mul_left q p2
        have m1 : 1 ≤ m := Nat.one_le_iff_ne_zero.mpr fun z => by subst z; omega
        have h2 : 1 ≤ q ^ k := Nat.pow_pos (by omega)
        have h3 : q * q * 1 ≤ q * q * (q ^ k * m) := Nat.mul_le_mul_left _ (Nat.mul_pos h2 m1)
        have h4 : q ^ (k + 2) * m = q * q * (q ^ k * m) := by rw [Nat.pow_add]; grind
        omega
    subst ee
    rw [Nat.pow_one] at hm
    have m1 : m = 1 := by
      have : q * m = q * 1 := by omega
      exact Nat.eq_of_mul_eq_mul_left (by omega) this
    subst m1
    match l, hf with
    | [], _ => rfl
    | (r, f) :: l, ⟨_, r1, f1, n, hn, _⟩ =>
      exfalso
      have := r1.1
      have : r ∣ 1 := by rw [hn]; exact Nat.dvd_trans (dvd_pow' r (by omega)) ⟨n, rfl⟩
      have := Nat.le_of_dvd (by decide) this
      omega
theorem hq_is_prime (ds : List D) (Q : D → Prop) (h : sp_is_prime ds Q) : rd_is_prime { nx := fun _ => Q .none, rt := fun d _ => Q d } (ev0 ["number"] ds) := by
  obtain ⟨p, rfl, pr, hs, h⟩ := h
  show rd_is_prime _ [.fr (.int p)]
  have p2 := pr.1
  have c1 : decide ((1 : Int) < (p : Int)) = true := decide_eq_true (by omega)
  simp only [↓rd_is_prime, ↓vSeq, ↓vPar, ↓vPar3, ↓vSet, ↓vSetO, ↓vAsg, ↓vAug, ↓vAppend, ↓vExt, ↓vUnp, ↓vFz, ↓vRet, ↓vRetN, ↓vDrop, ↓vIfS, ↓vNext, ↓vBrk, ↓vCnt, ↓vNever, ↓vForS, ↓vC, ↓vVar, ↓vTup, ↓vOf, ↓vBin, ↓vBinL, ↓vBinR, ↓vUn, ↓vCall, ↓vCallO, ↓vCallIO, ↓vCallSC, ↓vLookA, ↓vB, ↓vTru, ↓vTruO, ↓vAnd, ↓vOr, ↓vNot, ↓vAndV, ↓vOrV, ↓vNotV, ↓vIf, ↓vChain, ↓vNil, ↓vCons, ↓vSl, ↓vSlL, ↓vP0, ↓vP1, ↓vRevT, ↓vRevL, ↓vRevLL, ↓vBits, ↓vPop, ↓vLc, ↓vTurn, ↓vYes, ↓gN, ↓gT, ↓gsC, ↓gs0, ↓gSet, ↓wL, ↓wT, ↓wR1, ↓wR2, ↓d2, ↓d20, ↓dAdd, ↓dMul, ↓dEq, ↓dNe, ↓dIsN, ↓dNotN, ↓isN, ↓dNeg, ↓dIx, ↓dInI, ↓dSl, ↓truD, ↓cLen, ↓cAbs, ↓cMax2, ↓cMin2, ↓cInt, ↓cTup, ↓cLst, ↓sv, ↓List.getD_cons_zero, ↓List.getD_cons_succ, ↓List.set_cons_zero, ↓List.set_cons_succ, ↓vxSeq, ↓vxIf, ↓vxRaise, ↓vxRet, ↓vxAsg, ↓vxCall, ↓vReason, ↓vEqS, ↓vIsi, ↓wR3, ↓wZip, ↓vSetDk, ↓vDkIn, ↓vDkPut, ↓vParE, ↓gL, ↓vxDrop, ↓cSrt, ↓cSum, ↓cMinD, ↓cAnyI, ↓vLenSet, ↓vLc2, c1]
  refine ⟨p, rfl, by omega, by omega, fun l hl => ?_⟩
  rw [fac_pr pr hl]
  have e1 : PyData.eqv (.list ([(p, 1)].map facD)) (.list [.tuple [.int p, .int 1]]) = true := eqv_same rfl rfl rfl
  simp only [↓vSeq, ↓vPar, ↓vPar3, ↓vSet, ↓vSetO, ↓vAsg, ↓vAug, ↓vAppend, ↓vExt, ↓vUnp, ↓vFz, ↓vRet, ↓vRetN, ↓vDrop, ↓vIfS, ↓vNext, ↓vBrk, ↓vCnt, ↓vNever, ↓vForS, ↓vC, ↓vVar, ↓vTup, ↓vOf, ↓vBin, ↓vBinL, ↓vBinR, ↓vUn, ↓vCall, ↓vCallO, ↓vCallIO, ↓vCallSC, ↓vLookA, ↓vB, ↓vTru, ↓vTruO, ↓vAnd, ↓vOr, ↓vNot, ↓vAndV, ↓vOrV, ↓vNotV, ↓vIf, ↓vChain, ↓vNil, ↓vCons, ↓vSl, ↓vSlL, ↓vP0, ↓vP1, ↓vRevT, ↓vRevL, ↓vRevLL, ↓vBits, ↓vPop, ↓vLc, ↓vTurn, ↓vYes, ↓gN, ↓gT, ↓gsC, ↓gs0, ↓gSet, ↓wL, ↓wT, ↓wR1, ↓wR2, ↓d2, ↓d20, ↓dAdd, ↓dMul, ↓dEq, ↓dNe, ↓dIsN, ↓dNotN, ↓isN, ↓dNeg, ↓dIx, ↓dInI, ↓dSl, ↓truD, ↓cLen, ↓cAbs, ↓cMax2, ↓cMin2, ↓cInt, ↓cTup, ↓cLst, ↓sv, ↓List.getD_cons_zero, ↓List.getD_cons_succ, ↓List.set_cons_zero, ↓List.set_cons_succ, ↓vxSeq, ↓vxIf, ↓vxRaise, ↓vxRet, ↓vxAsg, ↓vxCall, ↓vReason, ↓vEqS, ↓vIsi, ↓wR3, ↓wZip, ↓vSetDk, ↓vDkIn, ↓vDkPut, ↓vParE, ↓gL, ↓vxDrop, ↓cSrt, ↓cSum, ↓cMinD, ↓cAnyI, ↓vLenSet, ↓vLc2, e1]
  exact ⟨⟨shaped_pl rfl (by simp [PyData.depth, PyData.depthAll, facD]), shaped_pl rfl (by simp [PyData.depth, PyData.depthAll])⟩, h⟩
/-! ### shapes -/
theorem hq_is_whole (ds : List D) (Q : D → Prop) (h : sp_is_whole ds Q) : rd_is_whole { nx := fun _ => Q .none, rt := fun d _ => Q d } (ev0 ["number"] ds) := by
  obtain ⟨i, rfl, h⟩ := h
  show rd_is_whole _ [.fr (.int i)]
  have i1 : isD "int" (.int i) = true := rfl
  have i2 : isD "bool" (.int i) = false := rfl
  simp only [↓rd_is_whole, ↓vSeq, ↓vPar, ↓vPar3, ↓vSet, ↓vSetO, ↓vAsg, ↓vAug, ↓vAppend, ↓vExt, ↓vUnp, ↓vFz, ↓vRet, ↓vRetN, ↓vDrop, ↓vIfS, ↓vNext, ↓vBrk, ↓vCnt, ↓vNever, ↓vForS, ↓vC, ↓vVar, ↓vTup, ↓vOf, ↓vBin, ↓vBinL, ↓vBinR, ↓vUn, ↓vCall, ↓vCallO, ↓vCallIO, ↓vCallSC, ↓vLookA, ↓vB, ↓vTru, ↓vTruO, ↓vAnd, ↓vOr, ↓vNot, ↓vAndV, ↓vOrV, ↓vNotV, ↓vIf, ↓vChain, ↓vNil, ↓vCons, ↓vSl, ↓vSlL, ↓vP0, ↓vP1, ↓vRevT, ↓vRevL, ↓vRevLL, ↓vBits, ↓vPop, ↓vLc, ↓vTurn, ↓vYes, ↓gN, ↓gT, ↓gsC, ↓gs0, ↓gSet, ↓wL, ↓wT, ↓wR1, ↓wR2, ↓d2, ↓d20, ↓dAdd, ↓dMul, ↓dEq, ↓dNe, ↓dIsN, ↓dNotN, ↓isN, ↓dNeg, ↓dIx, ↓dInI, ↓dSl, ↓truD, ↓cLen, ↓cAbs, ↓cMax2, ↓cMin2, ↓cInt, ↓cTup, ↓cLst, ↓sv, ↓List.getD_cons_zero, ↓List.getD_cons_succ, ↓List.set_cons_zero, ↓List.set_cons_succ, ↓vxSeq, ↓vxIf, ↓vxRaise, ↓vxRet, ↓vxAsg, ↓vxCall, ↓vReason, ↓vEqS, ↓vIsi, ↓wR3, ↓wZip, ↓vSetDk, ↓vDkIn, ↓vDkPut, ↓vParE, ↓gL, ↓vxDrop, ↓cSrt, ↓cSum, ↓cMinD, ↓cAnyI, ↓vLenSet, ↓vLc2, i1, i2]
  exact ⟨trivial, trivial, h⟩
theorem comp_whole (Q : List D → Ev → Prop) (x0 : SV) : ∀ (xs : List Int) (acc : List D), Q (acc ++ xs.map fun _ => PyData.bool true) [x0, .un] → vComp rd_is_row_c1_g rd_is_row_c1_t rd_is_row_c1_e [1] Q (xs.map .int) [x0, .un] acc := by
  intro xs
  induction xs with
  | nil => intro acc h; simpa [vComp] using h
  | cons x xs ih =>
    intro acc h
    rw [List.map_cons]
    show vTurn _ _ _ _ _ _ _ _
    simp only [↓vTurn, ↓rd_is_row_c1_g, ↓rd_is_row_c1_t, ↓rd_is_row_c1_e, ↓wipeE, ↓vSeq, ↓vPar, ↓vPar3, ↓vSet, ↓vSetO, ↓vAsg, ↓vAug, ↓vAppend, ↓vExt, ↓vUnp, ↓vFz, ↓vRet, ↓vRetN, ↓vDrop, ↓vIfS, ↓vNext, ↓vBrk, ↓vCnt, ↓vNever, ↓vForS, ↓vC, ↓vVar, ↓vTup, ↓vOf, ↓vBin, ↓vBinL, ↓vBinR, ↓vUn, ↓vCall, ↓vCallO, ↓vCallIO, ↓vCallSC, ↓vLookA, ↓vB, ↓vTru, ↓vTruO, ↓vAnd, ↓vOr, ↓vNot, ↓vAndV, ↓vOrV, ↓vNotV, ↓vIf, ↓vChain, ↓vNil, ↓vCons, ↓vSl, ↓vSlL, ↓vP0, ↓vP1, ↓vRevT, ↓vRevL, ↓vRevLL, ↓vBits, ↓vPop, ↓vLc, ↓vTurn, ↓vYes, ↓gN, ↓gT, ↓gsC, ↓gs0, ↓gSet, ↓wL, ↓wT, ↓wR1, ↓wR2, ↓d2, ↓d20, ↓dAdd, ↓dMul, ↓dEq, ↓dNe, ↓dIsN, ↓dNotN, ↓isN, ↓dNeg, ↓dIx, ↓dInI, ↓dSl, ↓truD, ↓cLen, ↓cAbs, ↓cMax2, ↓cMin2, ↓cInt, ↓cTup, ↓cLst, ↓sv, ↓List.getD_cons_zero, ↓List.getD_cons_succ, ↓List.set_cons_zero, ↓List.set_cons_succ, ↓vxSeq, ↓vxIf, ↓vxRaise, ↓vxRet, ↓vxAsg, ↓vxCall, ↓vReason, ↓vEqS, ↓vIsi, ↓wR3, ↓wZip, ↓vSetDk, ↓vDkIn, ↓vDkPut, ↓vParE, ↓gL, ↓vxDrop, ↓cSrt, ↓cSum, ↓cMinD, ↓cAnyI, ↓vLenSet, ↓vLc2, back]
    refine ⟨x, rfl, ?_⟩
    refine ih _ ?_
    rw [List.append_assoc]; exact h
theorem boolsOf_true : ∀ xs : List Int, ∃ bs, boolsOf (xs.map fun _ => PyData.bool true) = some bs ∧ bs.all id = true
  | [] => ⟨[], rfl, rfl⟩
  | x :: xs => by
    obtain ⟨bs, h1, h2⟩ := boolsOf_true xs
    exact ⟨true :: bs, by simp [boolsOf, h1], by simpa using h2⟩
theorem hq_is_row (ds : List D) (Q : D → Prop) (h : sp_is_row ds Q) : rd_is_row { nx := fun _ => Q .none, rt := fun d _ => Q d } (ev0 ["row", "number"] ds) := by
  obtain ⟨xs, rfl, hl, h⟩ := h
  show rd_is_row _ [.fr (tI xs), .un]
  have i1 : isD "tuple" (tI xs) = true := rfl
  obtain ⟨bs, b1, b2⟩ := boolsOf_true xs
  simp only [↓rd_is_row, ↓vSeq, ↓vPar, ↓vPar3, ↓vSet, ↓vSetO, ↓vAsg, ↓vAug, ↓vAppend, ↓vExt, ↓vUnp, ↓vFz, ↓vRet, ↓vRetN, ↓vDrop, ↓vIfS, ↓vNext, ↓vBrk, ↓vCnt, ↓vNever, ↓vForS, ↓vC, ↓vVar, ↓vTup, ↓vOf, ↓vBin, ↓vBinL, ↓vBinR, ↓vUn, ↓vCall, ↓vCallO, ↓vCallIO, ↓vCallSC, ↓vLookA, ↓vB, ↓vTru, ↓vTruO, ↓vAnd, ↓vOr, ↓vNot, ↓vAndV, ↓vOrV, ↓vNotV, ↓vIf, ↓vChain, ↓vNil, ↓vCons, ↓vSl, ↓vSlL, ↓vP0, ↓vP1, ↓vRevT, ↓vRevL, ↓vRevLL, ↓vBits, ↓vPop, ↓vLc, ↓vTurn, ↓vYes, ↓gN, ↓gT, ↓gsC, ↓gs0, ↓gSet, ↓wL, ↓wT, ↓wR1, ↓wR2, ↓d2, ↓d20, ↓dAdd, ↓dMul, ↓dEq, ↓dNe, ↓dIsN, ↓dNotN, ↓isN, ↓dNeg, ↓dIx, ↓dInI, ↓dSl, ↓truD, ↓cLen, ↓cAbs, ↓cMax2, ↓cMin2, ↓cInt, ↓cTup, ↓cLst, ↓sv, ↓List.getD_cons_zero, ↓List.getD_cons_succ, ↓List.set_cons_zero, ↓List.set_cons_succ, ↓vxSeq, ↓vxIf, ↓vxRaise, ↓vxRet, ↓vxAsg, ↓vxCall, ↓vReason, ↓vEqS, ↓vIsi, ↓wR3, ↓wZip, ↓vSetDk, ↓vDkIn, ↓vDkPut, ↓vParE, ↓gL, ↓vxDrop, ↓cSrt, ↓cSum, ↓cMinD, ↓cAnyI, ↓vLenSet, ↓vLc2, i1]
  refine ⟨trivial, ?_⟩
  simp only [tI]
  refine ⟨by rw [List.length_map, sizeLine_eq]; omega, fun i hi => ?_, comp_whole _ _ xs [] ?_⟩
  · obtain rfl : i = 1 := by simpa using hi
    exact id
  · simp only [List.nil_append, cAll, b1, b2]
    exact h
theorem comp_mod (Q : List D → Ev → Prop) (x0 : SV) : ∀ (xs : List Int) (acc : List D), Q (acc ++ (xs.map fun x => x % 2).map .int) [x0, .un] → vComp rd_is_whole_quaternion_c1_g rd_is_whole_quaternion_c1_t rd_is_whole_quaternion_c1_e [1] Q (xs.map .int) [x0, .un] acc := by
  intro xs
  induction xs with
  | nil => intro acc h; simpa [vComp] using h
  | cons x xs ih =>
    intro acc h
    rw [List.map_cons]
    show vTurn _ _ _ _ _ _ _ _
    simp only [↓vTurn, ↓rd_is_whole_quaternion_c1_g, ↓rd_is_whole_quaternion_c1_t, ↓rd_is_whole_quaternion_c1_e, ↓wipeE, ↓vSeq, ↓vPar, ↓vPar3, ↓vSet, ↓vSetO, ↓vAsg, ↓vAug, ↓vAppend, ↓vExt, ↓vUnp, ↓vFz, ↓vRet, ↓vRetN, ↓vDrop, ↓vIfS, ↓vNext, ↓vBrk, ↓vCnt, ↓vNever, ↓vForS, ↓vC, ↓vVar, ↓vTup, ↓vOf, ↓vBin, ↓vBinL, ↓vBinR, ↓vUn, ↓vCall, ↓vCallO, ↓vCallIO, ↓vCallSC, ↓vLookA, ↓vB, ↓vTru, ↓vTruO, ↓vAnd, ↓vOr, ↓vNot, ↓vAndV, ↓vOrV, ↓vNotV, ↓vIf, ↓vChain, ↓vNil, ↓vCons, ↓vSl, ↓vSlL, ↓vP0, ↓vP1, ↓vRevT, ↓vRevL, ↓vRevLL, ↓vBits, ↓vPop, ↓vLc, ↓vTurn, ↓vYes, ↓gN, ↓gT, ↓gsC, ↓gs0, ↓gSet, ↓wL, ↓wT, ↓wR1, ↓wR2, ↓d2, ↓d20, ↓dAdd, ↓dMul, ↓dEq, ↓dNe, ↓dIsN, ↓dNotN, ↓isN, ↓dNeg, ↓dIx, ↓dInI, ↓dSl, ↓truD, ↓cLen, ↓cAbs, ↓cMax2, ↓cMin2, ↓cInt, ↓cTup, ↓cLst, ↓sv, ↓List.getD_cons_zero, ↓List.getD_cons_succ, ↓List.set_cons_zero, ↓List.set_cons_succ, ↓vxSeq, ↓vxIf, ↓vxRaise, ↓vxRet, ↓vxAsg, ↓vxCall, ↓vReason, ↓vEqS, ↓vIsi, ↓wR3, ↓wZip, ↓vSetDk, ↓vDkIn, ↓vDkPut, ↓vParE, ↓gL, ↓vxDrop, ↓cSrt, ↓cSum, ↓cMinD, ↓cAnyI, ↓vLenSet, ↓vLc2, back]
    refine ⟨by omega, ?_⟩
    rw [fmod_pos (by omega)]
    refine ih _ ?_
    rw [List.append_assoc]; exact h
theorem met4 (q : Qn) : decide (((metN [q.a % 2, q.b % 2, q.c % 2, q.d % 2] : Nat) : Int) = 1) = decide (Wh q) := by
  have key : ∀ s t u v : Int, (s = 0 ∨ s = 1) → (t = 0 ∨ t = 1) → (u = 0 ∨ u = 1) → (v = 0 ∨ v = 1) → decide (((metN [s, t, u, v] : Nat) : Int) = 1) = decide (s = t ∧ t = u ∧ u = v) := by
    intro s t u v hs ht hu hv
    rcases hs with rfl | rfl <;> rcases ht with rfl | rfl <;> rcases hu with rfl | rfl <;> rcases hv with rfl | rfl <;> decide +kernel
  exact key _ _ _ _ (by omega) (by omega) (by omega) (by omega)
theorem hq_is_whole_quaternion (ds : List D) (Q : D → Prop) (h : sp_is_whole_quaternion ds Q) : rd_is_whole_quaternion { nx := fun _ => Q .none, rt := fun d _ => Q d } (ev0 ["shape", "number"] ds) := by
  obtain ⟨q, rfl, h⟩ := h
  show rd_is_whole_quaternion _ [.fr (qD q), .un]
  simp only [↓rd_is_whole_quaternion, ↓vSeq, ↓vPar, ↓vPar3, ↓vSet, ↓vSetO, ↓vAsg, ↓vAug, ↓vAppend, ↓vExt, ↓vUnp, ↓vFz, ↓vRet, ↓vRetN, ↓vDrop, ↓vIfS, ↓vNext, ↓vBrk, ↓vCnt, ↓vNever, ↓vForS, ↓vC, ↓vVar, ↓vTup, ↓vOf, ↓vBin, ↓vBinL, ↓vBinR, ↓vUn, ↓vCall, ↓vCallO, ↓vCallIO, ↓vCallSC, ↓vLookA, ↓vB, ↓vTru, ↓vTruO, ↓vAnd, ↓vOr, ↓vNot, ↓vAndV, ↓vOrV, ↓vNotV, ↓vIf, ↓vChain, ↓vNil, ↓vCons, ↓vSl, ↓vSlL, ↓vP0, ↓vP1, ↓vRevT, ↓vRevL, ↓vRevLL, ↓vBits, ↓vPop, ↓vLc, ↓vTurn, ↓vYes, ↓gN, ↓gT, ↓gsC, ↓gs0, ↓gSet, ↓wL, ↓wT, ↓wR1, ↓wR2, ↓d2, ↓d20, ↓dAdd, ↓dMul, ↓dEq, ↓dNe, ↓dIsN, ↓dNotN, ↓isN, ↓dNeg, ↓dIx, ↓dInI, ↓dSl, ↓truD, ↓cLen, ↓cAbs, ↓cMax2, ↓cMin2, ↓cInt, ↓cTup, ↓cLst, ↓sv, ↓List.getD_cons_zero, ↓List.getD_cons_succ, ↓List.set_cons_zero, ↓List.set_cons_succ, ↓vxSeq, ↓vxIf, ↓vxRaise, ↓vxRet, ↓vxAsg, ↓vxCall, ↓vReason, ↓vEqS, ↓vIsi, ↓wR3, ↓wZip, ↓vSetDk, ↓vDkIn, ↓vDkPut, ↓vParE, ↓gL, ↓vxDrop, ↓cSrt, ↓cSum, ↓cMinD, ↓cAnyI, ↓vLenSet, ↓vLc2]
  refine ⟨[q.a, q.b, q.c, q.d], rfl, by simp, ?_⟩
  simp only [qD, tI, ↓vSeq, ↓vPar, ↓vPar3, ↓vSet, ↓vSetO, ↓vAsg, ↓vAug, ↓vAppend, ↓vExt, ↓vUnp, ↓vFz, ↓vRet, ↓vRetN, ↓vDrop, ↓vIfS, ↓vNext, ↓vBrk, ↓vCnt, ↓vNever, ↓vForS, ↓vC, ↓vVar, ↓vTup, ↓vOf, ↓vBin, ↓vBinL, ↓vBinR, ↓vUn, ↓vCall, ↓vCallO, ↓vCallIO, ↓vCallSC, ↓vLookA, ↓vB, ↓vTru, ↓vTruO, ↓vAnd, ↓vOr, ↓vNot, ↓vAndV, ↓vOrV, ↓vNotV, ↓vIf, ↓vChain, ↓vNil, ↓vCons, ↓vSl, ↓vSlL, ↓vP0, ↓vP1, ↓vRevT, ↓vRevL, ↓vRevLL, ↓vBits, ↓vPop, ↓vLc, ↓vTurn, ↓vYes, ↓gN, ↓gT, ↓gsC, ↓gs0, ↓gSet, ↓wL, ↓wT, ↓wR1, ↓wR2, ↓d2, ↓d20, ↓dAdd, ↓dMul, ↓dEq, ↓dNe, ↓dIsN, ↓dNotN, ↓isN, ↓dNeg, ↓dIx, ↓dInI, ↓dSl, ↓truD, ↓cLen, ↓cAbs, ↓cMax2, ↓cMin2, ↓cInt, ↓cTup, ↓cLst, ↓sv, ↓List.getD_cons_zero, ↓List.getD_cons_succ, ↓List.set_cons_zero, ↓List.set_cons_succ, ↓vxSeq, ↓vxIf, ↓vxRaise, ↓vxRet, ↓vxAsg, ↓vxCall, ↓vReason, ↓vEqS, ↓vIsi, ↓wR3, ↓wZip, ↓vSetDk, ↓vDkIn, ↓vDkPut, ↓vParE, ↓gL, ↓vxDrop, ↓cSrt, ↓cSum, ↓cMinD, ↓cAnyI, ↓vLenSet, ↓vLc2, List.length_map, List.length_cons, List.length_nil]
  have c4 : decide (((0 + 1 + 1 + 1 + 1 : Nat) : Int) = 4) = true := by decide
  simp only [c4]
  refine ⟨by rw [sizeLine_eq]; decide, fun i hi => ?_, comp_mod _ _ [q.a, q.b, q.c, q.d] [] ?_⟩
  · obtain rfl : i = 1 := by simpa using hi
    exact id
  · have i4 := intsOf_map [q.a % 2, q.b % 2, q.c % 2, q.d % 2]
    simp only [List.map_cons, List.map_nil] at i4
    simp only [List.nil_append, List.map_cons, List.map_nil, ↓vSeq, ↓vPar, ↓vPar3, ↓vSet, ↓vSetO, ↓vAsg, ↓vAug, ↓vAppend, ↓vExt, ↓vUnp, ↓vFz, ↓vRet, ↓vRetN, ↓vDrop, ↓vIfS, ↓vNext, ↓vBrk, ↓vCnt, ↓vNever, ↓vForS, ↓vC, ↓vVar, ↓vTup, ↓vOf, ↓vBin, ↓vBinL, ↓vBinR, ↓vUn, ↓vCall, ↓vCallO, ↓vCallIO, ↓vCallSC, ↓vLookA, ↓vB, ↓vTru, ↓vTruO, ↓vAnd, ↓vOr, ↓vNot, ↓vAndV, ↓vOrV, ↓vNotV, ↓vIf, ↓vChain, ↓vNil, ↓vCons, ↓vSl, ↓vSlL, ↓vP0, ↓vP1, ↓vRevT, ↓vRevL, ↓vRevLL, ↓vBits, ↓vPop, ↓vLc, ↓vTurn, ↓vYes, ↓gN, ↓gT, ↓gsC, ↓gs0, ↓gSet, ↓wL, ↓wT, ↓wR1, ↓wR2, ↓d2, ↓d20, ↓dAdd, ↓dMul, ↓dEq, ↓dNe, ↓dIsN, ↓dNotN, ↓isN, ↓dNeg, ↓dIx, ↓dInI, ↓dSl, ↓truD, ↓cLen, ↓cAbs, ↓cMax2, ↓cMin2, ↓cInt, ↓cTup, ↓cLst, ↓sv, ↓List.getD_cons_zero, ↓List.getD_cons_succ, ↓List.set_cons_zero, ↓List.set_cons_succ, ↓vxSeq, ↓vxIf, ↓vxRaise, ↓vxRet, ↓vxAsg, ↓vxCall, ↓vReason, ↓vEqS, ↓vIsi, ↓wR3, ↓wZip, ↓vSetDk, ↓vDkIn, ↓vDkPut, ↓vParE, ↓gL, ↓vxDrop, ↓cSrt, ↓cSum, ↓cMinD, ↓cAnyI, ↓vLenSet, ↓vLc2, i4]
    refine ⟨by simp, ?_⟩
    rw [met4]
    exact h
theorem hq_check_quaternion (ds : List D) (Q : D → Prop) (h : sp_check_quaternion ds Q) : rd_check_quaternion { nx := fun _ => Q .none, rt := fun d _ => Q d } (ev0 ["one"] ds) := by
  obtain ⟨q, rfl, hw, h⟩ := h
  show rd_check_quaternion _ [.fr (qD q)]
  simp only [↓rd_check_quaternion, ↓vSeq, ↓vPar, ↓vPar3, ↓vSet, ↓vSetO, ↓vAsg, ↓vAug, ↓vAppend, ↓vExt, ↓vUnp, ↓vFz, ↓vRet, ↓vRetN, ↓vDrop, ↓vIfS, ↓vNext, ↓vBrk, ↓vCnt, ↓vNever, ↓vForS, ↓vC, ↓vVar, ↓vTup, ↓vOf, ↓vBin, ↓vBinL, ↓vBinR, ↓vUn, ↓vCall, ↓vCallO, ↓vCallIO, ↓vCallSC, ↓vLookA, ↓vB, ↓vTru, ↓vTruO, ↓vAnd, ↓vOr, ↓vNot, ↓vAndV, ↓vOrV, ↓vNotV, ↓vIf, ↓vChain, ↓vNil, ↓vCons, ↓vSl, ↓vSlL, ↓vP0, ↓vP1, ↓vRevT, ↓vRevL, ↓vRevLL, ↓vBits, ↓vPop, ↓vLc, ↓vTurn, ↓vYes, ↓gN, ↓gT, ↓gsC, ↓gs0, ↓gSet, ↓wL, ↓wT, ↓wR1, ↓wR2, ↓d2, ↓d20, ↓dAdd, ↓dMul, ↓dEq, ↓dNe, ↓dIsN, ↓dNotN, ↓isN, ↓dNeg, ↓dIx, ↓dInI, ↓dSl, ↓truD, ↓cLen, ↓cAbs, ↓cMax2, ↓cMin2, ↓cInt, ↓cTup, ↓cLst, ↓sv, ↓List.getD_cons_zero, ↓List.getD_cons_succ, ↓List.set_cons_zero, ↓List.set_cons_succ, ↓vxSeq, ↓vxIf, ↓vxRaise, ↓vxRet, ↓vxAsg, ↓vxCall, ↓vReason, ↓vEqS, ↓vIsi, ↓wR3, ↓wZip, ↓vSetDk, ↓vDkIn, ↓vDkPut, ↓vParE, ↓gL, ↓vxDrop, ↓cSrt, ↓cSum, ↓cMinD, ↓cAnyI, ↓vLenSet, ↓vLc2]
  refine ⟨q, rfl, ?_⟩
  simp only [decide_eq_true hw]
  exact h
theorem hqx_check_quaternion (ds : List D) (Q : D → Prop) (Rv : Str → Prop) (h : spx_check_quaternion ds Q Rv) : rdx_check_quaternion Rv { nx := fun _ => Q .none, rt := fun d _ => Q d } (ev0 ["one"] ds) := by
  obtain ⟨q, rfl, hw, h⟩ := h
  show rdx_check_quaternion _ _ [.fr (qD q)]
  simp only [↓rdx_check_quaternion, ↓vSeq, ↓vPar, ↓vPar3, ↓vSet, ↓vSetO, ↓vAsg, ↓vAug, ↓vAppend, ↓vExt, ↓vUnp, ↓vFz, ↓vRet, ↓vRetN, ↓vDrop, ↓vIfS, ↓vNext, ↓vBrk, ↓vCnt, ↓vNever, ↓vForS, ↓vC, ↓vVar, ↓vTup, ↓vOf, ↓vBin, ↓vBinL, ↓vBinR, ↓vUn, ↓vCall, ↓vCallO, ↓vCallIO, ↓vCallSC, ↓vLookA, ↓vB, ↓vTru, ↓vTruO, ↓vAnd, ↓vOr, ↓vNot, ↓vAndV, ↓vOrV, ↓vNotV, ↓vIf, ↓vChain, ↓vNil, ↓vCons, ↓vSl, ↓vSlL, ↓vP0, ↓vP1, ↓vRevT, ↓vRevL, ↓vRevLL, ↓vBits, ↓vPop, ↓vLc, ↓vTurn, ↓vYes, ↓gN, ↓gT, ↓gsC, ↓gs0, ↓gSet, ↓wL, ↓wT, ↓wR1, ↓wR2, ↓d2, ↓d20, ↓dAdd, ↓dMul, ↓dEq, ↓dNe, ↓dIsN, ↓dNotN, ↓isN, ↓dNeg, ↓dIx, ↓dInI, ↓dSl, ↓truD, ↓cLen, ↓cAbs, ↓cMax2, ↓cMin2, ↓cInt, ↓cTup, ↓cLst, ↓sv, ↓List.getD_cons_zero, ↓List.getD_cons_succ, ↓List.set_cons_zero, ↓List.set_cons_succ, ↓vxSeq, ↓vxIf, ↓vxRaise, ↓vxRet, ↓vxAsg, ↓vxCall, ↓vReason, ↓vEqS, ↓vIsi, ↓wR3, ↓wZip, ↓vSetDk, ↓vDkIn, ↓vDkPut, ↓vParE, ↓gL, ↓vxDrop, ↓cSrt, ↓cSum, ↓cMinD, ↓cAnyI, ↓vLenSet, ↓vLc2]
  refine ⟨q, rfl, ?_⟩
  simp only [decide_eq_false hw]
  exact h
/-! ### times -/
theorem comp_half (Q : List D → Ev → Prop) (x0 x1 x2 x3 x4 x5 x6 x7 x8 x9 x10 : SV) : ∀ (xs : List Int) (acc : List D), Q (acc ++ (xs.map fun x => x / 2).map .int) [x0, x1, x2, x3, x4, x5, x6, x7, x8, x9, x10, .un] → vComp rd_times_four_c1_g rd_times_four_c1_t rd_times_four_c1_e [11] Q (xs.map .int) [x0, x1, x2, x3, x4, x5, x6, x7, x8, x9, x10, .un] acc := by
  intro xs
  induction xs with
  | nil => intro acc h; simpa [vComp] using h
  | cons x xs ih =>
    intro acc h
    rw [List.map_cons]
    show vTurn _ _ _ _ _ _ _ _
    simp only [↓vTurn, ↓rd_times_four_c1_g, ↓rd_times_four_c1_t, ↓rd_times_four_c1_e, ↓wipeE, ↓vSeq, ↓vPar, ↓vPar3, ↓vSet, ↓vSetO, ↓vAsg, ↓vAug, ↓vAppend, ↓vExt, ↓vUnp, ↓vFz, ↓vRet, ↓vRetN, ↓vDrop, ↓vIfS, ↓vNext, ↓vBrk, ↓vCnt, ↓vNever, ↓vForS, ↓vC, ↓vVar, ↓vTup, ↓vOf, ↓vBin, ↓vBinL, ↓vBinR, ↓vUn, ↓vCall, ↓vCallO, ↓vCallIO, ↓vCallSC, ↓vLookA, ↓vB, ↓vTru, ↓vTruO, ↓vAnd, ↓vOr, ↓vNot, ↓vAndV, ↓vOrV, ↓vNotV, ↓vIf, ↓vChain, ↓vNil, ↓vCons, ↓vSl, ↓vSlL, ↓vP0, ↓vP1, ↓vRevT, ↓vRevL, ↓vRevLL, ↓vBits, ↓vPop, ↓vLc, ↓vTurn, ↓vYes, ↓gN, ↓gT, ↓gsC, ↓gs0, ↓gSet, ↓wL, ↓wT, ↓wR1, ↓wR2, ↓d2, ↓d20, ↓dAdd, ↓dMul, ↓dEq, ↓dNe, ↓dIsN, ↓dNotN, ↓isN, ↓dNeg, ↓dIx, ↓dInI, ↓dSl, ↓truD, ↓cLen, ↓cAbs, ↓cMax2, ↓cMin2, ↓cInt, ↓cTup, ↓cLst, ↓sv, ↓List.getD_cons_zero, ↓List.getD_cons_succ, ↓List.set_cons_zero, ↓List.set_cons_succ, ↓vxSeq, ↓vxIf, ↓vxRaise, ↓vxRet, ↓vxAsg, ↓vxCall, ↓vReason, ↓vEqS, ↓vIsi, ↓wR3, ↓wZip, ↓vSetDk, ↓vDkIn, ↓vDkPut, ↓vParE, ↓gL, ↓vxDrop, ↓cSrt, ↓cSum, ↓cMinD, ↓cAnyI, ↓vLenSet, ↓vLc2, back]
    refine ⟨div_small (by omega) ⟨by omega, by omega⟩, ?_⟩
    rw [fdiv_pos (by omega)]
    refine ih _ ?_
    rw [List.append_assoc]; exact h
theorem hq_times_four (ds : List D) (Q : D → Prop) (h : sp_times_four ds Q) : rd_times_four { nx := fun _ => Q .none, rt := fun d _ => Q d } (ev0 ["one", "other", "a", "b", "c", "d", "e", "f", "g", "h", "found", "number"] ds) := by
  obtain ⟨x, y, rfl, hx, bx, hy, by_, h⟩ := h
  show rd_times_four _ [.fr (qD x), .fr (qD y), .un, .un, .un, .un, .un, .un, .un, .un, .un, .un]
  obtain ⟨e1, e2, e3, e4⟩ := ent hx bx
  have m1 : ∀ z, mulOk x.a z := fun z => mul_smallL ⟨by omega, by omega⟩
  have m2 : ∀ z, mulOk x.b z := fun z => mul_smallL ⟨by omega, by omega⟩
  have m3 : ∀ z, mulOk x.c z := fun z => mul_smallL ⟨by omega, by omega⟩
  have m4 : ∀ z, mulOk x.d z := fun z => mul_smallL ⟨by omega, by omega⟩
  simp only [↓rd_times_four, ↓vSeq, ↓vPar, ↓vPar3, ↓vSet, ↓vSetO, ↓vAsg, ↓vAug, ↓vAppend, ↓vExt, ↓vUnp, ↓vFz, ↓vRet, ↓vRetN, ↓vDrop, ↓vIfS, ↓vNext, ↓vBrk, ↓vCnt, ↓vNever, ↓vForS, ↓vC, ↓vVar, ↓vTup, ↓vOf, ↓vBin, ↓vBinL, ↓vBinR, ↓vUn, ↓vCall, ↓vCallO, ↓vCallIO, ↓vCallSC, ↓vLookA, ↓vB, ↓vTru, ↓vTruO, ↓vAnd, ↓vOr, ↓vNot, ↓vAndV, ↓vOrV, ↓vNotV, ↓vIf, ↓vChain, ↓vNil, ↓vCons, ↓vSl, ↓vSlL, ↓vP0, ↓vP1, ↓vRevT, ↓vRevL, ↓vRevLL, ↓vBits, ↓vPop, ↓vLc, ↓vTurn, ↓vYes, ↓gN, ↓gT, ↓gsC, ↓gs0, ↓gSet, ↓wL, ↓wT, ↓wR1, ↓wR2, ↓d2, ↓d20, ↓dAdd, ↓dMul, ↓dEq, ↓dNe, ↓dIsN, ↓dNotN, ↓isN, ↓dNeg, ↓dIx, ↓dInI, ↓dSl, ↓truD, ↓cLen, ↓cAbs, ↓cMax2, ↓cMin2, ↓cInt, ↓cTup, ↓cLst, ↓sv, ↓List.getD_cons_zero, ↓List.getD_cons_succ, ↓List.set_cons_zero, ↓List.set_cons_succ, ↓vxSeq, ↓vxIf, ↓vxRaise, ↓vxRet, ↓vxAsg, ↓vxCall, ↓vReason, ↓vEqS, ↓vIsi, ↓wR3, ↓wZip, ↓vSetDk, ↓vDkIn, ↓vDkPut, ↓vParE, ↓gL, ↓vxDrop, ↓cSrt, ↓cSum, ↓cMinD, ↓cAnyI, ↓vLenSet, ↓vLc2]
  refine ⟨x, rfl, hx, y, rfl, hy, ?_⟩
  simp only [qD, tI, List.map_cons, List.map_nil, ↓vSeq, ↓vPar, ↓vPar3, ↓vSet, ↓vSetO, ↓vAsg, ↓vAug, ↓vAppend, ↓vExt, ↓vUnp, ↓vFz, ↓vRet, ↓vRetN, ↓vDrop, ↓vIfS, ↓vNext, ↓vBrk, ↓vCnt, ↓vNever, ↓vForS, ↓vC, ↓vVar, ↓vTup, ↓vOf, ↓vBin, ↓vBinL, ↓vBinR, ↓vUn, ↓vCall, ↓vCallO, ↓vCallIO, ↓vCallSC, ↓vLookA, ↓vB, ↓vTru, ↓vTruO, ↓vAnd, ↓vOr, ↓vNot, ↓vAndV, ↓vOrV, ↓vNotV, ↓vIf, ↓vChain, ↓vNil, ↓vCons, ↓vSl, ↓vSlL, ↓vP0, ↓vP1, ↓vRevT, ↓vRevL, ↓vRevLL, ↓vBits, ↓vPop, ↓vLc, ↓vTurn, ↓vYes, ↓gN, ↓gT, ↓gsC, ↓gs0, ↓gSet, ↓wL, ↓wT, ↓wR1, ↓wR2, ↓d2, ↓d20, ↓dAdd, ↓dMul, ↓dEq, ↓dNe, ↓dIsN, ↓dNotN, ↓isN, ↓dNeg, ↓dIx, ↓dInI, ↓dSl, ↓truD, ↓cLen, ↓cAbs, ↓cMax2, ↓cMin2, ↓cInt, ↓cTup, ↓cLst, ↓sv, ↓List.getD_cons_zero, ↓List.getD_cons_succ, ↓List.set_cons_zero, ↓List.set_cons_succ, ↓vxSeq, ↓vxIf, ↓vxRaise, ↓vxRet, ↓vxAsg, ↓vxCall, ↓vReason, ↓vEqS, ↓vIsi, ↓wR3, ↓wZip, ↓vSetDk, ↓vDkIn, ↓vDkPut, ↓vParE, ↓gL, ↓vxDrop, ↓cSrt, ↓cSum, ↓cMinD, ↓cAnyI, ↓vLenSet, ↓vLc2, m1, m2, m3, m4, true_and, List.length_cons, List.length_nil]
  refine ⟨by rw [sizeLine_eq]; decide, fun i hi => ?_, comp_half _ _ _ _ _ _ _ _ _ _ _ _ [(NQ.P x y).a, (NQ.P x y).b, (NQ.P x y).c, (NQ.P x y).d] [] ?_⟩
  · obtain rfl : i = 11 := by simpa using hi
    exact id
  · exact h
theorem hqx_times_four (ds : List D) (Q : D → Prop) (Rv : Str → Prop) (h : spx_times_four ds Q Rv) : rdx_times_four Rv { nx := fun _ => Q .none, rt := fun d _ => Q d } (ev0 ["one", "other", "a", "b", "c", "d", "e", "f", "g", "h", "found", "number"] ds) := by
  obtain ⟨x, y, rfl, hx, h⟩ := h
  show rdx_times_four _ _ [.fr (qD x), .fr (qD y), .un, .un, .un, .un, .un, .un, .un, .un, .un, .un]
  simp only [↓rdx_times_four, ↓vSeq, ↓vPar, ↓vPar3, ↓vSet, ↓vSetO, ↓vAsg, ↓vAug, ↓vAppend, ↓vExt, ↓vUnp, ↓vFz, ↓vRet, ↓vRetN, ↓vDrop, ↓vIfS, ↓vNext, ↓vBrk, ↓vCnt, ↓vNever, ↓vForS, ↓vC, ↓vVar, ↓vTup, ↓vOf, ↓vBin, ↓vBinL, ↓vBinR, ↓vUn, ↓vCall, ↓vCallO, ↓vCallIO, ↓vCallSC, ↓vLookA, ↓vB, ↓vTru, ↓vTruO, ↓vAnd, ↓vOr, ↓vNot, ↓vAndV, ↓vOrV, ↓vNotV, ↓vIf, ↓vChain, ↓vNil, ↓vCons, ↓vSl, ↓vSlL, ↓vP0, ↓vP1, ↓vRevT, ↓vRevL, ↓vRevLL, ↓vBits, ↓vPop, ↓vLc, ↓vTurn, ↓vYes, ↓gN, ↓gT, ↓gsC, ↓gs0, ↓gSet, ↓wL, ↓wT, ↓wR1, ↓wR2, ↓d2, ↓d20, ↓dAdd, ↓dMul, ↓dEq, ↓dNe, ↓dIsN, ↓dNotN, ↓isN, ↓dNeg, ↓dIx, ↓dInI, ↓dSl, ↓truD, ↓cLen, ↓cAbs, ↓cMax2, ↓cMin2, ↓cInt, ↓cTup, ↓cLst, ↓sv, ↓List.getD_cons_zero, ↓List.getD_cons_succ, ↓List.set_cons_zero, ↓List.set_cons_succ, ↓vxSeq, ↓vxIf, ↓vxRaise, ↓vxRet, ↓vxAsg, ↓vxCall, ↓vReason, ↓vEqS, ↓vIsi, ↓wR3, ↓wZip, ↓vSetDk, ↓vDkIn, ↓vDkPut, ↓vParE, ↓gL, ↓vxDrop, ↓cSrt, ↓cSum, ↓cMinD, ↓cAnyI, ↓vLenSet, ↓vLc2]
  exact ⟨x, rfl, hx, h⟩
theorem hq_turned_four (ds : List D) (Q : D → Prop) (h : sp_turned_four ds Q) : rd_turned_four { nx := fun _ => Q .none, rt := fun d _ => Q d } (ev0 ["one"] ds) := by
  obtain ⟨x, rfl, h⟩ := h
  show rd_turned_four _ [.fr (qD x)]
  have k0 : ∀ a b c d : D, atI [a, b, c, d] 0 = some a := fun a b c d => rfl
  have k1 : ∀ a b c d : D, atI [a, b, c, d] 1 = some b := fun a b c d => rfl
  have k2 : ∀ a b c d : D, atI [a, b, c, d] 2 = some c := fun a b c d => rfl
  have k3 : ∀ a b c d : D, atI [a, b, c, d] 3 = some d := fun a b c d => rfl
  simp only [↓rd_turned_four, ↓vSeq, ↓vPar, ↓vPar3, ↓vSet, ↓vSetO, ↓vAsg, ↓vAug, ↓vAppend, ↓vExt, ↓vUnp, ↓vFz, ↓vRet, ↓vRetN, ↓vDrop, ↓vIfS, ↓vNext, ↓vBrk, ↓vCnt, ↓vNever, ↓vForS, ↓vC, ↓vVar, ↓vTup, ↓vOf, ↓vBin, ↓vBinL, ↓vBinR, ↓vUn, ↓vCall, ↓vCallO, ↓vCallIO, ↓vCallSC, ↓vLookA, ↓vB, ↓vTru, ↓vTruO, ↓vAnd, ↓vOr, ↓vNot, ↓vAndV, ↓vOrV, ↓vNotV, ↓vIf, ↓vChain, ↓vNil, ↓vCons, ↓vSl, ↓vSlL, ↓vP0, ↓vP1, ↓vRevT, ↓vRevL, ↓vRevLL, ↓vBits, ↓vPop, ↓vLc, ↓vTurn, ↓vYes, ↓gN, ↓gT, ↓gsC, ↓gs0, ↓gSet, ↓wL, ↓wT, ↓wR1, ↓wR2, ↓d2, ↓d20, ↓dAdd, ↓dMul, ↓dEq, ↓dNe, ↓dIsN, ↓dNotN, ↓isN, ↓dNeg, ↓dIx, ↓dInI, ↓dSl, ↓truD, ↓cLen, ↓cAbs, ↓cMax2, ↓cMin2, ↓cInt, ↓cTup, ↓cLst, ↓sv, ↓List.getD_cons_zero, ↓List.getD_cons_succ, ↓List.set_cons_zero, ↓List.set_cons_succ, ↓vxSeq, ↓vxIf, ↓vxRaise, ↓vxRet, ↓vxAsg, ↓vxCall, ↓vReason, ↓vEqS, ↓vIsi, ↓wR3, ↓wZip, ↓vSetDk, ↓vDkIn, ↓vDkPut, ↓vParE, ↓gL, ↓vxDrop, ↓cSrt, ↓cSum, ↓cMinD, ↓cAnyI, ↓vLenSet, ↓vLc2, qD, tI, List.map_cons, List.map_nil, k0, k1, k2, k3]
  exact h
theorem comp_sqn (Q : List D → Ev → Prop) (x0 : SV) : ∀ (xs : List Int) (acc : List D), (∀ x ∈ xs, small x) → Q (acc ++ (xs.map fun x => x * x).map .int) [x0, .un] → vComp rd_norm_four_c1_g rd_norm_four_c1_t rd_norm_four_c1_e [1] Q (xs.map .int) [x0, .un] acc := by
  intro xs
  induction xs with
  | nil => intro acc _ h; simpa [vComp] using h
  | cons x xs ih =>
    intro acc hx h
    rw [List.map_cons]
    show vTurn _ _ _ _ _ _ _ _
    simp only [↓vTurn, ↓rd_norm_four_c1_g, ↓rd_norm_four_c1_t, ↓rd_norm_four_c1_e, ↓wipeE, ↓vSeq, ↓vPar, ↓vPar3, ↓vSet, ↓vSetO, ↓vAsg, ↓vAug, ↓vAppend, ↓vExt, ↓vUnp, ↓vFz, ↓vRet, ↓vRetN, ↓vDrop, ↓vIfS, ↓vNext, ↓vBrk, ↓vCnt, ↓vNever, ↓vForS, ↓vC, ↓vVar, ↓vTup, ↓vOf, ↓vBin, ↓vBinL, ↓vBinR, ↓vUn, ↓vCall, ↓vCallO, ↓vCallIO, ↓vCallSC, ↓vLookA, ↓vB, ↓vTru, ↓vTruO, ↓vAnd, ↓vOr, ↓vNot, ↓vAndV, ↓vOrV, ↓vNotV, ↓vIf, ↓vChain, ↓vNil, ↓vCons, ↓vSl, ↓vSlL, ↓vP0, ↓vP1, ↓vRevT, ↓vRevL, ↓vRevLL, ↓vBits, ↓vPop, ↓vLc, ↓vTurn, ↓vYes, ↓gN, ↓gT, ↓gsC, ↓gs0, ↓gSet, ↓wL, ↓wT, ↓wR1, ↓wR2, ↓d2, ↓d20, ↓dAdd, ↓dMul, ↓dEq, ↓dNe, ↓dIsN, ↓dNotN, ↓isN, ↓dNeg, ↓dIx, ↓dInI, ↓dSl, ↓truD, ↓cLen, ↓cAbs, ↓cMax2, ↓cMin2, ↓cInt, ↓cTup, ↓cLst, ↓sv, ↓List.getD_cons_zero, ↓List.getD_cons_succ, ↓List.set_cons_zero, ↓List.set_cons_succ, ↓vxSeq, ↓vxIf, ↓vxRaise, ↓vxRet, ↓vxAsg, ↓vxCall, ↓vReason, ↓vEqS, ↓vIsi, ↓wR3, ↓wZip, ↓vSetDk, ↓vDkIn, ↓vDkPut, ↓vParE, ↓gL, ↓vxDrop, ↓cSrt, ↓cSum, ↓cMinD, ↓cAnyI, ↓vLenSet, ↓vLc2, back]
    refine ⟨mul_small (hx x List.mem_cons_self), ?_⟩
    refine ih _ (fun z hz => hx z (List.mem_cons_of_mem _ hz)) ?_
    rw [List.append_assoc]; exact h
theorem sum_sq (x : Qn) : ([x.a * x.a, x.b * x.b, x.c * x.c, x.d * x.d] : List Int).sum.fdiv 4 = nm x := by
  rw [fdiv_pos (by omega)]
  unfold NQ.nm NQ.sq
  simp only [List.sum_cons, List.sum_nil]
  congr 1; omega
theorem hq_norm_four (ds : List D) (Q : D → Prop) (h : sp_norm_four ds Q) : rd_norm_four { nx := fun _ => Q .none, rt := fun d _ => Q d } (ev0 ["one", "number"] ds) := by
  obtain ⟨x, rfl, hx, bx, h⟩ := h
  show rd_norm_four _ [.fr (qD x), .un]
  obtain ⟨e1, e2, e3, e4⟩ := ent hx bx
  simp only [↓rd_norm_four, ↓vSeq, ↓vPar, ↓vPar3, ↓vSet, ↓vSetO, ↓vAsg, ↓vAug, ↓vAppend, ↓vExt, ↓vUnp, ↓vFz, ↓vRet, ↓vRetN, ↓vDrop, ↓vIfS, ↓vNext, ↓vBrk, ↓vCnt, ↓vNever, ↓vForS, ↓vC, ↓vVar, ↓vTup, ↓vOf, ↓vBin, ↓vBinL, ↓vBinR, ↓vUn, ↓vCall, ↓vCallO, ↓vCallIO, ↓vCallSC, ↓vLookA, ↓vB, ↓vTru, ↓vTruO, ↓vAnd, ↓vOr, ↓vNot, ↓vAndV, ↓vOrV, ↓vNotV, ↓vIf, ↓vChain, ↓vNil, ↓vCons, ↓vSl, ↓vSlL, ↓vP0, ↓vP1, ↓vRevT, ↓vRevL, ↓vRevLL, ↓vBits, ↓vPop, ↓vLc, ↓vTurn, ↓vYes, ↓gN, ↓gT, ↓gsC, ↓gs0, ↓gSet, ↓wL, ↓wT, ↓wR1, ↓wR2, ↓d2, ↓d20, ↓dAdd, ↓dMul, ↓dEq, ↓dNe, ↓dIsN, ↓dNotN, ↓isN, ↓dNeg, ↓dIx, ↓dInI, ↓dSl, ↓truD, ↓cLen, ↓cAbs, ↓cMax2, ↓cMin2, ↓cInt, ↓cTup, ↓cLst, ↓sv, ↓List.getD_cons_zero, ↓List.getD_cons_succ, ↓List.set_cons_zero, ↓List.set_cons_succ, ↓vxSeq, ↓vxIf, ↓vxRaise, ↓vxRet, ↓vxAsg, ↓vxCall, ↓vReason, ↓vEqS, ↓vIsi, ↓wR3, ↓wZip, ↓vSetDk, ↓vDkIn, ↓vDkPut, ↓vParE, ↓gL, ↓vxDrop, ↓cSrt, ↓cSum, ↓cMinD, ↓cAnyI, ↓vLenSet, ↓vLc2]
  refine ⟨x, rfl, hx, ?_⟩
  simp only [qD, tI, ↓vSeq, ↓vPar, ↓vPar3, ↓vSet, ↓vSetO, ↓vAsg, ↓vAug, ↓vAppend, ↓vExt, ↓vUnp, ↓vFz, ↓vRet, ↓vRetN, ↓vDrop, ↓vIfS, ↓vNext, ↓vBrk, ↓vCnt, ↓vNever, ↓vForS, ↓vC, ↓vVar, ↓vTup, ↓vOf, ↓vBin, ↓vBinL, ↓vBinR, ↓vUn, ↓vCall, ↓vCallO, ↓vCallIO, ↓vCallSC, ↓vLookA, ↓vB, ↓vTru, ↓vTruO, ↓vAnd, ↓vOr, ↓vNot, ↓vAndV, ↓vOrV, ↓vNotV, ↓vIf, ↓vChain, ↓vNil, ↓vCons, ↓vSl, ↓vSlL, ↓vP0, ↓vP1, ↓vRevT, ↓vRevL, ↓vRevLL, ↓vBits, ↓vPop, ↓vLc, ↓vTurn, ↓vYes, ↓gN, ↓gT, ↓gsC, ↓gs0, ↓gSet, ↓wL, ↓wT, ↓wR1, ↓wR2, ↓d2, ↓d20, ↓dAdd, ↓dMul, ↓dEq, ↓dNe, ↓dIsN, ↓dNotN, ↓isN, ↓dNeg, ↓dIx, ↓dInI, ↓dSl, ↓truD, ↓cLen, ↓cAbs, ↓cMax2, ↓cMin2, ↓cInt, ↓cTup, ↓cLst, ↓sv, ↓List.getD_cons_zero, ↓List.getD_cons_succ, ↓List.set_cons_zero, ↓List.set_cons_succ, ↓vxSeq, ↓vxIf, ↓vxRaise, ↓vxRet, ↓vxAsg, ↓vxCall, ↓vReason, ↓vEqS, ↓vIsi, ↓wR3, ↓wZip, ↓vSetDk, ↓vDkIn, ↓vDkPut, ↓vParE, ↓gL, ↓vxDrop, ↓cSrt, ↓cSum, ↓cMinD, ↓cAnyI, ↓vLenSet, ↓vLc2]
  refine ⟨by rw [List.length_map, sizeLine_eq]; simp, fun i hi => ?_, comp_sqn _ _ [x.a, x.b, x.c, x.d] [] (fun t ht => ?_) ?_⟩
  · obtain rfl : i = 1 := by simpa using hi
    exact id
  · simp only [List.mem_cons, List.not_mem_nil, or_false] at ht
    unfold small; omega
  · have i4 := intsOf_map [x.a * x.a, x.b * x.b, x.c * x.c, x.d * x.d]
    simp only [List.map_cons, List.map_nil] at i4
    simp only [List.map_cons, List.map_nil, List.nil_append, ↓vSeq, ↓vPar, ↓vPar3, ↓vSet, ↓vSetO, ↓vAsg, ↓vAug, ↓vAppend, ↓vExt, ↓vUnp, ↓vFz, ↓vRet, ↓vRetN, ↓vDrop, ↓vIfS, ↓vNext, ↓vBrk, ↓vCnt, ↓vNever, ↓vForS, ↓vC, ↓vVar, ↓vTup, ↓vOf, ↓vBin, ↓vBinL, ↓vBinR, ↓vUn, ↓vCall, ↓vCallO, ↓vCallIO, ↓vCallSC, ↓vLookA, ↓vB, ↓vTru, ↓vTruO, ↓vAnd, ↓vOr, ↓vNot, ↓vAndV, ↓vOrV, ↓vNotV, ↓vIf, ↓vChain, ↓vNil, ↓vCons, ↓vSl, ↓vSlL, ↓vP0, ↓vP1, ↓vRevT, ↓vRevL, ↓vRevLL, ↓vBits, ↓vPop, ↓vLc, ↓vTurn, ↓vYes, ↓gN, ↓gT, ↓gsC, ↓gs0, ↓gSet, ↓wL, ↓wT, ↓wR1, ↓wR2, ↓d2, ↓d20, ↓dAdd, ↓dMul, ↓dEq, ↓dNe, ↓dIsN, ↓dNotN, ↓isN, ↓dNeg, ↓dIx, ↓dInI, ↓dSl, ↓truD, ↓cLen, ↓cAbs, ↓cMax2, ↓cMin2, ↓cInt, ↓cTup, ↓cLst, ↓sv, ↓List.getD_cons_zero, ↓List.getD_cons_succ, ↓List.set_cons_zero, ↓List.set_cons_succ, ↓vxSeq, ↓vxIf, ↓vxRaise, ↓vxRet, ↓vxAsg, ↓vxCall, ↓vReason, ↓vEqS, ↓vIsi, ↓wR3, ↓wZip, ↓vSetDk, ↓vDkIn, ↓vDkPut, ↓vParE, ↓gL, ↓vxDrop, ↓cSrt, ↓cSum, ↓cMinD, ↓cAnyI, ↓vLenSet, ↓vLc2, i4, sum_sq]
    exact ⟨div_small (by omega) ⟨by omega, by omega⟩, h⟩
theorem comp_less (Q : List D → Ev → Prop) (x0 x1 : SV) : ∀ (ps : List (Int × Int)) (acc : List D), Q (acc ++ (ps.map fun p => p.1 - p.2).map .int) [x0, x1, .un, .un] → vComp rd_less_four_c1_g rd_less_four_c1_t rd_less_four_c1_e [2, 3] Q (ps.map fun p => .tuple [.int p.1, .int p.2]) [x0, x1, .un, .un] acc := by
  intro ps
  induction ps with
  | nil => intro acc h; simpa [vComp] using h
  | cons p ps ih =>
    intro acc h
    rw [List.map_cons]
    show vTurn _ _ _ _ _ _ _ _
    simp only [↓vTurn, ↓rd_less_four_c1_g, ↓rd_less_four_c1_t, ↓rd_less_four_c1_e, ↓wipeE, ↓vSeq, ↓vPar, ↓vPar3, ↓vSet, ↓vSetO, ↓vAsg, ↓vAug, ↓vAppend, ↓vExt, ↓vUnp, ↓vFz, ↓vRet, ↓vRetN, ↓vDrop, ↓vIfS, ↓vNext, ↓vBrk, ↓vCnt, ↓vNever, ↓vForS, ↓vC, ↓vVar, ↓vTup, ↓vOf, ↓vBin, ↓vBinL, ↓vBinR, ↓vUn, ↓vCall, ↓vCallO, ↓vCallIO, ↓vCallSC, ↓vLookA, ↓vB, ↓vTru, ↓vTruO, ↓vAnd, ↓vOr, ↓vNot, ↓vAndV, ↓vOrV, ↓vNotV, ↓vIf, ↓vChain, ↓vNil, ↓vCons, ↓vSl, ↓vSlL, ↓vP0, ↓vP1, ↓vRevT, ↓vRevL, ↓vRevLL, ↓vBits, ↓vPop, ↓vLc, ↓vTurn, ↓vYes, ↓gN, ↓gT, ↓gsC, ↓gs0, ↓gSet, ↓wL, ↓wT, ↓wR1, ↓wR2, ↓d2, ↓d20, ↓dAdd, ↓dMul, ↓dEq, ↓dNe, ↓dIsN, ↓dNotN, ↓isN, ↓dNeg, ↓dIx, ↓dInI, ↓dSl, ↓truD, ↓cLen, ↓cAbs, ↓cMax2, ↓cMin2, ↓cInt, ↓cTup, ↓cLst, ↓sv, ↓List.getD_cons_zero, ↓List.getD_cons_succ, ↓List.set_cons_zero, ↓List.set_cons_succ, ↓vxSeq, ↓vxIf, ↓vxRaise, ↓vxRet, ↓vxAsg, ↓vxCall, ↓vReason, ↓vEqS, ↓vIsi, ↓wR3, ↓wZip, ↓vSetDk, ↓vDkIn, ↓vDkPut, ↓vParE, ↓gL, ↓vxDrop, ↓cSrt, ↓cSum, ↓cMinD, ↓cAnyI, ↓vLenSet, ↓vLc2, back]
    refine ⟨rfl, ?_⟩
    refine ih _ ?_
    rw [List.append_assoc]; exact h
theorem hq_less_four (ds : List D) (Q : D → Prop) (h : sp_less_four ds Q) : rd_less_four { nx := fun _ => Q .none, rt := fun d _ => Q d } (ev0 ["one", "other", "a", "b"] ds) := by
  obtain ⟨x, y, rfl, h⟩ := h
  show rd_less_four _ [.fr (qD x), .fr (qD y), .un, .un]
  simp only [↓rd_less_four, ↓vSeq, ↓vPar, ↓vPar3, ↓vSet, ↓vSetO, ↓vAsg, ↓vAug, ↓vAppend, ↓vExt, ↓vUnp, ↓vFz, ↓vRet, ↓vRetN, ↓vDrop, ↓vIfS, ↓vNext, ↓vBrk, ↓vCnt, ↓vNever, ↓vForS, ↓vC, ↓vVar, ↓vTup, ↓vOf, ↓vBin, ↓vBinL, ↓vBinR, ↓vUn, ↓vCall, ↓vCallO, ↓vCallIO, ↓vCallSC, ↓vLookA, ↓vB, ↓vTru, ↓vTruO, ↓vAnd, ↓vOr, ↓vNot, ↓vAndV, ↓vOrV, ↓vNotV, ↓vIf, ↓vChain, ↓vNil, ↓vCons, ↓vSl, ↓vSlL, ↓vP0, ↓vP1, ↓vRevT, ↓vRevL, ↓vRevLL, ↓vBits, ↓vPop, ↓vLc, ↓vTurn, ↓vYes, ↓gN, ↓gT, ↓gsC, ↓gs0, ↓gSet, ↓wL, ↓wT, ↓wR1, ↓wR2, ↓d2, ↓d20, ↓dAdd, ↓dMul, ↓dEq, ↓dNe, ↓dIsN, ↓dNotN, ↓isN, ↓dNeg, ↓dIx, ↓dInI, ↓dSl, ↓truD, ↓cLen, ↓cAbs, ↓cMax2, ↓cMin2, ↓cInt, ↓cTup, ↓cLst, ↓sv, ↓List.getD_cons_zero, ↓List.getD_cons_succ, ↓List.set_cons_zero, ↓List.set_cons_succ, ↓vxSeq, ↓vxIf, ↓vxRaise, ↓vxRet, ↓vxAsg, ↓vxCall, ↓vReason, ↓vEqS, ↓vIsi, ↓wR3, ↓wZip, ↓vSetDk, ↓vDkIn, ↓vDkPut, ↓vParE, ↓gL, ↓vxDrop, ↓cSrt, ↓cSum, ↓cMinD, ↓cAnyI, ↓vLenSet, ↓vLc2, qD, tI, List.map_cons, List.map_nil, zipD, List.zip_cons_cons, List.zip_nil_right]
  refine ⟨by rw [sizeLine_eq]; simp, fun i hi => ?_, ?_⟩
  · have : i = 2 ∨ i = 3 := by simpa using hi
    rcases this with rfl | rfl <;> exact id
  · exact comp_less _ _ _ [(x.a, y.a), (x.b, y.b), (x.c, y.c), (x.d, y.d)] [] h
end VL

set_option Elab.async false
set_option linter.all false
set_option maxRecDepth 1000000
set_option maxHeartbeats 8000000
namespace VL
open PySem PySem.Spec PyProof.Rows L2 HD
open NQ (Qn Wh mul conj nm RD Near)
/-! ### nearest -/
theorem comp_ev (Q : List D → Ev → Prop) (n : Int) (hn : 0 < n ∧ n ≤ lim) (x0 x2 x3 x4 x5 x7 x8 : SV) : ∀ (xs : List Int) (acc : List D), Q (acc ++ (xs.map fun x => 2 * ((x + n) / (2 * n))).map .int) [x0, .fr (.int n), x2, x3, x4, x5, .un, x7, x8] → vComp rd_nearest_four_c1_g rd_nearest_four_c1_t rd_nearest_four_c1_e [6] Q (xs.map .int) [x0, .fr (.int n), x2, x3, x4, x5, .un, x7, x8] acc := by
  obtain ⟨n0, n1⟩ := hn
  unfold lim at n1
  intro xs
  induction xs with
  | nil => intro acc h; simpa [vComp] using h
  | cons x xs ih =>
    intro acc h
    rw [List.map_cons]
    show vTurn _ _ _ _ _ _ _ _
    simp only [↓vTurn, ↓rd_nearest_four_c1_g, ↓rd_nearest_four_c1_t, ↓rd_nearest_four_c1_e, ↓wipeE, ↓vSeq, ↓vPar, ↓vPar3, ↓vSet, ↓vSetO, ↓vAsg, ↓vAug, ↓vAppend, ↓vExt, ↓vUnp, ↓vFz, ↓vRet, ↓vRetN, ↓vDrop, ↓vIfS, ↓vNext, ↓vBrk, ↓vCnt, ↓vNever, ↓vForS, ↓vC, ↓vVar, ↓vTup, ↓vOf, ↓vBin, ↓vBinL, ↓vBinR, ↓vUn, ↓vCall, ↓vCallO, ↓vCallIO, ↓vCallSC, ↓vLookA, ↓vB, ↓vTru, ↓vTruO, ↓vAnd, ↓vOr, ↓vNot, ↓vAndV, ↓vOrV, ↓vNotV, ↓vIf, ↓vChain, ↓vNil, ↓vCons, ↓vSl, ↓vSlL, ↓vP0, ↓vP1, ↓vRevT, ↓vRevL, ↓vRevLL, ↓vBits, ↓vPop, ↓vLc, ↓vTurn, ↓vYes, ↓gN, ↓gT, ↓gsC, ↓gs0, ↓gSet, ↓wL, ↓wT, ↓wR1, ↓wR2, ↓d2, ↓d20, ↓dAdd, ↓dMul, ↓dEq, ↓dNe, ↓dIsN, ↓dNotN, ↓isN, ↓dNeg, ↓dIx, ↓dInI, ↓dSl, ↓truD, ↓cLen, ↓cAbs, ↓cMax2, ↓cMin2, ↓cInt, ↓cTup, ↓cLst, ↓sv, ↓List.getD_cons_zero, ↓List.getD_cons_succ, ↓List.set_cons_zero, ↓List.set_cons_succ, ↓vxSeq, ↓vxIf, ↓vxRaise, ↓vxRet, ↓vxAsg, ↓vxCall, ↓vReason, ↓vEqS, ↓vIsi, ↓wR3, ↓wZip, ↓vSetDk, ↓vDkIn, ↓vDkPut, ↓vParE, ↓gL, ↓vxDrop, ↓cSrt, ↓cSum, ↓cMinD, ↓cAnyI, ↓vLenSet, ↓vLc2, back]
    refine ⟨mul_smallL ⟨by omega, by omega⟩, div_small (by omega) ⟨by omega, by omega⟩, mul_smallL ⟨by omega, by omega⟩, ?_⟩
    rw [fdiv_pos (by omega)]
    refine ih _ ?_
    rw [List.append_assoc]; exact h
theorem comp_od (Q : List D → Ev → Prop) (n : Int) (hn : 0 < n ∧ n ≤ lim) (x0 x2 x3 x4 x5 x7 x8 : SV) : ∀ (xs : List Int) (acc : List D), Q (acc ++ (xs.map fun x => 2 * (x / (2 * n)) + 1).map .int) [x0, .fr (.int n), x2, x3, x4, x5, .un, x7, x8] → vComp rd_nearest_four_c2_g rd_nearest_four_c2_t rd_nearest_four_c2_e [6] Q (xs.map .int) [x0, .fr (.int n), x2, x3, x4, x5, .un, x7, x8] acc := by
  obtain ⟨n0, n1⟩ := hn
  unfold lim at n1
  intro xs
  induction xs with
  | nil => intro acc h; simpa [vComp] using h
  | cons x xs ih =>
    intro acc h
    rw [List.map_cons]
    show vTurn _ _ _ _ _ _ _ _
    simp only [↓vTurn, ↓rd_nearest_four_c2_g, ↓rd_nearest_four_c2_t, ↓rd_nearest_four_c2_e, ↓wipeE, ↓vSeq, ↓vPar, ↓vPar3, ↓vSet, ↓vSetO, ↓vAsg, ↓vAug, ↓vAppend, ↓vExt, ↓vUnp, ↓vFz, ↓vRet, ↓vRetN, ↓vDrop, ↓vIfS, ↓vNext, ↓vBrk, ↓vCnt, ↓vNever, ↓vForS, ↓vC, ↓vVar, ↓vTup, ↓vOf, ↓vBin, ↓vBinL, ↓vBinR, ↓vUn, ↓vCall, ↓vCallO, ↓vCallIO, ↓vCallSC, ↓vLookA, ↓vB, ↓vTru, ↓vTruO, ↓vAnd, ↓vOr, ↓vNot, ↓vAndV, ↓vOrV, ↓vNotV, ↓vIf, ↓vChain, ↓vNil, ↓vCons, ↓vSl, ↓vSlL, ↓vP0, ↓vP1, ↓vRevT, ↓vRevL, ↓vRevLL, ↓vBits, ↓vPop, ↓vLc, ↓vTurn, ↓vYes, ↓gN, ↓gT, ↓gsC, ↓gs0, ↓gSet, ↓wL, ↓wT, ↓wR1, ↓wR2, ↓d2, ↓d20, ↓dAdd, ↓dMul, ↓dEq, ↓dNe, ↓dIsN, ↓dNotN, ↓isN, ↓dNeg, ↓dIx, ↓dInI, ↓dSl, ↓truD, ↓cLen, ↓cAbs, ↓cMax2, ↓cMin2, ↓cInt, ↓cTup, ↓cLst, ↓sv, ↓List.getD_cons_zero, ↓List.getD_cons_succ, ↓List.set_cons_zero, ↓List.set_cons_succ, ↓vxSeq, ↓vxIf, ↓vxRaise, ↓vxRet, ↓vxAsg, ↓vxCall, ↓vReason, ↓vEqS, ↓vIsi, ↓wR3, ↓wZip, ↓vSetDk, ↓vDkIn, ↓vDkPut, ↓vParE, ↓gL, ↓vxDrop, ↓cSrt, ↓cSum, ↓cMinD, ↓cAnyI, ↓vLenSet, ↓vLc2, back]
    refine ⟨mul_smallL ⟨by omega, by omega⟩, div_small (by omega) ⟨by omega, by omega⟩, mul_smallL ⟨by omega, by omega⟩, ?_⟩
    rw [fdiv_pos (by omega)]
    refine ih _ ?_
    rw [List.append_assoc]; exact h
theorem comp_dist (Q : List D → Ev → Prop) (n : Int) (hn : 0 < n ∧ n ≤ lim) (x0 x2 x3 x4 x5 x6 : SV) : ∀ (ps : List (Int × Int)) (acc : List D), (∀ p ∈ ps, small (n * p.1 - p.2)) → Q (acc ++ (ps.map fun p => (n * p.1 - p.2) * (n * p.1 - p.2)).map .int) [x0, .fr (.int n), x2, x3, x4, x5, x6, .un, .un] →
    vComp rd_nearest_four_c4_g rd_nearest_four_c4_t rd_nearest_four_c4_e [7, 8] Q (ps.map fun p => .tuple [.int p.1, .int p.2]) [x0, .fr (.int n), x2, x3, x4, x5, x6, .un, .un] acc := by
  obtain ⟨n0, n1⟩ := hn
  unfold lim at n1
  intro ps
  induction ps with
  | nil => intro acc _ h; simpa [vComp] using h
  | cons p ps ih =>
    intro acc hp h
    rw [List.map_cons]
    show vTurn _ _ _ _ _ _ _ _
    simp only [↓vTurn, ↓rd_nearest_four_c4_g, ↓rd_nearest_four_c4_t, ↓rd_nearest_four_c4_e, ↓wipeE, ↓vSeq, ↓vPar, ↓vPar3, ↓vSet, ↓vSetO, ↓vAsg, ↓vAug, ↓vAppend, ↓vExt, ↓vUnp, ↓vFz, ↓vRet, ↓vRetN, ↓vDrop, ↓vIfS, ↓vNext, ↓vBrk, ↓vCnt, ↓vNever, ↓vForS, ↓vC, ↓vVar, ↓vTup, ↓vOf, ↓vBin, ↓vBinL, ↓vBinR, ↓vUn, ↓vCall, ↓vCallO, ↓vCallIO, ↓vCallSC, ↓vLookA, ↓vB, ↓vTru, ↓vTruO, ↓vAnd, ↓vOr, ↓vNot, ↓vAndV, ↓vOrV, ↓vNotV, ↓vIf, ↓vChain, ↓vNil, ↓vCons, ↓vSl, ↓vSlL, ↓vP0, ↓vP1, ↓vRevT, ↓vRevL, ↓vRevLL, ↓vBits, ↓vPop, ↓vLc, ↓vTurn, ↓vYes, ↓gN, ↓gT, ↓gsC, ↓gs0, ↓gSet, ↓wL, ↓wT, ↓wR1, ↓wR2, ↓d2, ↓d20, ↓dAdd, ↓dMul, ↓dEq, ↓dNe, ↓dIsN, ↓dNotN, ↓isN, ↓dNeg, ↓dIx, ↓dInI, ↓dSl, ↓truD, ↓cLen, ↓cAbs, ↓cMax2, ↓cMin2, ↓cInt, ↓cTup, ↓cLst, ↓sv, ↓List.getD_cons_zero, ↓List.getD_cons_succ, ↓List.set_cons_zero, ↓List.set_cons_succ, ↓vxSeq, ↓vxIf, ↓vxRaise, ↓vxRet, ↓vxAsg, ↓vxCall, ↓vReason, ↓vEqS, ↓vIsi, ↓wR3, ↓wZip, ↓vSetDk, ↓vDkIn, ↓vDkPut, ↓vParE, ↓gL, ↓vxDrop, ↓cSrt, ↓cSum, ↓cMinD, ↓cAnyI, ↓vLenSet, ↓vLc2, back]
    refine ⟨rfl, mul_smallL ⟨by omega, by omega⟩, mul_smallL ⟨by omega, by omega⟩, mul_small (hp p List.mem_cons_self), ?_⟩
    refine ih _ (fun z hz => hp z (List.mem_cons_of_mem _ hz)) ?_
    rw [List.append_assoc]; exact h
abbrev DT := Int × PySem.W.Tup Int
def dtD (p : DT) : D := PySem.W.Datum.toD p
theorem min_pair (p q : DT) : minOk (dtD p) [dtD q] ∧ ∃ r : DT, PySem.W.minD (dtD p) [dtD q] = dtD r ∧ (r = p ∨ r = q) ∧ r.1 ≤ p.1 ∧ r.1 ≤ q.1 := by
  have pl : ∀ p : DT, plD (dtD p) = true := fun p => by
    obtain ⟨s, ⟨t⟩⟩ := p
    show plAll [.int s, .tuple (t.map _)] = true
    have := plAll_ints t
    simp [plAll, plD]
    exact this
  refine ⟨⟨plAll_lay [dtD p, dtD q] (by simp [plAll, pl]), PySem.W.alikeAll_datum [p, q], ?_⟩, ?_⟩
  · have hd : ∀ p : DT, PyData.depth (dtD p) ≤ 60 := fun p => by
      obtain ⟨s, ⟨t⟩⟩ := p
      have h1 : PyData.depthAll (t.map PyData.int) ≤ 0 := depth_ints t
      show PyData.depthAll [.int s, .tuple (t.map PyData.int)] + 1 ≤ 60
      have : PyData.depthAll [.int s, .tuple (t.map PyData.int)] ≤ 1 := depthAll_le.mpr fun x hx => by
        simp only [List.mem_cons, List.not_mem_nil, or_false] at hx
        rcases hx with rfl | rfl
        · exact Nat.zero_le _
        · show PyData.depthAll _ + 1 ≤ 1
          omega
      omega
    exact depthAll_le.mpr fun x hx => by
      simp only [List.mem_cons, List.not_mem_nil, or_false] at hx
      rcases hx with rfl | rfl <;> exact hd _
  · have e := PySem.W.minD_map p [q]
    have e' : PySem.W.minD (dtD p) [dtD q] = dtD (PySem.W.minOf p [q]) := e
    refine ⟨PySem.W.minOf p [q], e', ?_⟩
    have lt : PySem.W.DatumOrd.lt q p = if q.1 = p.1 then PySem.W.DatumOrd.lt q.2 p.2 else PySem.W.DatumOrd.lt q.1 p.1 := rfl
    show ((if PySem.W.DatumOrd.lt q p = true then q else p) = p ∨ _) ∧ _
    by_cases c : PySem.W.DatumOrd.lt q p = true
    · have e2 : PySem.W.minOf p [q] = q := if_pos c
      rw [e2, if_pos c]
      refine ⟨.inr rfl, ?_, Int.le_refl _⟩
      rw [lt] at c
      by_cases d : q.1 = p.1
      · omega
      · rw [if_neg d] at c
        have : q.1 < p.1 := of_decide_eq_true c
        omega
    · have e2 : PySem.W.minOf p [q] = p := if_neg c
      rw [e2, if_neg c]
      refine ⟨.inl rfl, Int.le_refl _, ?_⟩
      rw [lt] at c
      by_cases d : q.1 = p.1
      · omega
      · rw [if_neg d] at c
        have : ¬ q.1 < p.1 := fun z => c (decide_eq_true z)
        omega
theorem hq_nearest_four (ds : List D) (Q : D → Prop) (h : sp_nearest_four ds Q) : rd_nearest_four { nx := fun _ => Q .none, rt := fun d _ => Q d } (ev0 ["numbers", "below", "even", "odd", "distances", "one", "number", "a", "b"] ds) := by
  obtain ⟨m, n, rfl, n0, n1, h⟩ := h
  show rd_nearest_four _ [.fr (qD m), .fr (.int n), .un, .un, .un, .un, .un, .un, .un]
  have sm : ∀ x y : Int, x * x + y * y ≤ n * n → small x ∧ small y := fun x y hxy => by
    have q1 := sq_nonneg x; have q2 := sq_nonneg y
    unfold lim at n1
    have nn : n * n ≤ 67108864 * 67108864 := Int.mul_le_mul n1 n1 (by omega) (by omega)
    have key : ∀ z : Int, z * z ≤ 67108864 * 67108864 → small z := fun z hz => by
      unfold small
      constructor
      · rcases Int.lt_or_le (-18446744073709551616) z with w | w
        · exact w
        · have := Int.mul_le_mul (show 4294967296 ≤ -z by omega) (show 4294967296 ≤ -z by omega) (by omega) (by omega)
          have e : -z * -z = z * z := by grind
          omega
      · rcases Int.lt_or_le z 18446744073709551616 with w | w
        · exact w
        · have := Int.mul_le_mul w w (by omega) (by omega)
          omega
    exact ⟨key x (by omega), key y (by omega)⟩
  have s1 := sm _ _ (NQ.near1 (m := m.a) n0); have s2 := sm _ _ (NQ.near1 (m := m.b) n0); have s3 := sm _ _ (NQ.near1 (m := m.c) n0); have s4 := sm _ _ (NQ.near1 (m := m.d) n0)
  simp only [↓rd_nearest_four, ↓vSeq, ↓vPar, ↓vPar3, ↓vSet, ↓vSetO, ↓vAsg, ↓vAug, ↓vAppend, ↓vExt, ↓vUnp, ↓vFz, ↓vRet, ↓vRetN, ↓vDrop, ↓vIfS, ↓vNext, ↓vBrk, ↓vCnt, ↓vNever, ↓vForS, ↓vC, ↓vVar, ↓vTup, ↓vOf, ↓vBin, ↓vBinL, ↓vBinR, ↓vUn, ↓vCall, ↓vCallO, ↓vCallIO, ↓vCallSC, ↓vLookA, ↓vB, ↓vTru, ↓vTruO, ↓vAnd, ↓vOr, ↓vNot, ↓vAndV, ↓vOrV, ↓vNotV, ↓vIf, ↓vChain, ↓vNil, ↓vCons, ↓vSl, ↓vSlL, ↓vP0, ↓vP1, ↓vRevT, ↓vRevL, ↓vRevLL, ↓vBits, ↓vPop, ↓vLc, ↓vTurn, ↓vYes, ↓gN, ↓gT, ↓gsC, ↓gs0, ↓gSet, ↓wL, ↓wT, ↓wR1, ↓wR2, ↓d2, ↓d20, ↓dAdd, ↓dMul, ↓dEq, ↓dNe, ↓dIsN, ↓dNotN, ↓isN, ↓dNeg, ↓dIx, ↓dInI, ↓dSl, ↓truD, ↓cLen, ↓cAbs, ↓cMax2, ↓cMin2, ↓cInt, ↓cTup, ↓cLst, ↓sv, ↓List.getD_cons_zero, ↓List.getD_cons_succ, ↓List.set_cons_zero, ↓List.set_cons_succ, ↓vxSeq, ↓vxIf, ↓vxRaise, ↓vxRet, ↓vxAsg, ↓vxCall, ↓vReason, ↓vEqS, ↓vIsi, ↓wR3, ↓wZip, ↓vSetDk, ↓vDkIn, ↓vDkPut, ↓vParE, ↓gL, ↓vxDrop, ↓cSrt, ↓cSum, ↓cMinD, ↓cAnyI, ↓vLenSet, ↓vLc2]
  have noOw6 : ∀ (x0 x1 x2 x3 x4 x5 x7 x8 : SV), noOw [x0, x1, x2, x3, x4, x5, .un, x7, x8] [6] := fun x0 x1 x2 x3 x4 x5 x7 x8 i hi => by
    obtain rfl : i = 6 := by simpa using hi
    exact id
  have noOw78 : ∀ (x0 x1 x2 x3 x4 x5 x6 : SV), noOw [x0, x1, x2, x3, x4, x5, x6, .un, .un] [7, 8] := fun x0 x1 x2 x3 x4 x5 x6 i hi => by
    have : i = 7 ∨ i = 8 := by simpa using hi
    rcases this with rfl | rfl <;> exact id
  simp only [qD, tI]
  refine ⟨by rw [List.length_map, sizeLine_eq]; simp, noOw6 _ _ _ _ _ _ _ _, comp_ev _ n ⟨n0, n1⟩ _ _ _ _ _ _ _ [m.a, m.b, m.c, m.d] [] ?_⟩
  simp only [↓vSeq, ↓vPar, ↓vPar3, ↓vSet, ↓vSetO, ↓vAsg, ↓vAug, ↓vAppend, ↓vExt, ↓vUnp, ↓vFz, ↓vRet, ↓vRetN, ↓vDrop, ↓vIfS, ↓vNext, ↓vBrk, ↓vCnt, ↓vNever, ↓vForS, ↓vC, ↓vVar, ↓vTup, ↓vOf, ↓vBin, ↓vBinL, ↓vBinR, ↓vUn, ↓vCall, ↓vCallO, ↓vCallIO, ↓vCallSC, ↓vLookA, ↓vB, ↓vTru, ↓vTruO, ↓vAnd, ↓vOr, ↓vNot, ↓vAndV, ↓vOrV, ↓vNotV, ↓vIf, ↓vChain, ↓vNil, ↓vCons, ↓vSl, ↓vSlL, ↓vP0, ↓vP1, ↓vRevT, ↓vRevL, ↓vRevLL, ↓vBits, ↓vPop, ↓vLc, ↓vTurn, ↓vYes, ↓gN, ↓gT, ↓gsC, ↓gs0, ↓gSet, ↓wL, ↓wT, ↓wR1, ↓wR2, ↓d2, ↓d20, ↓dAdd, ↓dMul, ↓dEq, ↓dNe, ↓dIsN, ↓dNotN, ↓isN, ↓dNeg, ↓dIx, ↓dInI, ↓dSl, ↓truD, ↓cLen, ↓cAbs, ↓cMax2, ↓cMin2, ↓cInt, ↓cTup, ↓cLst, ↓sv, ↓List.getD_cons_zero, ↓List.getD_cons_succ, ↓List.set_cons_zero, ↓List.set_cons_succ, ↓vxSeq, ↓vxIf, ↓vxRaise, ↓vxRet, ↓vxAsg, ↓vxCall, ↓vReason, ↓vEqS, ↓vIsi, ↓wR3, ↓wZip, ↓vSetDk, ↓vDkIn, ↓vDkPut, ↓vParE, ↓gL, ↓vxDrop, ↓cSrt, ↓cSum, ↓cMinD, ↓cAnyI, ↓vLenSet, ↓vLc2, List.nil_append]
  refine ⟨by rw [List.length_map, sizeLine_eq]; simp, noOw6 _ _ _ _ _ _ _ _, comp_od _ n ⟨n0, n1⟩ _ _ _ _ _ _ _ [m.a, m.b, m.c, m.d] [] ?_⟩
  simp only [↓vSeq, ↓vPar, ↓vPar3, ↓vSet, ↓vSetO, ↓vAsg, ↓vAug, ↓vAppend, ↓vExt, ↓vUnp, ↓vFz, ↓vRet, ↓vRetN, ↓vDrop, ↓vIfS, ↓vNext, ↓vBrk, ↓vCnt, ↓vNever, ↓vForS, ↓vC, ↓vVar, ↓vTup, ↓vOf, ↓vBin, ↓vBinL, ↓vBinR, ↓vUn, ↓vCall, ↓vCallO, ↓vCallIO, ↓vCallSC, ↓vLookA, ↓vB, ↓vTru, ↓vTruO, ↓vAnd, ↓vOr, ↓vNot, ↓vAndV, ↓vOrV, ↓vNotV, ↓vIf, ↓vChain, ↓vNil, ↓vCons, ↓vSl, ↓vSlL, ↓vP0, ↓vP1, ↓vRevT, ↓vRevL, ↓vRevLL, ↓vBits, ↓vPop, ↓vLc, ↓vTurn, ↓vYes, ↓gN, ↓gT, ↓gsC, ↓gs0, ↓gSet, ↓wL, ↓wT, ↓wR1, ↓wR2, ↓d2, ↓d20, ↓dAdd, ↓dMul, ↓dEq, ↓dNe, ↓dIsN, ↓dNotN, ↓isN, ↓dNeg, ↓dIx, ↓dInI, ↓dSl, ↓truD, ↓cLen, ↓cAbs, ↓cMax2, ↓cMin2, ↓cInt, ↓cTup, ↓cLst, ↓sv, ↓List.getD_cons_zero, ↓List.getD_cons_succ, ↓List.set_cons_zero, ↓List.set_cons_succ, ↓vxSeq, ↓vxIf, ↓vxRaise, ↓vxRet, ↓vxAsg, ↓vxCall, ↓vReason, ↓vEqS, ↓vIsi, ↓wR3, ↓wZip, ↓vSetDk, ↓vDkIn, ↓vDkPut, ↓vParE, ↓gL, ↓vxDrop, ↓cSrt, ↓cSum, ↓cMinD, ↓cAnyI, ↓vLenSet, ↓vLc2, List.nil_append, vFor_cons, vFor_nil, ↓rd_nearest_four_f3g, ↓rd_nearest_four_f3b]
  have sz : ∀ a b c d a2 b2 c2 d2' : Int, (zipD [PyData.int a, .int b, .int c, .int d] [.int a2, .int b2, .int c2, .int d2']).length ≤ sizeLine := fun a b c d a2 b2 c2 d2' => by rw [sizeLine_eq]; simp [zipD]
  refine ⟨sz _ _ _ _ _ _ _ _, noOw78 _ _ _ _ _ _ _, comp_dist _ n ⟨n0, n1⟩ _ _ _ _ _ _ [((NQ.evn n m).a, m.a), ((NQ.evn n m).b, m.b), ((NQ.evn n m).c, m.c), ((NQ.evn n m).d, m.d)] [] ?_ ?_⟩
  · intro p hp
    simp only [List.mem_cons, List.not_mem_nil, or_false] at hp
    rcases hp with rfl | rfl | rfl | rfl
    · exact s1.1
    · exact s2.1
    · exact s3.1
    · exact s4.1
  simp only [↓vSeq, ↓vPar, ↓vPar3, ↓vSet, ↓vSetO, ↓vAsg, ↓vAug, ↓vAppend, ↓vExt, ↓vUnp, ↓vFz, ↓vRet, ↓vRetN, ↓vDrop, ↓vIfS, ↓vNext, ↓vBrk, ↓vCnt, ↓vNever, ↓vForS, ↓vC, ↓vVar, ↓vTup, ↓vOf, ↓vBin, ↓vBinL, ↓vBinR, ↓vUn, ↓vCall, ↓vCallO, ↓vCallIO, ↓vCallSC, ↓vLookA, ↓vB, ↓vTru, ↓vTruO, ↓vAnd, ↓vOr, ↓vNot, ↓vAndV, ↓vOrV, ↓vNotV, ↓vIf, ↓vChain, ↓vNil, ↓vCons, ↓vSl, ↓vSlL, ↓vP0, ↓vP1, ↓vRevT, ↓vRevL, ↓vRevLL, ↓vBits, ↓vPop, ↓vLc, ↓vTurn, ↓vYes, ↓gN, ↓gT, ↓gsC, ↓gs0, ↓gSet, ↓wL, ↓wT, ↓wR1, ↓wR2, ↓d2, ↓d20, ↓dAdd, ↓dMul, ↓dEq, ↓dNe, ↓dIsN, ↓dNotN, ↓isN, ↓dNeg, ↓dIx, ↓dInI, ↓dSl, ↓truD, ↓cLen, ↓cAbs, ↓cMax2, ↓cMin2, ↓cInt, ↓cTup, ↓cLst, ↓sv, ↓List.getD_cons_zero, ↓List.getD_cons_succ, ↓List.set_cons_zero, ↓List.set_cons_succ, ↓vxSeq, ↓vxIf, ↓vxRaise, ↓vxRet, ↓vxAsg, ↓vxCall, ↓vReason, ↓vEqS, ↓vIsi, ↓wR3, ↓wZip, ↓vSetDk, ↓vDkIn, ↓vDkPut, ↓vParE, ↓gL, ↓vxDrop, ↓cSrt, ↓cSum, ↓cMinD, ↓cAnyI, ↓vLenSet, ↓vLc2, List.nil_append, intsOf_map]
  refine ⟨by rw [sizeLine_eq]; decide, sz _ _ _ _ _ _ _ _, noOw78 _ _ _ _ _ _ _, comp_dist _ n ⟨n0, n1⟩ _ _ _ _ _ _ [((NQ.odn n m).a, m.a), ((NQ.odn n m).b, m.b), ((NQ.odn n m).c, m.c), ((NQ.odn n m).d, m.d)] [] ?_ ?_⟩
  · intro p hp
    simp only [List.mem_cons, List.not_mem_nil, or_false] at hp
    rcases hp with rfl | rfl | rfl | rfl
    · exact s1.2
    · exact s2.2
    · exact s3.2
    · exact s4.2
  simp only [↓vSeq, ↓vPar, ↓vPar3, ↓vSet, ↓vSetO, ↓vAsg, ↓vAug, ↓vAppend, ↓vExt, ↓vUnp, ↓vFz, ↓vRet, ↓vRetN, ↓vDrop, ↓vIfS, ↓vNext, ↓vBrk, ↓vCnt, ↓vNever, ↓vForS, ↓vC, ↓vVar, ↓vTup, ↓vOf, ↓vBin, ↓vBinL, ↓vBinR, ↓vUn, ↓vCall, ↓vCallO, ↓vCallIO, ↓vCallSC, ↓vLookA, ↓vB, ↓vTru, ↓vTruO, ↓vAnd, ↓vOr, ↓vNot, ↓vAndV, ↓vOrV, ↓vNotV, ↓vIf, ↓vChain, ↓vNil, ↓vCons, ↓vSl, ↓vSlL, ↓vP0, ↓vP1, ↓vRevT, ↓vRevL, ↓vRevLL, ↓vBits, ↓vPop, ↓vLc, ↓vTurn, ↓vYes, ↓gN, ↓gT, ↓gsC, ↓gs0, ↓gSet, ↓wL, ↓wT, ↓wR1, ↓wR2, ↓d2, ↓d20, ↓dAdd, ↓dMul, ↓dEq, ↓dNe, ↓dIsN, ↓dNotN, ↓isN, ↓dNeg, ↓dIx, ↓dInI, ↓dSl, ↓truD, ↓cLen, ↓cAbs, ↓cMax2, ↓cMin2, ↓cInt, ↓cTup, ↓cLst, ↓sv, ↓List.getD_cons_zero, ↓List.getD_cons_succ, ↓List.set_cons_zero, ↓List.set_cons_succ, ↓vxSeq, ↓vxIf, ↓vxRaise, ↓vxRet, ↓vxAsg, ↓vxCall, ↓vReason, ↓vEqS, ↓vIsi, ↓wR3, ↓wZip, ↓vSetDk, ↓vDkIn, ↓vDkPut, ↓vParE, ↓gL, ↓vxDrop, ↓cSrt, ↓cSum, ↓cMinD, ↓cAnyI, ↓vLenSet, ↓vLc2, List.nil_append, intsOf_map]
  refine ⟨by rw [sizeLine_eq]; simp, ?_⟩
  have sd : ∀ t : Qn, (List.map (fun p : Int × Int => (n * p.fst - p.snd) * (n * p.fst - p.snd)) [(t.a, m.a), (t.b, m.b), (t.c, m.c), (t.d, m.d)]).sum = NQ.dist n t m := fun t => by
    simp only [List.map_cons, List.map_nil, List.sum_cons, List.sum_nil, NQ.dist]; omega
  rw [sd, sd]
  obtain ⟨r1, r, r2, r3, r4, r5⟩ := min_pair (NQ.dist n (NQ.evn n m) m, ⟨[(NQ.evn n m).a, (NQ.evn n m).b, (NQ.evn n m).c, (NQ.evn n m).d]⟩) (NQ.dist n (NQ.odn n m) m, ⟨[(NQ.odn n m).a, (NQ.odn n m).b, (NQ.odn n m).c, (NQ.odn n m).d]⟩)
  refine ⟨r1, ?_⟩
  have r2' : W.minD (.tuple [.int (NQ.dist n (NQ.evn n m) m), .tuple (List.map PyData.int (List.map (fun x => 2 * ((x + n) / (2 * n))) [m.a, m.b, m.c, m.d]))]) ([].append [.tuple [.int (NQ.dist n (NQ.odn n m) m), .tuple (List.map PyData.int (List.map (fun x => 2 * (x / (2 * n)) + 1) [m.a, m.b, m.c, m.d]))]]) = dtD r := r2
  rw [r2']
  rcases r3 with rfl | rfl
  · exact h (NQ.evn n m) ⟨NQ.wh_evn n m, Int.le_refl _, r5⟩
  · exact h (NQ.odn n m) ⟨NQ.wh_odn n m, r4, Int.le_refl _⟩
end VL

set_option Elab.async false
set_option linter.all false
set_option maxRecDepth 1000000
set_option maxHeartbeats 8000000
namespace NQ
theorem mul_zeroL (y : Qn) : mul zero y = zero := by refine ext ?_ ?_ ?_ ?_ <;> simp [mul, P, zero]
theorem add_zero (y : Qn) : add y zero = y := by refine ext ?_ ?_ ?_ ?_ <;> simp [add, zero]
theorem zero_add (y : Qn) : add zero y = y := by refine ext ?_ ?_ ?_ ?_ <;> simp [add, zero]
theorem rq1_mul (y : Qn) : mul (rq 1) y = y := by rw [rq_mul, smul_one]
theorem wh_zero : Wh zero := by decide
theorem quot_le {x y t : Qn} {L : Int} (hx : Wh x) (hy : Wh y) (ht : Wh t) (bx : nm x ≤ L) (b_y : nm y ≤ L) (hp : 0 < nm y) (h : nm (sub x (mul t y)) < nm y) : nm t ≤ 4 * L := by
  have e := nm_sub_le hx (wh_sub hx (wh_mul ht hy))
  rw [sub_sub, nm_mul ht hy] at e
  have t0 := nm0 t
  have := Int.mul_le_mul_of_nonneg_left (show 1 ≤ nm y by omega) t0
  omega
end NQ
namespace VL
open PySem PySem.Spec PyProof.Rows L2 HD
open NQ (Qn Wh mul conj nm RD Near)
/-! ### divided -/
theorem hq_divided_four (ds : List D) (Q : D → Prop) (h : sp_divided_four ds Q) : rd_divided_four { nx := fun _ => Q .none, rt := fun d _ => Q d } (ev0 ["one", "other", "whole", "quotient"] ds) := by
  obtain ⟨x, y, rfl, hx, bx, hy, b_y, h0, h⟩ := h
  show rd_divided_four _ [.fr (qD x), .fr (qD y), .un, .un]
  have n0 := NQ.nm_pos hy h0
  have lb : lim ≤ big := by decide
  have mx : nm (mul x (conj y)) = nm x * nm y := by rw [NQ.nm_mul hx (NQ.wh_conj hy), NQ.nm_conj]
  simp only [↓rd_divided_four, ↓vSeq, ↓vPar, ↓vPar3, ↓vSet, ↓vSetO, ↓vAsg, ↓vAug, ↓vAppend, ↓vExt, ↓vUnp, ↓vFz, ↓vRet, ↓vRetN, ↓vDrop, ↓vIfS, ↓vNext, ↓vBrk, ↓vCnt, ↓vNever, ↓vForS, ↓vC, ↓vVar, ↓vTup, ↓vOf, ↓vBin, ↓vBinL, ↓vBinR, ↓vUn, ↓vCall, ↓vCallO, ↓vCallIO, ↓vCallSC, ↓vLookA, ↓vB, ↓vTru, ↓vTruO, ↓vAnd, ↓vOr, ↓vNot, ↓vAndV, ↓vOrV, ↓vNotV, ↓vIf, ↓vChain, ↓vNil, ↓vCons, ↓vSl, ↓vSlL, ↓vP0, ↓vP1, ↓vRevT, ↓vRevL, ↓vRevLL, ↓vBits, ↓vPop, ↓vLc, ↓vTurn, ↓vYes, ↓gN, ↓gT, ↓gsC, ↓gs0, ↓gSet, ↓wL, ↓wT, ↓wR1, ↓wR2, ↓d2, ↓d20, ↓dAdd, ↓dMul, ↓dEq, ↓dNe, ↓dIsN, ↓dNotN, ↓isN, ↓dNeg, ↓dIx, ↓dInI, ↓dSl, ↓truD, ↓cLen, ↓cAbs, ↓cMax2, ↓cMin2, ↓cInt, ↓cTup, ↓cLst, ↓sv, ↓List.getD_cons_zero, ↓List.getD_cons_succ, ↓List.set_cons_zero, ↓List.set_cons_succ, ↓vxSeq, ↓vxIf, ↓vxRaise, ↓vxRet, ↓vxAsg, ↓vxCall, ↓vReason, ↓vEqS, ↓vIsi, ↓wR3, ↓wZip, ↓vSetDk, ↓vDkIn, ↓vDkPut, ↓vParE, ↓gL, ↓vxDrop, ↓cSrt, ↓cSum, ↓cMinD, ↓cAnyI, ↓vLenSet, ↓vLc2]
  refine ⟨x, rfl, hx, y, rfl, hy, by omega, ?_⟩
  have c0 : decide (nm y = 0) = false := decide_eq_false (by omega)
  simp only [c0]
  refine ⟨y, rfl, x, conj y, rfl, hx, by omega, NQ.wh_conj hy, by rw [NQ.nm_conj]; omega, mul x (conj y), nm y, rfl, n0, b_y, fun t ht => ?_⟩
  simp only [↓vSeq, ↓vPar, ↓vPar3, ↓vSet, ↓vSetO, ↓vAsg, ↓vAug, ↓vAppend, ↓vExt, ↓vUnp, ↓vFz, ↓vRet, ↓vRetN, ↓vDrop, ↓vIfS, ↓vNext, ↓vBrk, ↓vCnt, ↓vNever, ↓vForS, ↓vC, ↓vVar, ↓vTup, ↓vOf, ↓vBin, ↓vBinL, ↓vBinR, ↓vUn, ↓vCall, ↓vCallO, ↓vCallIO, ↓vCallSC, ↓vLookA, ↓vB, ↓vTru, ↓vTruO, ↓vAnd, ↓vOr, ↓vNot, ↓vAndV, ↓vOrV, ↓vNotV, ↓vIf, ↓vChain, ↓vNil, ↓vCons, ↓vSl, ↓vSlL, ↓vP0, ↓vP1, ↓vRevT, ↓vRevL, ↓vRevLL, ↓vBits, ↓vPop, ↓vLc, ↓vTurn, ↓vYes, ↓gN, ↓gT, ↓gsC, ↓gs0, ↓gSet, ↓wL, ↓wT, ↓wR1, ↓wR2, ↓d2, ↓d20, ↓dAdd, ↓dMul, ↓dEq, ↓dNe, ↓dIsN, ↓dNotN, ↓isN, ↓dNeg, ↓dIx, ↓dInI, ↓dSl, ↓truD, ↓cLen, ↓cAbs, ↓cMax2, ↓cMin2, ↓cInt, ↓cTup, ↓cLst, ↓sv, ↓List.getD_cons_zero, ↓List.getD_cons_succ, ↓List.set_cons_zero, ↓List.set_cons_succ, ↓vxSeq, ↓vxIf, ↓vxRaise, ↓vxRet, ↓vxAsg, ↓vxCall, ↓vReason, ↓vEqS, ↓vIsi, ↓wR3, ↓wZip, ↓vSetDk, ↓vDkIn, ↓vDkPut, ↓vParE, ↓gL, ↓vxDrop, ↓cSrt, ↓cSum, ↓cMinD, ↓cAnyI, ↓vLenSet, ↓vLc2]
  obtain ⟨r1, r2⟩ := NQ.near_div hx hy h0 ht
  have qb := NQ.quot_le hx hy ht.1 bx b_y n0 r1
  refine ⟨t, y, rfl, ht.1, by unfold lim big at *; omega, hy, by omega, x, mul t y, rfl, ?_⟩
  exact h t ht.1 r1 r2
theorem hqx_divided_four (ds : List D) (Q : D → Prop) (Rv : Str → Prop) (h : spx_divided_four ds Q Rv) : rdx_divided_four Rv { nx := fun _ => Q .none, rt := fun d _ => Q d } (ev0 ["one", "other", "whole", "quotient"] ds) := by
  obtain ⟨x, rfl, hx, h⟩ := h
  show rdx_divided_four _ _ [.fr (qD x), .fr (qD NQ.zero), .un, .un]
  simp only [↓rdx_divided_four, ↓vSeq, ↓vPar, ↓vPar3, ↓vSet, ↓vSetO, ↓vAsg, ↓vAug, ↓vAppend, ↓vExt, ↓vUnp, ↓vFz, ↓vRet, ↓vRetN, ↓vDrop, ↓vIfS, ↓vNext, ↓vBrk, ↓vCnt, ↓vNever, ↓vForS, ↓vC, ↓vVar, ↓vTup, ↓vOf, ↓vBin, ↓vBinL, ↓vBinR, ↓vUn, ↓vCall, ↓vCallO, ↓vCallIO, ↓vCallSC, ↓vLookA, ↓vB, ↓vTru, ↓vTruO, ↓vAnd, ↓vOr, ↓vNot, ↓vAndV, ↓vOrV, ↓vNotV, ↓vIf, ↓vChain, ↓vNil, ↓vCons, ↓vSl, ↓vSlL, ↓vP0, ↓vP1, ↓vRevT, ↓vRevL, ↓vRevLL, ↓vBits, ↓vPop, ↓vLc, ↓vTurn, ↓vYes, ↓gN, ↓gT, ↓gsC, ↓gs0, ↓gSet, ↓wL, ↓wT, ↓wR1, ↓wR2, ↓d2, ↓d20, ↓dAdd, ↓dMul, ↓dEq, ↓dNe, ↓dIsN, ↓dNotN, ↓isN, ↓dNeg, ↓dIx, ↓dInI, ↓dSl, ↓truD, ↓cLen, ↓cAbs, ↓cMax2, ↓cMin2, ↓cInt, ↓cTup, ↓cLst, ↓sv, ↓List.getD_cons_zero, ↓List.getD_cons_succ, ↓List.set_cons_zero, ↓List.set_cons_succ, ↓vxSeq, ↓vxIf, ↓vxRaise, ↓vxRet, ↓vxAsg, ↓vxCall, ↓vReason, ↓vEqS, ↓vIsi, ↓wR3, ↓wZip, ↓vSetDk, ↓vDkIn, ↓vDkPut, ↓vParE, ↓gL, ↓vxDrop, ↓cSrt, ↓cSum, ↓cMinD, ↓cAnyI, ↓vLenSet, ↓vLc2]
  refine ⟨x, rfl, hx, NQ.zero, rfl, by decide, by decide, ?_⟩
  have c0 : decide (nm NQ.zero = 0) = true := by decide
  simp only [c0]
  exact h
/-! ### the common right divisor -/
theorem any_q (b : Qn) : ([b.a, b.b, b.c, b.d].any (· != 0)) = decide (b ≠ NQ.zero) := by
  by_cases h : b = NQ.zero
  · subst h; rfl
  · rw [decide_eq_true h]
    by_cases h1 : b.a = 0
    · by_cases h2 : b.b = 0
      · by_cases h3 : b.c = 0
        · by_cases h4 : b.d = 0
          · exact absurd (NQ.ext h1 h2 h3 h4) h
          · simp [h4]
        · simp [h3]
      · simp [h2]
    · simp [h1]
theorem wit_cm (Z : VEnds) (x y : Qn) (hx : Wh x) (hy : Wh y) (hZ : ∀ g u v, Wh g → Wh u → Wh v → g = NQ.add (mul u x) (mul v y) → RD g x → RD g y → nm g ≤ lim → Z.nx [.fr (qD g), .fr (qD NQ.zero)]) :
    ∀ (k : Nat) (a b u1 v1 u2 v2 : Qn), nm b < k → Wh u1 → Wh v1 → Wh u2 → Wh v2 → a = NQ.add (mul u1 x) (mul v1 y) → b = NQ.add (mul u2 x) (mul v2 y) → nm a ≤ lim → nm b ≤ lim → (∀ g, Wh g → RD g a → RD g b → RD g x ∧ RD g y) →
    wit rd_common_four_w1c rd_common_four_w1b Z k [.fr (qD a), .fr (qD b)] := by
  intro k
  induction k with
  | zero => intro a b u1 v1 u2 v2 hb; have := NQ.nm0 b; omega
  | succ k ih =>
    intro a b u1 v1 u2 v2 hb w1 w2 w3 w4 ea eb la lb_ back_
    have wa : Wh a := by rw [ea]; exact NQ.wh_add (NQ.wh_mul w1 hx) (NQ.wh_mul w2 hy)
    have wb : Wh b := by rw [eb]; exact NQ.wh_add (NQ.wh_mul w3 hx) (NQ.wh_mul w4 hy)
    rw [wit_succ]
    generalize hW : wit rd_common_four_w1c rd_common_four_w1b Z k = W
    simp only [↓rd_common_four_w1c, ↓rd_common_four_w1b, ↓vSeq, ↓vPar, ↓vPar3, ↓vSet, ↓vSetO, ↓vAsg, ↓vAug, ↓vAppend, ↓vExt, ↓vUnp, ↓vFz, ↓vRet, ↓vRetN, ↓vDrop, ↓vIfS, ↓vNext, ↓vBrk, ↓vCnt, ↓vNever, ↓vForS, ↓vC, ↓vVar, ↓vTup, ↓vOf, ↓vBin, ↓vBinL, ↓vBinR, ↓vUn, ↓vCall, ↓vCallO, ↓vCallIO, ↓vCallSC, ↓vLookA, ↓vB, ↓vTru, ↓vTruO, ↓vAnd, ↓vOr, ↓vNot, ↓vAndV, ↓vOrV, ↓vNotV, ↓vIf, ↓vChain, ↓vNil, ↓vCons, ↓vSl, ↓vSlL, ↓vP0, ↓vP1, ↓vRevT, ↓vRevL, ↓vRevLL, ↓vBits, ↓vPop, ↓vLc, ↓vTurn, ↓vYes, ↓gN, ↓gT, ↓gsC, ↓gs0, ↓gSet, ↓wL, ↓wT, ↓wR1, ↓wR2, ↓d2, ↓d20, ↓dAdd, ↓dMul, ↓dEq, ↓dNe, ↓dIsN, ↓dNotN, ↓isN, ↓dNeg, ↓dIx, ↓dInI, ↓dSl, ↓truD, ↓cLen, ↓cAbs, ↓cMax2, ↓cMin2, ↓cInt, ↓cTup, ↓cLst, ↓sv, ↓List.getD_cons_zero, ↓List.getD_cons_succ, ↓List.set_cons_zero, ↓List.set_cons_succ, ↓vxSeq, ↓vxIf, ↓vxRaise, ↓vxRet, ↓vxAsg, ↓vxCall, ↓vReason, ↓vEqS, ↓vIsi, ↓wR3, ↓wZip, ↓vSetDk, ↓vDkIn, ↓vDkPut, ↓vParE, ↓gL, ↓vxDrop, ↓cSrt, ↓cSum, ↓cMinD, ↓cAnyI, ↓vLenSet, ↓vLc2, qD, tI]
    have i4 := intsOf_map [b.a, b.b, b.c, b.d]
    simp only [List.map_cons, List.map_nil] at i4
    simp only [List.map_cons, List.map_nil, i4, ↓vSeq, ↓vPar, ↓vPar3, ↓vSet, ↓vSetO, ↓vAsg, ↓vAug, ↓vAppend, ↓vExt, ↓vUnp, ↓vFz, ↓vRet, ↓vRetN, ↓vDrop, ↓vIfS, ↓vNext, ↓vBrk, ↓vCnt, ↓vNever, ↓vForS, ↓vC, ↓vVar, ↓vTup, ↓vOf, ↓vBin, ↓vBinL, ↓vBinR, ↓vUn, ↓vCall, ↓vCallO, ↓vCallIO, ↓vCallSC, ↓vLookA, ↓vB, ↓vTru, ↓vTruO, ↓vAnd, ↓vOr, ↓vNot, ↓vAndV, ↓vOrV, ↓vNotV, ↓vIf, ↓vChain, ↓vNil, ↓vCons, ↓vSl, ↓vSlL, ↓vP0, ↓vP1, ↓vRevT, ↓vRevL, ↓vRevLL, ↓vBits, ↓vPop, ↓vLc, ↓vTurn, ↓vYes, ↓gN, ↓gT, ↓gsC, ↓gs0, ↓gSet, ↓wL, ↓wT, ↓wR1, ↓wR2, ↓d2, ↓d20, ↓dAdd, ↓dMul, ↓dEq, ↓dNe, ↓dIsN, ↓dNotN, ↓isN, ↓dNeg, ↓dIx, ↓dInI, ↓dSl, ↓truD, ↓cLen, ↓cAbs, ↓cMax2, ↓cMin2, ↓cInt, ↓cTup, ↓cLst, ↓sv, ↓List.getD_cons_zero, ↓List.getD_cons_succ, ↓List.set_cons_zero, ↓List.set_cons_succ, ↓vxSeq, ↓vxIf, ↓vxRaise, ↓vxRet, ↓vxAsg, ↓vxCall, ↓vReason, ↓vEqS, ↓vIsi, ↓wR3, ↓wZip, ↓vSetDk, ↓vDkIn, ↓vDkPut, ↓vParE, ↓gL, ↓vxDrop, ↓cSrt, ↓cSum, ↓cMinD, ↓cAnyI, ↓vLenSet, ↓vLc2, any_q]
    by_cases hz : b = NQ.zero
    · have c0 : decide (b ≠ NQ.zero) = false := decide_eq_false (fun z => z hz)
      simp only [c0]
      subst hz
      obtain ⟨q1, q2⟩ := back_ a wa NQ.rd_self (NQ.rd_zero wa)
      exact hZ a u1 v1 wa w1 w2 ea q1 q2 la
    · have c0 : decide (b ≠ NQ.zero) = true := decide_eq_true hz
      simp only [c0]
      refine ⟨a, b, rfl, wa, la, wb, lb_, hz, fun t ht r1 _ => ?_⟩
      simp only [↓vSeq, ↓vPar, ↓vPar3, ↓vSet, ↓vSetO, ↓vAsg, ↓vAug, ↓vAppend, ↓vExt, ↓vUnp, ↓vFz, ↓vRet, ↓vRetN, ↓vDrop, ↓vIfS, ↓vNext, ↓vBrk, ↓vCnt, ↓vNever, ↓vForS, ↓vC, ↓vVar, ↓vTup, ↓vOf, ↓vBin, ↓vBinL, ↓vBinR, ↓vUn, ↓vCall, ↓vCallO, ↓vCallIO, ↓vCallSC, ↓vLookA, ↓vB, ↓vTru, ↓vTruO, ↓vAnd, ↓vOr, ↓vNot, ↓vAndV, ↓vOrV, ↓vNotV, ↓vIf, ↓vChain, ↓vNil, ↓vCons, ↓vSl, ↓vSlL, ↓vP0, ↓vP1, ↓vRevT, ↓vRevL, ↓vRevLL, ↓vBits, ↓vPop, ↓vLc, ↓vTurn, ↓vYes, ↓gN, ↓gT, ↓gsC, ↓gs0, ↓gSet, ↓wL, ↓wT, ↓wR1, ↓wR2, ↓d2, ↓d20, ↓dAdd, ↓dMul, ↓dEq, ↓dNe, ↓dIsN, ↓dNotN, ↓isN, ↓dNeg, ↓dIx, ↓dInI, ↓dSl, ↓truD, ↓cLen, ↓cAbs, ↓cMax2, ↓cMin2, ↓cInt, ↓cTup, ↓cLst, ↓sv, ↓List.getD_cons_zero, ↓List.getD_cons_succ, ↓List.set_cons_zero, ↓List.set_cons_succ, ↓vxSeq, ↓vxIf, ↓vxRaise, ↓vxRet, ↓vxAsg, ↓vxCall, ↓vReason, ↓vEqS, ↓vIsi, ↓wR3, ↓wZip, ↓vSetDk, ↓vDkIn, ↓vDkPut, ↓vParE, ↓gL, ↓vxDrop, ↓cSrt, ↓cSum, ↓cMinD, ↓cAnyI, ↓vLenSet, ↓vLc2]
      rw [← hW]
      have wr := NQ.wh_sub wa (NQ.wh_mul ht wb)
      refine ih b (NQ.sub a (mul t b)) u2 v2 (NQ.sub u1 (mul t u2)) (NQ.sub v1 (mul t v2)) (by omega) w3 w4 (NQ.wh_sub w1 (NQ.wh_mul ht w3)) (NQ.wh_sub w2 (NQ.wh_mul ht w4)) eb ?_ lb_ (by omega) fun g hg g1 g2 => ?_
      · rw [← NQ.comb_step ht w1 w2 w3 w4 hx hy, ← ea, ← eb]
      · refine back_ g hg ?_ g1
        have := NQ.RD.comb hg (NQ.wh_rq 1) ht g2 g1
        rw [NQ.rq1_mul, NQ.sub_add] at this
        exact this
theorem hq_common_four (ds : List D) (Q : D → Prop) (h : sp_common_four ds Q) : rd_common_four { nx := fun _ => Q .none, rt := fun d _ => Q d } (ev0 ["one", "other"] ds) := by
  obtain ⟨x, y, rfl, hx, bx, hy, b_y, h⟩ := h
  show rd_common_four _ [.fr (qD x), .fr (qD y)]
  simp only [↓rd_common_four, ↓vSeq, ↓vPar, ↓vPar3, ↓vSet, ↓vSetO, ↓vAsg, ↓vAug, ↓vAppend, ↓vExt, ↓vUnp, ↓vFz, ↓vRet, ↓vRetN, ↓vDrop, ↓vIfS, ↓vNext, ↓vBrk, ↓vCnt, ↓vNever, ↓vForS, ↓vC, ↓vVar, ↓vTup, ↓vOf, ↓vBin, ↓vBinL, ↓vBinR, ↓vUn, ↓vCall, ↓vCallO, ↓vCallIO, ↓vCallSC, ↓vLookA, ↓vB, ↓vTru, ↓vTruO, ↓vAnd, ↓vOr, ↓vNot, ↓vAndV, ↓vOrV, ↓vNotV, ↓vIf, ↓vChain, ↓vNil, ↓vCons, ↓vSl, ↓vSlL, ↓vP0, ↓vP1, ↓vRevT, ↓vRevL, ↓vRevLL, ↓vBits, ↓vPop, ↓vLc, ↓vTurn, ↓vYes, ↓gN, ↓gT, ↓gsC, ↓gs0, ↓gSet, ↓wL, ↓wT, ↓wR1, ↓wR2, ↓d2, ↓d20, ↓dAdd, ↓dMul, ↓dEq, ↓dNe, ↓dIsN, ↓dNotN, ↓isN, ↓dNeg, ↓dIx, ↓dInI, ↓dSl, ↓truD, ↓cLen, ↓cAbs, ↓cMax2, ↓cMin2, ↓cInt, ↓cTup, ↓cLst, ↓sv, ↓List.getD_cons_zero, ↓List.getD_cons_succ, ↓List.set_cons_zero, ↓List.set_cons_succ, ↓vxSeq, ↓vxIf, ↓vxRaise, ↓vxRet, ↓vxAsg, ↓vxCall, ↓vReason, ↓vEqS, ↓vIsi, ↓wR3, ↓wZip, ↓vSetDk, ↓vDkIn, ↓vDkPut, ↓vParE, ↓gL, ↓vxDrop, ↓cSrt, ↓cSum, ↓cMinD, ↓cAnyI, ↓vLenSet, ↓vLc2]
  refine ⟨x, rfl, hx, y, rfl, hy, (nm y).toNat + 1, ?_⟩
  have n0 := NQ.nm0 y
  refine wit_cm _ x y hx hy (fun g u v hg hu hv e r1 r2 b => ?_) _ x y (NQ.rq 1) NQ.zero NQ.zero (NQ.rq 1) (by omega) (NQ.wh_rq 1) NQ.wh_zero NQ.wh_zero (NQ.wh_rq 1) ?_ ?_ bx b_y fun g hg r1 r2 => ⟨r1, r2⟩
  · simp only [↓vSeq, ↓vPar, ↓vPar3, ↓vSet, ↓vSetO, ↓vAsg, ↓vAug, ↓vAppend, ↓vExt, ↓vUnp, ↓vFz, ↓vRet, ↓vRetN, ↓vDrop, ↓vIfS, ↓vNext, ↓vBrk, ↓vCnt, ↓vNever, ↓vForS, ↓vC, ↓vVar, ↓vTup, ↓vOf, ↓vBin, ↓vBinL, ↓vBinR, ↓vUn, ↓vCall, ↓vCallO, ↓vCallIO, ↓vCallSC, ↓vLookA, ↓vB, ↓vTru, ↓vTruO, ↓vAnd, ↓vOr, ↓vNot, ↓vAndV, ↓vOrV, ↓vNotV, ↓vIf, ↓vChain, ↓vNil, ↓vCons, ↓vSl, ↓vSlL, ↓vP0, ↓vP1, ↓vRevT, ↓vRevL, ↓vRevLL, ↓vBits, ↓vPop, ↓vLc, ↓vTurn, ↓vYes, ↓gN, ↓gT, ↓gsC, ↓gs0, ↓gSet, ↓wL, ↓wT, ↓wR1, ↓wR2, ↓d2, ↓d20, ↓dAdd, ↓dMul, ↓dEq, ↓dNe, ↓dIsN, ↓dNotN, ↓isN, ↓dNeg, ↓dIx, ↓dInI, ↓dSl, ↓truD, ↓cLen, ↓cAbs, ↓cMax2, ↓cMin2, ↓cInt, ↓cTup, ↓cLst, ↓sv, ↓List.getD_cons_zero, ↓List.getD_cons_succ, ↓List.set_cons_zero, ↓List.set_cons_succ, ↓vxSeq, ↓vxIf, ↓vxRaise, ↓vxRet, ↓vxAsg, ↓vxCall, ↓vReason, ↓vEqS, ↓vIsi, ↓wR3, ↓wZip, ↓vSetDk, ↓vDkIn, ↓vDkPut, ↓vParE, ↓gL, ↓vxDrop, ↓cSrt, ↓cSum, ↓cMinD, ↓cAnyI, ↓vLenSet, ↓vLc2]
    exact h g u v hg hu hv e r1 r2 b
  · rw [NQ.rq1_mul, NQ.mul_zeroL, NQ.add_zero]
  · rw [NQ.rq1_mul, NQ.mul_zeroL, NQ.zero_add]
end VL

set_option Elab.async false
set_option linter.all false
set_option maxRecDepth 1000000
set_option maxHeartbeats 8000000
namespace VL
open PySem PySem.Spec PyProof.Rows L2 HD
open NQ (Qn Wh mul conj nm RD Near)
/-! ### units -/
theorem comp_u2 (Q : List D → Ev → Prop) (a s : Int) (hs : s = 2 ∨ s = -2) (x0 x2 x3 x6 : SV) : ∀ (xs : List Int) (acc : List D), Q (acc ++ (xs.map fun p => if a = p then s else 0).map .int) [x0, .fr (.int a), x2, x3, .fr (.int s), .un, x6] → vComp rd_units_four_c2_g rd_units_four_c2_t rd_units_four_c2_e [5] Q (xs.map .int) [x0, .fr (.int a), x2, x3, .fr (.int s), .un, x6] acc := by
  intro xs
  induction xs with
  | nil => intro acc h; simpa [vComp] using h
  | cons x xs ih =>
    intro acc h
    rw [List.map_cons]
    show vTurn _ _ _ _ _ _ _ _
    simp only [↓vTurn, ↓rd_units_four_c2_g, ↓rd_units_four_c2_t, ↓rd_units_four_c2_e, ↓wipeE, ↓vSeq, ↓vPar, ↓vPar3, ↓vSet, ↓vSetO, ↓vAsg, ↓vAug, ↓vAppend, ↓vExt, ↓vUnp, ↓vFz, ↓vRet, ↓vRetN, ↓vDrop, ↓vIfS, ↓vNext, ↓vBrk, ↓vCnt, ↓vNever, ↓vForS, ↓vC, ↓vVar, ↓vTup, ↓vOf, ↓vBin, ↓vBinL, ↓vBinR, ↓vUn, ↓vCall, ↓vCallO, ↓vCallIO, ↓vCallSC, ↓vLookA, ↓vB, ↓vTru, ↓vTruO, ↓vAnd, ↓vOr, ↓vNot, ↓vAndV, ↓vOrV, ↓vNotV, ↓vIf, ↓vChain, ↓vNil, ↓vCons, ↓vSl, ↓vSlL, ↓vP0, ↓vP1, ↓vRevT, ↓vRevL, ↓vRevLL, ↓vBits, ↓vPop, ↓vLc, ↓vTurn, ↓vYes, ↓gN, ↓gT, ↓gsC, ↓gs0, ↓gSet, ↓wL, ↓wT, ↓wR1, ↓wR2, ↓d2, ↓d20, ↓dAdd, ↓dMul, ↓dEq, ↓dNe, ↓dIsN, ↓dNotN, ↓isN, ↓dNeg, ↓dIx, ↓dInI, ↓dSl, ↓truD, ↓cLen, ↓cAbs, ↓cMax2, ↓cMin2, ↓cInt, ↓cTup, ↓cLst, ↓sv, ↓List.getD_cons_zero, ↓List.getD_cons_succ, ↓List.set_cons_zero, ↓List.set_cons_succ, ↓vxSeq, ↓vxIf, ↓vxRaise, ↓vxRet, ↓vxAsg, ↓vxCall, ↓vReason, ↓vEqS, ↓vIsi, ↓wR3, ↓wZip, ↓vSetDk, ↓vDkIn, ↓vDkPut, ↓vParE, ↓gL, ↓vxDrop, ↓cSrt, ↓cSum, ↓cMinD, ↓cAnyI, ↓vLenSet, ↓vLc2, back]
    have e : (s * if decide (a = x) = true then 1 else 0) = if a = x then s else 0 := by
      by_cases c : a = x
      · simp [c]
      · simp [c]
    rw [e]
    refine ⟨mul_smallL ⟨by omega, by omega⟩, ih _ ?_⟩
    rw [List.append_assoc]; exact h
theorem comp_u5 (Q : List D → Ev → Prop) (x0 x1 x2 x3 x5 : SV) : ∀ (rows : List (List Int)) (acc : List D), acc.length + 2 * rows.length < 100 → (∀ r ∈ rows, r.length < 100) → Q (acc ++ (rows.flatMap fun r => [r ++ [1], r ++ [-1]]).map rowD) [x0, x1, x2, x3, .un, x5, .un] →
    vComp2 rd_units_four_c5_g rd_units_four_c5_t rd_units_four_c5_w1 rd_units_four_c5_g1 rd_units_four_c5_t1 rd_units_four_c5_e [6, 4] [4] Q (rows.map rowD) [x0, x1, x2, x3, .un, x5, .un] acc := by
  intro rows
  induction rows with
  | nil => intro acc _ _ h; simpa [vComp2] using h
  | cons r rows ih =>
    intro acc hl hr h
    rw [List.map_cons]
    simp only [↓vComp2, ↓vIn, ↓rd_units_four_c5_g, ↓rd_units_four_c5_t, ↓rd_units_four_c5_w1, ↓rd_units_four_c5_g1, ↓rd_units_four_c5_t1, ↓rd_units_four_c5_e, ↓wipeE, ↓vSeq, ↓vPar, ↓vPar3, ↓vSet, ↓vSetO, ↓vAsg, ↓vAug, ↓vAppend, ↓vExt, ↓vUnp, ↓vFz, ↓vRet, ↓vRetN, ↓vDrop, ↓vIfS, ↓vNext, ↓vBrk, ↓vCnt, ↓vNever, ↓vForS, ↓vC, ↓vVar, ↓vTup, ↓vOf, ↓vBin, ↓vBinL, ↓vBinR, ↓vUn, ↓vCall, ↓vCallO, ↓vCallIO, ↓vCallSC, ↓vLookA, ↓vB, ↓vTru, ↓vTruO, ↓vAnd, ↓vOr, ↓vNot, ↓vAndV, ↓vOrV, ↓vNotV, ↓vIf, ↓vChain, ↓vNil, ↓vCons, ↓vSl, ↓vSlL, ↓vP0, ↓vP1, ↓vRevT, ↓vRevL, ↓vRevLL, ↓vBits, ↓vPop, ↓vLc, ↓vTurn, ↓vYes, ↓gN, ↓gT, ↓gsC, ↓gs0, ↓gSet, ↓wL, ↓wT, ↓wR1, ↓wR2, ↓d2, ↓d20, ↓dAdd, ↓dMul, ↓dEq, ↓dNe, ↓dIsN, ↓dNotN, ↓isN, ↓dNeg, ↓dIx, ↓dInI, ↓dSl, ↓truD, ↓cLen, ↓cAbs, ↓cMax2, ↓cMin2, ↓cInt, ↓cTup, ↓cLst, ↓sv, ↓List.getD_cons_zero, ↓List.getD_cons_succ, ↓List.set_cons_zero, ↓List.set_cons_succ, ↓vxSeq, ↓vxIf, ↓vxRaise, ↓vxRet, ↓vxAsg, ↓vxCall, ↓vReason, ↓vEqS, ↓vIsi, ↓wR3, ↓wZip, ↓vSetDk, ↓vDkIn, ↓vDkPut, ↓vParE, ↓gL, ↓vxDrop, ↓cSrt, ↓cSum, ↓cMinD, ↓cAnyI, ↓vLenSet, ↓vLc2, back]
    have q := hr r List.mem_cons_self
    simp only [List.length_cons] at hl
    refine ⟨by rw [List.length_map, sizeLine_eq]; simp; omega, by rw [sizeLine_eq]; omega, by rw [List.length_map, sizeLine_eq]; simp; omega, by rw [List.length_append, sizeLine_eq]; simp; omega, ih _ (by simp; omega) (fun r hr' => hr r (List.mem_cons_of_mem _ hr')) ?_⟩
    simp only [List.flatMap_cons, List.map_append, List.map_cons, List.map_nil, rowD, List.append_assoc, List.cons_append, List.nil_append] at h ⊢
    exact h
def rowU (a s : Int) : List Int := [0, 1, 2, 3].map fun p => if a = p then s else 0
theorem step_u1 (Z : VEnds) (a : Int) (found : List D) (hf : found.length < 100) (x2 x3 x6 : SV) (h : Z.nx [.ow (found ++ [rowD (rowU a 2), rowD (rowU a (-2))]), .fr (.int a), x2, x3, .un, .un, x6]) : rd_units_four_f1b Z [.ow found, .fr (.int a), x2, x3, .un, .un, x6] := by
  simp only [↓rd_units_four_f1b, ↓vSeq, ↓vPar, ↓vPar3, ↓vSet, ↓vSetO, ↓vAsg, ↓vAug, ↓vAppend, ↓vExt, ↓vUnp, ↓vFz, ↓vRet, ↓vRetN, ↓vDrop, ↓vIfS, ↓vNext, ↓vBrk, ↓vCnt, ↓vNever, ↓vForS, ↓vC, ↓vVar, ↓vTup, ↓vOf, ↓vBin, ↓vBinL, ↓vBinR, ↓vUn, ↓vCall, ↓vCallO, ↓vCallIO, ↓vCallSC, ↓vLookA, ↓vB, ↓vTru, ↓vTruO, ↓vAnd, ↓vOr, ↓vNot, ↓vAndV, ↓vOrV, ↓vNotV, ↓vIf, ↓vChain, ↓vNil, ↓vCons, ↓vSl, ↓vSlL, ↓vP0, ↓vP1, ↓vRevT, ↓vRevL, ↓vRevLL, ↓vBits, ↓vPop, ↓vLc, ↓vTurn, ↓vYes, ↓gN, ↓gT, ↓gsC, ↓gs0, ↓gSet, ↓wL, ↓wT, ↓wR1, ↓wR2, ↓d2, ↓d20, ↓dAdd, ↓dMul, ↓dEq, ↓dNe, ↓dIsN, ↓dNotN, ↓isN, ↓dNeg, ↓dIx, ↓dInI, ↓dSl, ↓truD, ↓cLen, ↓cAbs, ↓cMax2, ↓cMin2, ↓cInt, ↓cTup, ↓cLst, ↓sv, ↓List.getD_cons_zero, ↓List.getD_cons_succ, ↓List.set_cons_zero, ↓List.set_cons_succ, ↓vxSeq, ↓vxIf, ↓vxRaise, ↓vxRet, ↓vxAsg, ↓vxCall, ↓vReason, ↓vEqS, ↓vIsi, ↓wR3, ↓wZip, ↓vSetDk, ↓vDkIn, ↓vDkPut, ↓vParE, ↓gL, ↓vxDrop, ↓cSrt, ↓cSum, ↓cMinD, ↓cAnyI, ↓vLenSet, ↓vLc2]
  have no4 : ∀ (x0 x1 x2 x3 x5 x6 : SV), noOw [x0, x1, x2, x3, .un, x5, x6] [4] := fun x0 x1 x2 x3 x5 x6 i hi => by
    obtain rfl : i = 4 := by simpa using hi
    exact id
  have no5 : ∀ (x0 x1 x2 x3 x4 x6 : SV), noOw [x0, x1, x2, x3, x4, .un, x6] [5] := fun x0 x1 x2 x3 x4 x6 i hi => by
    obtain rfl : i = 5 := by simpa using hi
    exact id
  have r4 : rngD 0 (Int.toNat 4) = [0, 1, 2, 3].map .int := rfl
  refine ⟨by rw [sizeLine_eq]; decide, no4 _ _ _ _ _ _, ?_⟩
  show vTurn _ _ _ _ _ _ _ _
  simp only [↓vTurn, ↓rd_units_four_c3_g, ↓rd_units_four_c3_t, ↓rd_units_four_c3_e, ↓wipeE, ↓vSeq, ↓vPar, ↓vPar3, ↓vSet, ↓vSetO, ↓vAsg, ↓vAug, ↓vAppend, ↓vExt, ↓vUnp, ↓vFz, ↓vRet, ↓vRetN, ↓vDrop, ↓vIfS, ↓vNext, ↓vBrk, ↓vCnt, ↓vNever, ↓vForS, ↓vC, ↓vVar, ↓vTup, ↓vOf, ↓vBin, ↓vBinL, ↓vBinR, ↓vUn, ↓vCall, ↓vCallO, ↓vCallIO, ↓vCallSC, ↓vLookA, ↓vB, ↓vTru, ↓vTruO, ↓vAnd, ↓vOr, ↓vNot, ↓vAndV, ↓vOrV, ↓vNotV, ↓vIf, ↓vChain, ↓vNil, ↓vCons, ↓vSl, ↓vSlL, ↓vP0, ↓vP1, ↓vRevT, ↓vRevL, ↓vRevLL, ↓vBits, ↓vPop, ↓vLc, ↓vTurn, ↓vYes, ↓gN, ↓gT, ↓gsC, ↓gs0, ↓gSet, ↓wL, ↓wT, ↓wR1, ↓wR2, ↓d2, ↓d20, ↓dAdd, ↓dMul, ↓dEq, ↓dNe, ↓dIsN, ↓dNotN, ↓isN, ↓dNeg, ↓dIx, ↓dInI, ↓dSl, ↓truD, ↓cLen, ↓cAbs, ↓cMax2, ↓cMin2, ↓cInt, ↓cTup, ↓cLst, ↓sv, ↓List.getD_cons_zero, ↓List.getD_cons_succ, ↓List.set_cons_zero, ↓List.set_cons_succ, ↓vxSeq, ↓vxIf, ↓vxRaise, ↓vxRet, ↓vxAsg, ↓vxCall, ↓vReason, ↓vEqS, ↓vIsi, ↓wR3, ↓wZip, ↓vSetDk, ↓vDkIn, ↓vDkPut, ↓vParE, ↓gL, ↓vxDrop, ↓cSrt, ↓cSum, ↓cMinD, ↓cAnyI, ↓vLenSet, ↓vLc2, back, r4]
  refine ⟨by decide, by rw [sizeLine_eq]; decide, no5 _ _ _ _ _ _, comp_u2 _ a 2 (.inl rfl) _ _ _ _ [0, 1, 2, 3] [] ?_⟩
  show vTurn _ _ _ _ _ _ _ _
  simp only [↓vTurn, ↓wipeE, ↓vSeq, ↓vPar, ↓vPar3, ↓vSet, ↓vSetO, ↓vAsg, ↓vAug, ↓vAppend, ↓vExt, ↓vUnp, ↓vFz, ↓vRet, ↓vRetN, ↓vDrop, ↓vIfS, ↓vNext, ↓vBrk, ↓vCnt, ↓vNever, ↓vForS, ↓vC, ↓vVar, ↓vTup, ↓vOf, ↓vBin, ↓vBinL, ↓vBinR, ↓vUn, ↓vCall, ↓vCallO, ↓vCallIO, ↓vCallSC, ↓vLookA, ↓vB, ↓vTru, ↓vTruO, ↓vAnd, ↓vOr, ↓vNot, ↓vAndV, ↓vOrV, ↓vNotV, ↓vIf, ↓vChain, ↓vNil, ↓vCons, ↓vSl, ↓vSlL, ↓vP0, ↓vP1, ↓vRevT, ↓vRevL, ↓vRevLL, ↓vBits, ↓vPop, ↓vLc, ↓vTurn, ↓vYes, ↓gN, ↓gT, ↓gsC, ↓gs0, ↓gSet, ↓wL, ↓wT, ↓wR1, ↓wR2, ↓d2, ↓d20, ↓dAdd, ↓dMul, ↓dEq, ↓dNe, ↓dIsN, ↓dNotN, ↓isN, ↓dNeg, ↓dIx, ↓dInI, ↓dSl, ↓truD, ↓cLen, ↓cAbs, ↓cMax2, ↓cMin2, ↓cInt, ↓cTup, ↓cLst, ↓sv, ↓List.getD_cons_zero, ↓List.getD_cons_succ, ↓List.set_cons_zero, ↓List.set_cons_succ, ↓vxSeq, ↓vxIf, ↓vxRaise, ↓vxRet, ↓vxAsg, ↓vxCall, ↓vReason, ↓vEqS, ↓vIsi, ↓wR3, ↓wZip, ↓vSetDk, ↓vDkIn, ↓vDkPut, ↓vParE, ↓gL, ↓vxDrop, ↓cSrt, ↓cSum, ↓cMinD, ↓cAnyI, ↓vLenSet, ↓vLc2, back, r4]
  refine ⟨by decide, by rw [sizeLine_eq]; decide, no5 _ _ _ _ _ _, comp_u2 _ a (-2) (.inr rfl) _ _ _ _ [0, 1, 2, 3] [] ?_⟩
  simp only [↓vComp, ↓vSeq, ↓vPar, ↓vPar3, ↓vSet, ↓vSetO, ↓vAsg, ↓vAug, ↓vAppend, ↓vExt, ↓vUnp, ↓vFz, ↓vRet, ↓vRetN, ↓vDrop, ↓vIfS, ↓vNext, ↓vBrk, ↓vCnt, ↓vNever, ↓vForS, ↓vC, ↓vVar, ↓vTup, ↓vOf, ↓vBin, ↓vBinL, ↓vBinR, ↓vUn, ↓vCall, ↓vCallO, ↓vCallIO, ↓vCallSC, ↓vLookA, ↓vB, ↓vTru, ↓vTruO, ↓vAnd, ↓vOr, ↓vNot, ↓vAndV, ↓vOrV, ↓vNotV, ↓vIf, ↓vChain, ↓vNil, ↓vCons, ↓vSl, ↓vSlL, ↓vP0, ↓vP1, ↓vRevT, ↓vRevL, ↓vRevLL, ↓vBits, ↓vPop, ↓vLc, ↓vTurn, ↓vYes, ↓gN, ↓gT, ↓gsC, ↓gs0, ↓gSet, ↓wL, ↓wT, ↓wR1, ↓wR2, ↓d2, ↓d20, ↓dAdd, ↓dMul, ↓dEq, ↓dNe, ↓dIsN, ↓dNotN, ↓isN, ↓dNeg, ↓dIx, ↓dInI, ↓dSl, ↓truD, ↓cLen, ↓cAbs, ↓cMax2, ↓cMin2, ↓cInt, ↓cTup, ↓cLst, ↓sv, ↓List.getD_cons_zero, ↓List.getD_cons_succ, ↓List.set_cons_zero, ↓List.set_cons_succ, ↓vxSeq, ↓vxIf, ↓vxRaise, ↓vxRet, ↓vxAsg, ↓vxCall, ↓vReason, ↓vEqS, ↓vIsi, ↓wR3, ↓wZip, ↓vSetDk, ↓vDkIn, ↓vDkPut, ↓vParE, ↓gL, ↓vxDrop, ↓cSrt, ↓cSum, ↓cMinD, ↓cAnyI, ↓vLenSet, ↓vLc2]
  exact ⟨by rw [sizeLine_eq]; simp; omega, h⟩
theorem step_u4 (Z : VEnds) (rows : List (List Int)) (hl : rows.length < 10) (hr : ∀ r ∈ rows, r.length < 100) (x0 x1 x3 x5 : SV) (h : Z.nx [x0, x1, .ow ((rows.flatMap fun r => [r ++ [1], r ++ [-1]]).map rowD), x3, .un, x5, .un]) : rd_units_four_f4b Z [x0, x1, .ow (rows.map rowD), x3, .un, x5, .un] := by
  simp only [↓rd_units_four_f4b, ↓vLc2, ↓vSeq, ↓vPar, ↓vPar3, ↓vSet, ↓vSetO, ↓vAsg, ↓vAug, ↓vAppend, ↓vExt, ↓vUnp, ↓vFz, ↓vRet, ↓vRetN, ↓vDrop, ↓vIfS, ↓vNext, ↓vBrk, ↓vCnt, ↓vNever, ↓vForS, ↓vC, ↓vVar, ↓vTup, ↓vOf, ↓vBin, ↓vBinL, ↓vBinR, ↓vUn, ↓vCall, ↓vCallO, ↓vCallIO, ↓vCallSC, ↓vLookA, ↓vB, ↓vTru, ↓vTruO, ↓vAnd, ↓vOr, ↓vNot, ↓vAndV, ↓vOrV, ↓vNotV, ↓vIf, ↓vChain, ↓vNil, ↓vCons, ↓vSl, ↓vSlL, ↓vP0, ↓vP1, ↓vRevT, ↓vRevL, ↓vRevLL, ↓vBits, ↓vPop, ↓vLc, ↓vTurn, ↓vYes, ↓gN, ↓gT, ↓gsC, ↓gs0, ↓gSet, ↓wL, ↓wT, ↓wR1, ↓wR2, ↓d2, ↓d20, ↓dAdd, ↓dMul, ↓dEq, ↓dNe, ↓dIsN, ↓dNotN, ↓isN, ↓dNeg, ↓dIx, ↓dInI, ↓dSl, ↓truD, ↓cLen, ↓cAbs, ↓cMax2, ↓cMin2, ↓cInt, ↓cTup, ↓cLst, ↓sv, ↓List.getD_cons_zero, ↓List.getD_cons_succ, ↓List.set_cons_zero, ↓List.set_cons_succ, ↓vxSeq, ↓vxIf, ↓vxRaise, ↓vxRet, ↓vxAsg, ↓vxCall, ↓vReason, ↓vEqS, ↓vIsi, ↓wR3, ↓wZip, ↓vSetDk, ↓vDkIn, ↓vDkPut, ↓vParE, ↓gL, ↓vxDrop, ↓cSrt, ↓cSum, ↓cMinD, ↓cAnyI, ↓vLenSet, ↓vLc2]
  refine ⟨fun i hi => ?_, comp_u5 _ _ _ _ _ _ rows [] (by simp; omega) hr ?_⟩
  · have : i = 6 ∨ i = 4 := by simpa using hi
    rcases this with rfl | rfl <;> exact id
  · simp only [↓vSeq, ↓vPar, ↓vPar3, ↓vSet, ↓vSetO, ↓vAsg, ↓vAug, ↓vAppend, ↓vExt, ↓vUnp, ↓vFz, ↓vRet, ↓vRetN, ↓vDrop, ↓vIfS, ↓vNext, ↓vBrk, ↓vCnt, ↓vNever, ↓vForS, ↓vC, ↓vVar, ↓vTup, ↓vOf, ↓vBin, ↓vBinL, ↓vBinR, ↓vUn, ↓vCall, ↓vCallO, ↓vCallIO, ↓vCallSC, ↓vLookA, ↓vB, ↓vTru, ↓vTruO, ↓vAnd, ↓vOr, ↓vNot, ↓vAndV, ↓vOrV, ↓vNotV, ↓vIf, ↓vChain, ↓vNil, ↓vCons, ↓vSl, ↓vSlL, ↓vP0, ↓vP1, ↓vRevT, ↓vRevL, ↓vRevLL, ↓vBits, ↓vPop, ↓vLc, ↓vTurn, ↓vYes, ↓gN, ↓gT, ↓gsC, ↓gs0, ↓gSet, ↓wL, ↓wT, ↓wR1, ↓wR2, ↓d2, ↓d20, ↓dAdd, ↓dMul, ↓dEq, ↓dNe, ↓dIsN, ↓dNotN, ↓isN, ↓dNeg, ↓dIx, ↓dInI, ↓dSl, ↓truD, ↓cLen, ↓cAbs, ↓cMax2, ↓cMin2, ↓cInt, ↓cTup, ↓cLst, ↓sv, ↓List.getD_cons_zero, ↓List.getD_cons_succ, ↓List.set_cons_zero, ↓List.set_cons_succ, ↓vxSeq, ↓vxIf, ↓vxRaise, ↓vxRet, ↓vxAsg, ↓vxCall, ↓vReason, ↓vEqS, ↓vIsi, ↓wR3, ↓wZip, ↓vSetDk, ↓vDkIn, ↓vDkPut, ↓vParE, ↓gL, ↓vxDrop, ↓cSrt, ↓cSum, ↓cMinD, ↓cAnyI, ↓vLenSet, ↓vLc2, List.nil_append]
    exact h
def grow (rows : List (List Int)) : List (List Int) := rows.flatMap fun r => [r ++ [1], r ++ [-1]]
def axes : List (List Int) := [rowU 0 2, rowU 0 (-2), rowU 1 2, rowU 1 (-2), rowU 2 2, rowU 2 (-2), rowU 3 2, rowU 3 (-2)]
def rowQ (q : Qn) : List Int := [q.a, q.b, q.c, q.d]
theorem hq_units_four (ds : List D) (Q : D → Prop) (h : sp_units_four ds Q) : rd_units_four { nx := fun _ => Q .none, rt := fun d _ => Q d } (ev0 ["found", "at", "signs", "turn", "sign", "place", "row"] ds) := by
  obtain ⟨rfl, h⟩ := h
  show rd_units_four _ [.un, .un, .un, .un, .un, .un, .un]
  simp only [↓rd_units_four, ↓vSeq, ↓vPar, ↓vPar3, ↓vSet, ↓vSetO, ↓vAsg, ↓vAug, ↓vAppend, ↓vExt, ↓vUnp, ↓vFz, ↓vRet, ↓vRetN, ↓vDrop, ↓vIfS, ↓vNext, ↓vBrk, ↓vCnt, ↓vNever, ↓vForS, ↓vC, ↓vVar, ↓vTup, ↓vOf, ↓vBin, ↓vBinL, ↓vBinR, ↓vUn, ↓vCall, ↓vCallO, ↓vCallIO, ↓vCallSC, ↓vLookA, ↓vB, ↓vTru, ↓vTruO, ↓vAnd, ↓vOr, ↓vNot, ↓vAndV, ↓vOrV, ↓vNotV, ↓vIf, ↓vChain, ↓vNil, ↓vCons, ↓vSl, ↓vSlL, ↓vP0, ↓vP1, ↓vRevT, ↓vRevL, ↓vRevLL, ↓vBits, ↓vPop, ↓vLc, ↓vTurn, ↓vYes, ↓gN, ↓gT, ↓gsC, ↓gs0, ↓gSet, ↓wL, ↓wT, ↓wR1, ↓wR2, ↓d2, ↓d20, ↓dAdd, ↓dMul, ↓dEq, ↓dNe, ↓dIsN, ↓dNotN, ↓isN, ↓dNeg, ↓dIx, ↓dInI, ↓dSl, ↓truD, ↓cLen, ↓cAbs, ↓cMax2, ↓cMin2, ↓cInt, ↓cTup, ↓cLst, ↓sv, ↓List.getD_cons_zero, ↓List.getD_cons_succ, ↓List.set_cons_zero, ↓List.set_cons_succ, ↓vxSeq, ↓vxIf, ↓vxRaise, ↓vxRet, ↓vxAsg, ↓vxCall, ↓vReason, ↓vEqS, ↓vIsi, ↓wR3, ↓wZip, ↓vSetDk, ↓vDkIn, ↓vDkPut, ↓vParE, ↓gL, ↓vxDrop, ↓cSrt, ↓cSum, ↓cMinD, ↓cAnyI, ↓vLenSet, ↓vLc2]
  have r4 : rngD 0 (Int.toNat 4) = [.int 0, .int 1, .int 2, .int 3] := rfl
  have noOw4 : ∀ (x0 x2 x3 x4 x5 x6 : SV), True := fun _ _ _ _ _ _ => trivial
  simp only [r4, vFor_cons, vFor_nil, ↓rd_units_four_f1g, ↓vSeq, ↓vPar, ↓vPar3, ↓vSet, ↓vSetO, ↓vAsg, ↓vAug, ↓vAppend, ↓vExt, ↓vUnp, ↓vFz, ↓vRet, ↓vRetN, ↓vDrop, ↓vIfS, ↓vNext, ↓vBrk, ↓vCnt, ↓vNever, ↓vForS, ↓vC, ↓vVar, ↓vTup, ↓vOf, ↓vBin, ↓vBinL, ↓vBinR, ↓vUn, ↓vCall, ↓vCallO, ↓vCallIO, ↓vCallSC, ↓vLookA, ↓vB, ↓vTru, ↓vTruO, ↓vAnd, ↓vOr, ↓vNot, ↓vAndV, ↓vOrV, ↓vNotV, ↓vIf, ↓vChain, ↓vNil, ↓vCons, ↓vSl, ↓vSlL, ↓vP0, ↓vP1, ↓vRevT, ↓vRevL, ↓vRevLL, ↓vBits, ↓vPop, ↓vLc, ↓vTurn, ↓vYes, ↓gN, ↓gT, ↓gsC, ↓gs0, ↓gSet, ↓wL, ↓wT, ↓wR1, ↓wR2, ↓d2, ↓d20, ↓dAdd, ↓dMul, ↓dEq, ↓dNe, ↓dIsN, ↓dNotN, ↓isN, ↓dNeg, ↓dIx, ↓dInI, ↓dSl, ↓truD, ↓cLen, ↓cAbs, ↓cMax2, ↓cMin2, ↓cInt, ↓cTup, ↓cLst, ↓sv, ↓List.getD_cons_zero, ↓List.getD_cons_succ, ↓List.set_cons_zero, ↓List.set_cons_succ, ↓vxSeq, ↓vxIf, ↓vxRaise, ↓vxRet, ↓vxAsg, ↓vxCall, ↓vReason, ↓vEqS, ↓vIsi, ↓wR3, ↓wZip, ↓vSetDk, ↓vDkIn, ↓vDkPut, ↓vParE, ↓gL, ↓vxDrop, ↓cSrt, ↓cSum, ↓cMinD, ↓cAnyI, ↓vLenSet, ↓vLc2]
  refine ⟨by decide, step_u1 _ 0 _ (by simp) _ _ _ ?_⟩
  simp only [r4, vFor_cons, vFor_nil, ↓vSeq, ↓vPar, ↓vPar3, ↓vSet, ↓vSetO, ↓vAsg, ↓vAug, ↓vAppend, ↓vExt, ↓vUnp, ↓vFz, ↓vRet, ↓vRetN, ↓vDrop, ↓vIfS, ↓vNext, ↓vBrk, ↓vCnt, ↓vNever, ↓vForS, ↓vC, ↓vVar, ↓vTup, ↓vOf, ↓vBin, ↓vBinL, ↓vBinR, ↓vUn, ↓vCall, ↓vCallO, ↓vCallIO, ↓vCallSC, ↓vLookA, ↓vB, ↓vTru, ↓vTruO, ↓vAnd, ↓vOr, ↓vNot, ↓vAndV, ↓vOrV, ↓vNotV, ↓vIf, ↓vChain, ↓vNil, ↓vCons, ↓vSl, ↓vSlL, ↓vP0, ↓vP1, ↓vRevT, ↓vRevL, ↓vRevLL, ↓vBits, ↓vPop, ↓vLc, ↓vTurn, ↓vYes, ↓gN, ↓gT, ↓gsC, ↓gs0, ↓gSet, ↓wL, ↓wT, ↓wR1, ↓wR2, ↓d2, ↓d20, ↓dAdd, ↓dMul, ↓dEq, ↓dNe, ↓dIsN, ↓dNotN, ↓isN, ↓dNeg, ↓dIx, ↓dInI, ↓dSl, ↓truD, ↓cLen, ↓cAbs, ↓cMax2, ↓cMin2, ↓cInt, ↓cTup, ↓cLst, ↓sv, ↓List.getD_cons_zero, ↓List.getD_cons_succ, ↓List.set_cons_zero, ↓List.set_cons_succ, ↓vxSeq, ↓vxIf, ↓vxRaise, ↓vxRet, ↓vxAsg, ↓vxCall, ↓vReason, ↓vEqS, ↓vIsi, ↓wR3, ↓wZip, ↓vSetDk, ↓vDkIn, ↓vDkPut, ↓vParE, ↓gL, ↓vxDrop, ↓cSrt, ↓cSum, ↓cMinD, ↓cAnyI, ↓vLenSet, ↓vLc2]
  refine step_u1 _ 1 _ (by simp) _ _ _ ?_
  simp only [r4, vFor_cons, vFor_nil, ↓vSeq, ↓vPar, ↓vPar3, ↓vSet, ↓vSetO, ↓vAsg, ↓vAug, ↓vAppend, ↓vExt, ↓vUnp, ↓vFz, ↓vRet, ↓vRetN, ↓vDrop, ↓vIfS, ↓vNext, ↓vBrk, ↓vCnt, ↓vNever, ↓vForS, ↓vC, ↓vVar, ↓vTup, ↓vOf, ↓vBin, ↓vBinL, ↓vBinR, ↓vUn, ↓vCall, ↓vCallO, ↓vCallIO, ↓vCallSC, ↓vLookA, ↓vB, ↓vTru, ↓vTruO, ↓vAnd, ↓vOr, ↓vNot, ↓vAndV, ↓vOrV, ↓vNotV, ↓vIf, ↓vChain, ↓vNil, ↓vCons, ↓vSl, ↓vSlL, ↓vP0, ↓vP1, ↓vRevT, ↓vRevL, ↓vRevLL, ↓vBits, ↓vPop, ↓vLc, ↓vTurn, ↓vYes, ↓gN, ↓gT, ↓gsC, ↓gs0, ↓gSet, ↓wL, ↓wT, ↓wR1, ↓wR2, ↓d2, ↓d20, ↓dAdd, ↓dMul, ↓dEq, ↓dNe, ↓dIsN, ↓dNotN, ↓isN, ↓dNeg, ↓dIx, ↓dInI, ↓dSl, ↓truD, ↓cLen, ↓cAbs, ↓cMax2, ↓cMin2, ↓cInt, ↓cTup, ↓cLst, ↓sv, ↓List.getD_cons_zero, ↓List.getD_cons_succ, ↓List.set_cons_zero, ↓List.set_cons_succ, ↓vxSeq, ↓vxIf, ↓vxRaise, ↓vxRet, ↓vxAsg, ↓vxCall, ↓vReason, ↓vEqS, ↓vIsi, ↓wR3, ↓wZip, ↓vSetDk, ↓vDkIn, ↓vDkPut, ↓vParE, ↓gL, ↓vxDrop, ↓cSrt, ↓cSum, ↓cMinD, ↓cAnyI, ↓vLenSet, ↓vLc2]
  refine step_u1 _ 2 _ (by simp) _ _ _ ?_
  simp only [r4, vFor_cons, vFor_nil, ↓vSeq, ↓vPar, ↓vPar3, ↓vSet, ↓vSetO, ↓vAsg, ↓vAug, ↓vAppend, ↓vExt, ↓vUnp, ↓vFz, ↓vRet, ↓vRetN, ↓vDrop, ↓vIfS, ↓vNext, ↓vBrk, ↓vCnt, ↓vNever, ↓vForS, ↓vC, ↓vVar, ↓vTup, ↓vOf, ↓vBin, ↓vBinL, ↓vBinR, ↓vUn, ↓vCall, ↓vCallO, ↓vCallIO, ↓vCallSC, ↓vLookA, ↓vB, ↓vTru, ↓vTruO, ↓vAnd, ↓vOr, ↓vNot, ↓vAndV, ↓vOrV, ↓vNotV, ↓vIf, ↓vChain, ↓vNil, ↓vCons, ↓vSl, ↓vSlL, ↓vP0, ↓vP1, ↓vRevT, ↓vRevL, ↓vRevLL, ↓vBits, ↓vPop, ↓vLc, ↓vTurn, ↓vYes, ↓gN, ↓gT, ↓gsC, ↓gs0, ↓gSet, ↓wL, ↓wT, ↓wR1, ↓wR2, ↓d2, ↓d20, ↓dAdd, ↓dMul, ↓dEq, ↓dNe, ↓dIsN, ↓dNotN, ↓isN, ↓dNeg, ↓dIx, ↓dInI, ↓dSl, ↓truD, ↓cLen, ↓cAbs, ↓cMax2, ↓cMin2, ↓cInt, ↓cTup, ↓cLst, ↓sv, ↓List.getD_cons_zero, ↓List.getD_cons_succ, ↓List.set_cons_zero, ↓List.set_cons_succ, ↓vxSeq, ↓vxIf, ↓vxRaise, ↓vxRet, ↓vxAsg, ↓vxCall, ↓vReason, ↓vEqS, ↓vIsi, ↓wR3, ↓wZip, ↓vSetDk, ↓vDkIn, ↓vDkPut, ↓vParE, ↓gL, ↓vxDrop, ↓cSrt, ↓cSum, ↓cMinD, ↓cAnyI, ↓vLenSet, ↓vLc2]
  refine step_u1 _ 3 _ (by simp) _ _ _ ?_
  simp only [r4, vFor_cons, vFor_nil, ↓rd_units_four_f4g, ↓vSeq, ↓vPar, ↓vPar3, ↓vSet, ↓vSetO, ↓vAsg, ↓vAug, ↓vAppend, ↓vExt, ↓vUnp, ↓vFz, ↓vRet, ↓vRetN, ↓vDrop, ↓vIfS, ↓vNext, ↓vBrk, ↓vCnt, ↓vNever, ↓vForS, ↓vC, ↓vVar, ↓vTup, ↓vOf, ↓vBin, ↓vBinL, ↓vBinR, ↓vUn, ↓vCall, ↓vCallO, ↓vCallIO, ↓vCallSC, ↓vLookA, ↓vB, ↓vTru, ↓vTruO, ↓vAnd, ↓vOr, ↓vNot, ↓vAndV, ↓vOrV, ↓vNotV, ↓vIf, ↓vChain, ↓vNil, ↓vCons, ↓vSl, ↓vSlL, ↓vP0, ↓vP1, ↓vRevT, ↓vRevL, ↓vRevLL, ↓vBits, ↓vPop, ↓vLc, ↓vTurn, ↓vYes, ↓gN, ↓gT, ↓gsC, ↓gs0, ↓gSet, ↓wL, ↓wT, ↓wR1, ↓wR2, ↓d2, ↓d20, ↓dAdd, ↓dMul, ↓dEq, ↓dNe, ↓dIsN, ↓dNotN, ↓isN, ↓dNeg, ↓dIx, ↓dInI, ↓dSl, ↓truD, ↓cLen, ↓cAbs, ↓cMax2, ↓cMin2, ↓cInt, ↓cTup, ↓cLst, ↓sv, ↓List.getD_cons_zero, ↓List.getD_cons_succ, ↓List.set_cons_zero, ↓List.set_cons_succ, ↓vxSeq, ↓vxIf, ↓vxRaise, ↓vxRet, ↓vxAsg, ↓vxCall, ↓vReason, ↓vEqS, ↓vIsi, ↓wR3, ↓wZip, ↓vSetDk, ↓vDkIn, ↓vDkPut, ↓vParE, ↓gL, ↓vxDrop, ↓cSrt, ↓cSum, ↓cMinD, ↓cAnyI, ↓vLenSet, ↓vLc2]
  refine ⟨by decide, step_u4 _ [[]] (by decide) (by decide) _ _ _ _ ?_⟩
  simp only [r4, vFor_cons, vFor_nil, ↓vSeq, ↓vPar, ↓vPar3, ↓vSet, ↓vSetO, ↓vAsg, ↓vAug, ↓vAppend, ↓vExt, ↓vUnp, ↓vFz, ↓vRet, ↓vRetN, ↓vDrop, ↓vIfS, ↓vNext, ↓vBrk, ↓vCnt, ↓vNever, ↓vForS, ↓vC, ↓vVar, ↓vTup, ↓vOf, ↓vBin, ↓vBinL, ↓vBinR, ↓vUn, ↓vCall, ↓vCallO, ↓vCallIO, ↓vCallSC, ↓vLookA, ↓vB, ↓vTru, ↓vTruO, ↓vAnd, ↓vOr, ↓vNot, ↓vAndV, ↓vOrV, ↓vNotV, ↓vIf, ↓vChain, ↓vNil, ↓vCons, ↓vSl, ↓vSlL, ↓vP0, ↓vP1, ↓vRevT, ↓vRevL, ↓vRevLL, ↓vBits, ↓vPop, ↓vLc, ↓vTurn, ↓vYes, ↓gN, ↓gT, ↓gsC, ↓gs0, ↓gSet, ↓wL, ↓wT, ↓wR1, ↓wR2, ↓d2, ↓d20, ↓dAdd, ↓dMul, ↓dEq, ↓dNe, ↓dIsN, ↓dNotN, ↓isN, ↓dNeg, ↓dIx, ↓dInI, ↓dSl, ↓truD, ↓cLen, ↓cAbs, ↓cMax2, ↓cMin2, ↓cInt, ↓cTup, ↓cLst, ↓sv, ↓List.getD_cons_zero, ↓List.getD_cons_succ, ↓List.set_cons_zero, ↓List.set_cons_succ, ↓vxSeq, ↓vxIf, ↓vxRaise, ↓vxRet, ↓vxAsg, ↓vxCall, ↓vReason, ↓vEqS, ↓vIsi, ↓wR3, ↓wZip, ↓vSetDk, ↓vDkIn, ↓vDkPut, ↓vParE, ↓gL, ↓vxDrop, ↓cSrt, ↓cSum, ↓cMinD, ↓cAnyI, ↓vLenSet, ↓vLc2]
  refine step_u4 _ (grow [[]]) (by decide) (by decide) _ _ _ _ ?_
  simp only [r4, vFor_cons, vFor_nil, ↓vSeq, ↓vPar, ↓vPar3, ↓vSet, ↓vSetO, ↓vAsg, ↓vAug, ↓vAppend, ↓vExt, ↓vUnp, ↓vFz, ↓vRet, ↓vRetN, ↓vDrop, ↓vIfS, ↓vNext, ↓vBrk, ↓vCnt, ↓vNever, ↓vForS, ↓vC, ↓vVar, ↓vTup, ↓vOf, ↓vBin, ↓vBinL, ↓vBinR, ↓vUn, ↓vCall, ↓vCallO, ↓vCallIO, ↓vCallSC, ↓vLookA, ↓vB, ↓vTru, ↓vTruO, ↓vAnd, ↓vOr, ↓vNot, ↓vAndV, ↓vOrV, ↓vNotV, ↓vIf, ↓vChain, ↓vNil, ↓vCons, ↓vSl, ↓vSlL, ↓vP0, ↓vP1, ↓vRevT, ↓vRevL, ↓vRevLL, ↓vBits, ↓vPop, ↓vLc, ↓vTurn, ↓vYes, ↓gN, ↓gT, ↓gsC, ↓gs0, ↓gSet, ↓wL, ↓wT, ↓wR1, ↓wR2, ↓d2, ↓d20, ↓dAdd, ↓dMul, ↓dEq, ↓dNe, ↓dIsN, ↓dNotN, ↓isN, ↓dNeg, ↓dIx, ↓dInI, ↓dSl, ↓truD, ↓cLen, ↓cAbs, ↓cMax2, ↓cMin2, ↓cInt, ↓cTup, ↓cLst, ↓sv, ↓List.getD_cons_zero, ↓List.getD_cons_succ, ↓List.set_cons_zero, ↓List.set_cons_succ, ↓vxSeq, ↓vxIf, ↓vxRaise, ↓vxRet, ↓vxAsg, ↓vxCall, ↓vReason, ↓vEqS, ↓vIsi, ↓wR3, ↓wZip, ↓vSetDk, ↓vDkIn, ↓vDkPut, ↓vParE, ↓gL, ↓vxDrop, ↓cSrt, ↓cSum, ↓cMinD, ↓cAnyI, ↓vLenSet, ↓vLc2]
  refine step_u4 _ (grow (grow [[]])) (by decide) (by decide) _ _ _ _ ?_
  simp only [r4, vFor_cons, vFor_nil, ↓vSeq, ↓vPar, ↓vPar3, ↓vSet, ↓vSetO, ↓vAsg, ↓vAug, ↓vAppend, ↓vExt, ↓vUnp, ↓vFz, ↓vRet, ↓vRetN, ↓vDrop, ↓vIfS, ↓vNext, ↓vBrk, ↓vCnt, ↓vNever, ↓vForS, ↓vC, ↓vVar, ↓vTup, ↓vOf, ↓vBin, ↓vBinL, ↓vBinR, ↓vUn, ↓vCall, ↓vCallO, ↓vCallIO, ↓vCallSC, ↓vLookA, ↓vB, ↓vTru, ↓vTruO, ↓vAnd, ↓vOr, ↓vNot, ↓vAndV, ↓vOrV, ↓vNotV, ↓vIf, ↓vChain, ↓vNil, ↓vCons, ↓vSl, ↓vSlL, ↓vP0, ↓vP1, ↓vRevT, ↓vRevL, ↓vRevLL, ↓vBits, ↓vPop, ↓vLc, ↓vTurn, ↓vYes, ↓gN, ↓gT, ↓gsC, ↓gs0, ↓gSet, ↓wL, ↓wT, ↓wR1, ↓wR2, ↓d2, ↓d20, ↓dAdd, ↓dMul, ↓dEq, ↓dNe, ↓dIsN, ↓dNotN, ↓isN, ↓dNeg, ↓dIx, ↓dInI, ↓dSl, ↓truD, ↓cLen, ↓cAbs, ↓cMax2, ↓cMin2, ↓cInt, ↓cTup, ↓cLst, ↓sv, ↓List.getD_cons_zero, ↓List.getD_cons_succ, ↓List.set_cons_zero, ↓List.set_cons_succ, ↓vxSeq, ↓vxIf, ↓vxRaise, ↓vxRet, ↓vxAsg, ↓vxCall, ↓vReason, ↓vEqS, ↓vIsi, ↓wR3, ↓wZip, ↓vSetDk, ↓vDkIn, ↓vDkPut, ↓vParE, ↓gL, ↓vxDrop, ↓cSrt, ↓cSum, ↓cMinD, ↓cAnyI, ↓vLenSet, ↓vLc2]
  refine step_u4 _ (grow (grow (grow [[]]))) (by decide) (by decide) _ _ _ _ ?_
  simp only [r4, vFor_cons, vFor_nil, ↓vSeq, ↓vPar, ↓vPar3, ↓vSet, ↓vSetO, ↓vAsg, ↓vAug, ↓vAppend, ↓vExt, ↓vUnp, ↓vFz, ↓vRet, ↓vRetN, ↓vDrop, ↓vIfS, ↓vNext, ↓vBrk, ↓vCnt, ↓vNever, ↓vForS, ↓vC, ↓vVar, ↓vTup, ↓vOf, ↓vBin, ↓vBinL, ↓vBinR, ↓vUn, ↓vCall, ↓vCallO, ↓vCallIO, ↓vCallSC, ↓vLookA, ↓vB, ↓vTru, ↓vTruO, ↓vAnd, ↓vOr, ↓vNot, ↓vAndV, ↓vOrV, ↓vNotV, ↓vIf, ↓vChain, ↓vNil, ↓vCons, ↓vSl, ↓vSlL, ↓vP0, ↓vP1, ↓vRevT, ↓vRevL, ↓vRevLL, ↓vBits, ↓vPop, ↓vLc, ↓vTurn, ↓vYes, ↓gN, ↓gT, ↓gsC, ↓gs0, ↓gSet, ↓wL, ↓wT, ↓wR1, ↓wR2, ↓d2, ↓d20, ↓dAdd, ↓dMul, ↓dEq, ↓dNe, ↓dIsN, ↓dNotN, ↓isN, ↓dNeg, ↓dIx, ↓dInI, ↓dSl, ↓truD, ↓cLen, ↓cAbs, ↓cMax2, ↓cMin2, ↓cInt, ↓cTup, ↓cLst, ↓sv, ↓List.getD_cons_zero, ↓List.getD_cons_succ, ↓List.set_cons_zero, ↓List.set_cons_succ, ↓vxSeq, ↓vxIf, ↓vxRaise, ↓vxRet, ↓vxAsg, ↓vxCall, ↓vReason, ↓vEqS, ↓vIsi, ↓wR3, ↓wZip, ↓vSetDk, ↓vDkIn, ↓vDkPut, ↓vParE, ↓gL, ↓vxDrop, ↓cSrt, ↓cSum, ↓cMinD, ↓cAnyI, ↓vLenSet, ↓vLc2]
  refine ⟨by rw [sizeLine_eq]; simp [axes]; decide, .inr ⟨axes ++ grow (grow (grow (grow [[]]))), 4, ?_, by decide, by decide, ?_⟩⟩
  · rw [List.map_append]; rfl
  · have e : ordB false (sortL (axes ++ grow (grow (grow (grow [[]]))))) = units24.map rowQ := by decide +kernel
    rw [e, List.map_map]
    exact h
end VL

set_option Elab.async false
set_option linter.all false
set_option maxRecDepth 1000000
set_option maxHeartbeats 8000000
set_option pp.deepTerms false
set_option pp.deepTerms.threshold 4
namespace NQ
theorem rq_dvd {x : Qn} {p : Int} (h1 : x.a % p = 0) (h2 : x.b % p = 0) (h3 : x.c % p = 0) (h4 : x.d % p = 0) : x = smul p ⟨x.a / p, x.b / p, x.c / p, x.d / p⟩ := by
  have e1 := Int.mul_ediv_add_emod x.a p; have e2 := Int.mul_ediv_add_emod x.b p; have e3 := Int.mul_ediv_add_emod x.c p; have e4 := Int.mul_ediv_add_emod x.d p
  refine ext ?_ ?_ ?_ ?_ <;> simp only [smul] <;> omega
theorem nm_rq (n : Int) : nm (rq n) = n * n := by
  unfold nm; simp only [sq, rq]
  have : 2 * n * (2 * n) + 0 * 0 + 0 * 0 + 0 * 0 = 4 * (n * n) := by grind
  rw [this]; omega
end NQ
namespace VL
open PySem PySem.Spec PyProof.Rows L2 HD
open NQ (Qn Wh mul conj nm RD Near)
/-! ### a prime -/
theorem comp_p4 (Q : List D → Ev → Prop) (x0 : SV) : ∀ (xs : List Int) (acc : List D), Q (acc ++ (xs.map fun x => 2 * x).map .int) [x0, .un] → vComp rd_prime_four_c1_g rd_prime_four_c1_t rd_prime_four_c1_e [1] Q (xs.map .int) [x0, .un] acc := by
  intro xs
  induction xs with
  | nil => intro acc h; simpa [vComp] using h
  | cons x xs ih =>
    intro acc h
    rw [List.map_cons]
    show vTurn _ _ _ _ _ _ _ _
    simp only [↓vTurn, ↓rd_prime_four_c1_g, ↓rd_prime_four_c1_t, ↓rd_prime_four_c1_e, ↓wipeE, ↓vSeq, ↓vPar, ↓vPar3, ↓vSet, ↓vSetO, ↓vAsg, ↓vAug, ↓vAppend, ↓vExt, ↓vUnp, ↓vFz, ↓vRet, ↓vRetN, ↓vDrop, ↓vIfS, ↓vNext, ↓vBrk, ↓vCnt, ↓vNever, ↓vForS, ↓vC, ↓vVar, ↓vTup, ↓vOf, ↓vBin, ↓vBinL, ↓vBinR, ↓vUn, ↓vCall, ↓vCallO, ↓vCallIO, ↓vCallSC, ↓vLookA, ↓vB, ↓vTru, ↓vTruO, ↓vAnd, ↓vOr, ↓vNot, ↓vAndV, ↓vOrV, ↓vNotV, ↓vIf, ↓vChain, ↓vNil, ↓vCons, ↓vSl, ↓vSlL, ↓vP0, ↓vP1, ↓vRevT, ↓vRevL, ↓vRevLL, ↓vBits, ↓vPop, ↓vLc, ↓vTurn, ↓vYes, ↓gN, ↓gT, ↓gsC, ↓gs0, ↓gSet, ↓wL, ↓wT, ↓wR1, ↓wR2, ↓d2, ↓d20, ↓dAdd, ↓dMul, ↓dEq, ↓dNe, ↓dIsN, ↓dNotN, ↓isN, ↓dNeg, ↓dIx, ↓dInI, ↓dSl, ↓truD, ↓cLen, ↓cAbs, ↓cMax2, ↓cMin2, ↓cInt, ↓cTup, ↓cLst, ↓sv, ↓List.getD_cons_zero, ↓List.getD_cons_succ, ↓List.set_cons_zero, ↓List.set_cons_succ, ↓vxSeq, ↓vxIf, ↓vxRaise, ↓vxRet, ↓vxAsg, ↓vxCall, ↓vReason, ↓vEqS, ↓vIsi, ↓wR3, ↓wZip, ↓vSetDk, ↓vDkIn, ↓vDkPut, ↓vParE, ↓gL, ↓vxDrop, ↓cSrt, ↓cSum, ↓cMinD, ↓cAnyI, ↓vLenSet, ↓vLc2, back]
    refine ⟨mul_smallL ⟨by omega, by omega⟩, ?_⟩
    refine ih _ ?_
    rw [List.append_assoc]; exact h
theorem hq_prime_four (ds : List D) (Q : D → Prop) (h : sp_prime_four ds Q) : rd_prime_four { nx := fun _ => Q .none, rt := fun d _ => Q d } (ev0 ["prime", "number"] ds) := by
  obtain ⟨p, rfl, hp, h⟩ := h
  show rd_prime_four _ [.fr (.int p), .un]
  simp only [↓rd_prime_four, ↓vSeq, ↓vPar, ↓vPar3, ↓vSet, ↓vSetO, ↓vAsg, ↓vAug, ↓vAppend, ↓vExt, ↓vUnp, ↓vFz, ↓vRet, ↓vRetN, ↓vDrop, ↓vIfS, ↓vNext, ↓vBrk, ↓vCnt, ↓vNever, ↓vForS, ↓vC, ↓vVar, ↓vTup, ↓vOf, ↓vBin, ↓vBinL, ↓vBinR, ↓vUn, ↓vCall, ↓vCallO, ↓vCallIO, ↓vCallSC, ↓vLookA, ↓vB, ↓vTru, ↓vTruO, ↓vAnd, ↓vOr, ↓vNot, ↓vAndV, ↓vOrV, ↓vNotV, ↓vIf, ↓vChain, ↓vNil, ↓vCons, ↓vSl, ↓vSlL, ↓vP0, ↓vP1, ↓vRevT, ↓vRevL, ↓vRevLL, ↓vBits, ↓vPop, ↓vLc, ↓vTurn, ↓vYes, ↓gN, ↓gT, ↓gsC, ↓gs0, ↓gSet, ↓wL, ↓wT, ↓wR1, ↓wR2, ↓d2, ↓d20, ↓dAdd, ↓dMul, ↓dEq, ↓dNe, ↓dIsN, ↓dNotN, ↓isN, ↓dNeg, ↓dIx, ↓dInI, ↓dSl, ↓truD, ↓cLen, ↓cAbs, ↓cMax2, ↓cMin2, ↓cInt, ↓cTup, ↓cLst, ↓sv, ↓List.getD_cons_zero, ↓List.getD_cons_succ, ↓List.set_cons_zero, ↓List.set_cons_succ, ↓vxSeq, ↓vxIf, ↓vxRaise, ↓vxRet, ↓vxAsg, ↓vxCall, ↓vReason, ↓vEqS, ↓vIsi, ↓wR3, ↓wZip, ↓vSetDk, ↓vDkIn, ↓vDkPut, ↓vParE, ↓gL, ↓vxDrop, ↓cSrt, ↓cSum, ↓cMinD, ↓cAnyI, ↓vLenSet, ↓vLc2]
  refine ⟨p, rfl, by omega, by omega, fun x y z w e h1 h2 h3 h4 => ?_⟩
  simp only [tI, ↓vSeq, ↓vPar, ↓vPar3, ↓vSet, ↓vSetO, ↓vAsg, ↓vAug, ↓vAppend, ↓vExt, ↓vUnp, ↓vFz, ↓vRet, ↓vRetN, ↓vDrop, ↓vIfS, ↓vNext, ↓vBrk, ↓vCnt, ↓vNever, ↓vForS, ↓vC, ↓vVar, ↓vTup, ↓vOf, ↓vBin, ↓vBinL, ↓vBinR, ↓vUn, ↓vCall, ↓vCallO, ↓vCallIO, ↓vCallSC, ↓vLookA, ↓vB, ↓vTru, ↓vTruO, ↓vAnd, ↓vOr, ↓vNot, ↓vAndV, ↓vOrV, ↓vNotV, ↓vIf, ↓vChain, ↓vNil, ↓vCons, ↓vSl, ↓vSlL, ↓vP0, ↓vP1, ↓vRevT, ↓vRevL, ↓vRevLL, ↓vBits, ↓vPop, ↓vLc, ↓vTurn, ↓vYes, ↓gN, ↓gT, ↓gsC, ↓gs0, ↓gSet, ↓wL, ↓wT, ↓wR1, ↓wR2, ↓d2, ↓d20, ↓dAdd, ↓dMul, ↓dEq, ↓dNe, ↓dIsN, ↓dNotN, ↓isN, ↓dNeg, ↓dIx, ↓dInI, ↓dSl, ↓truD, ↓cLen, ↓cAbs, ↓cMax2, ↓cMin2, ↓cInt, ↓cTup, ↓cLst, ↓sv, ↓List.getD_cons_zero, ↓List.getD_cons_succ, ↓List.set_cons_zero, ↓List.set_cons_succ, ↓vxSeq, ↓vxIf, ↓vxRaise, ↓vxRet, ↓vxAsg, ↓vxCall, ↓vReason, ↓vEqS, ↓vIsi, ↓wR3, ↓wZip, ↓vSetDk, ↓vDkIn, ↓vDkPut, ↓vParE, ↓gL, ↓vxDrop, ↓cSrt, ↓cSum, ↓cMinD, ↓cAnyI, ↓vLenSet, ↓vLc2]
  refine ⟨by rw [sizeLine_eq, List.length_map]; simp, fun i hi => ?_, comp_p4 _ _ [x, y, z, w] [] ?_⟩
  · obtain rfl : i = 1 := by simpa using hi
    exact id
  · refine h ⟨2 * x, 2 * y, 2 * z, 2 * w⟩ ⟨by simp only; omega, by simp only; omega, by simp only; omega⟩ ?_
    unfold NQ.nm NQ.sq
    have e2 : 2 * x * (2 * x) + 2 * y * (2 * y) + 2 * z * (2 * z) + 2 * w * (2 * w) = 4 * (x * x + y * y + z * z + w * w) := by grind
    simp only [e2, e]; omega
/-! ### over a prime -/
theorem comp_o1 (Q : List D → Ev → Prop) (p : Int) (hp : 0 < p ∧ p < 1000) (x0 x2 x3 x4 : SV) : ∀ (xs : List Int) (acc : List D), Q (acc ++ (xs.map fun x => decide (x % p = 0)).map .bool) [x0, .fr (.int p), x2, x3, x4, .un] → vComp rd_over_prime_c1_g rd_over_prime_c1_t rd_over_prime_c1_e [5] Q (xs.map .int) [x0, .fr (.int p), x2, x3, x4, .un] acc := by
  intro xs
  induction xs with
  | nil => intro acc h; simpa [vComp] using h
  | cons x xs ih =>
    intro acc h
    rw [List.map_cons]
    show vTurn _ _ _ _ _ _ _ _
    simp only [↓vTurn, ↓rd_over_prime_c1_g, ↓rd_over_prime_c1_t, ↓rd_over_prime_c1_e, ↓wipeE, ↓vSeq, ↓vPar, ↓vPar3, ↓vSet, ↓vSetO, ↓vAsg, ↓vAug, ↓vAppend, ↓vExt, ↓vUnp, ↓vFz, ↓vRet, ↓vRetN, ↓vDrop, ↓vIfS, ↓vNext, ↓vBrk, ↓vCnt, ↓vNever, ↓vForS, ↓vC, ↓vVar, ↓vTup, ↓vOf, ↓vBin, ↓vBinL, ↓vBinR, ↓vUn, ↓vCall, ↓vCallO, ↓vCallIO, ↓vCallSC, ↓vLookA, ↓vB, ↓vTru, ↓vTruO, ↓vAnd, ↓vOr, ↓vNot, ↓vAndV, ↓vOrV, ↓vNotV, ↓vIf, ↓vChain, ↓vNil, ↓vCons, ↓vSl, ↓vSlL, ↓vP0, ↓vP1, ↓vRevT, ↓vRevL, ↓vRevLL, ↓vBits, ↓vPop, ↓vLc, ↓vTurn, ↓vYes, ↓gN, ↓gT, ↓gsC, ↓gs0, ↓gSet, ↓wL, ↓wT, ↓wR1, ↓wR2, ↓d2, ↓d20, ↓dAdd, ↓dMul, ↓dEq, ↓dNe, ↓dIsN, ↓dNotN, ↓isN, ↓dNeg, ↓dIx, ↓dInI, ↓dSl, ↓truD, ↓cLen, ↓cAbs, ↓cMax2, ↓cMin2, ↓cInt, ↓cTup, ↓cLst, ↓sv, ↓List.getD_cons_zero, ↓List.getD_cons_succ, ↓List.set_cons_zero, ↓List.set_cons_succ, ↓vxSeq, ↓vxIf, ↓vxRaise, ↓vxRet, ↓vxAsg, ↓vxCall, ↓vReason, ↓vEqS, ↓vIsi, ↓wR3, ↓wZip, ↓vSetDk, ↓vDkIn, ↓vDkPut, ↓vParE, ↓gL, ↓vxDrop, ↓cSrt, ↓cSum, ↓cMinD, ↓cAnyI, ↓vLenSet, ↓vLc2, back]
    refine ⟨by omega, ?_⟩
    rw [fmod_pos (by omega)]
    refine ih _ ?_
    rw [List.append_assoc]; exact h
theorem comp_o2 (Q : List D → Ev → Prop) (p : Int) (hp : 0 < p ∧ p < 1000) (x0 x2 x3 x4 : SV) : ∀ (xs : List Int) (acc : List D), Q (acc ++ (xs.map fun x => x / p).map .int) [x0, .fr (.int p), x2, x3, x4, .un] → vComp rd_over_prime_c2_g rd_over_prime_c2_t rd_over_prime_c2_e [5] Q (xs.map .int) [x0, .fr (.int p), x2, x3, x4, .un] acc := by
  intro xs
  induction xs with
  | nil => intro acc h; simpa [vComp] using h
  | cons x xs ih =>
    intro acc h
    rw [List.map_cons]
    show vTurn _ _ _ _ _ _ _ _
    simp only [↓vTurn, ↓rd_over_prime_c2_g, ↓rd_over_prime_c2_t, ↓rd_over_prime_c2_e, ↓wipeE, ↓vSeq, ↓vPar, ↓vPar3, ↓vSet, ↓vSetO, ↓vAsg, ↓vAug, ↓vAppend, ↓vExt, ↓vUnp, ↓vFz, ↓vRet, ↓vRetN, ↓vDrop, ↓vIfS, ↓vNext, ↓vBrk, ↓vCnt, ↓vNever, ↓vForS, ↓vC, ↓vVar, ↓vTup, ↓vOf, ↓vBin, ↓vBinL, ↓vBinR, ↓vUn, ↓vCall, ↓vCallO, ↓vCallIO, ↓vCallSC, ↓vLookA, ↓vB, ↓vTru, ↓vTruO, ↓vAnd, ↓vOr, ↓vNot, ↓vAndV, ↓vOrV, ↓vNotV, ↓vIf, ↓vChain, ↓vNil, ↓vCons, ↓vSl, ↓vSlL, ↓vP0, ↓vP1, ↓vRevT, ↓vRevL, ↓vRevLL, ↓vBits, ↓vPop, ↓vLc, ↓vTurn, ↓vYes, ↓gN, ↓gT, ↓gsC, ↓gs0, ↓gSet, ↓wL, ↓wT, ↓wR1, ↓wR2, ↓d2, ↓d20, ↓dAdd, ↓dMul, ↓dEq, ↓dNe, ↓dIsN, ↓dNotN, ↓isN, ↓dNeg, ↓dIx, ↓dInI, ↓dSl, ↓truD, ↓cLen, ↓cAbs, ↓cMax2, ↓cMin2, ↓cInt, ↓cTup, ↓cLst, ↓sv, ↓List.getD_cons_zero, ↓List.getD_cons_succ, ↓List.set_cons_zero, ↓List.set_cons_succ, ↓vxSeq, ↓vxIf, ↓vxRaise, ↓vxRet, ↓vxAsg, ↓vxCall, ↓vReason, ↓vEqS, ↓vIsi, ↓wR3, ↓wZip, ↓vSetDk, ↓vDkIn, ↓vDkPut, ↓vParE, ↓gL, ↓vxDrop, ↓cSrt, ↓cSum, ↓cMinD, ↓cAnyI, ↓vLenSet, ↓vLc2, back]
    refine ⟨div_small (by omega) ⟨by omega, by omega⟩, ?_⟩
    rw [fdiv_pos (by omega)]
    refine ih _ ?_
    rw [List.append_assoc]; exact h
theorem comp_o3 (Q : List D → Ev → Prop) (p : Int) (hp : 0 < p ∧ p < 1000) (x0 x2 x3 x4 : SV) (xs : List Int) (acc : List D) : Q (acc ++ (xs.map fun x => x / p).map .int) [x0, .fr (.int p), x2, x3, x4, .un] → vComp rd_over_prime_c3_g rd_over_prime_c3_t rd_over_prime_c3_e [5] Q (xs.map .int) [x0, .fr (.int p), x2, x3, x4, .un] acc :=
  comp_o2 Q p hp x0 x2 x3 x4 xs acc
theorem hq_over_prime (ds : List D) (Q : D → Prop) (h : sp_over_prime ds Q) : rd_over_prime { nx := fun _ => Q .none, rt := fun d _ => Q d } (ev0 ["one", "prime", "even", "first", "whole", "number"] ds) := by
  obtain ⟨x, p, rfl, hx, pr, hp, dv, n0, nb, h⟩ := h
  show rd_over_prime _ [.fr (qD x), .fr (.int p), .un, .un, .un, .un]
  have p2 := pr.1
  have no5 : ∀ (x0 x1 x2 x3 x4 : SV), noOw [x0, x1, x2, x3, x4, .un] [5] := fun x0 x1 x2 x3 x4 i hi => by
    obtain rfl : i = 5 := by simpa using hi
    exact id
  have c0 : ((nm x).fmod p != 0) = false := by rw [fmod_pos (by omega), Int.emod_eq_zero_of_dvd dv]; rfl
  simp only [↓rd_over_prime, ↓vSeq, ↓vPar, ↓vPar3, ↓vSet, ↓vSetO, ↓vAsg, ↓vAug, ↓vAppend, ↓vExt, ↓vUnp, ↓vFz, ↓vRet, ↓vRetN, ↓vDrop, ↓vIfS, ↓vNext, ↓vBrk, ↓vCnt, ↓vNever, ↓vForS, ↓vC, ↓vVar, ↓vTup, ↓vOf, ↓vBin, ↓vBinL, ↓vBinR, ↓vUn, ↓vCall, ↓vCallO, ↓vCallIO, ↓vCallSC, ↓vLookA, ↓vB, ↓vTru, ↓vTruO, ↓vAnd, ↓vOr, ↓vNot, ↓vAndV, ↓vOrV, ↓vNotV, ↓vIf, ↓vChain, ↓vNil, ↓vCons, ↓vSl, ↓vSlL, ↓vP0, ↓vP1, ↓vRevT, ↓vRevL, ↓vRevLL, ↓vBits, ↓vPop, ↓vLc, ↓vTurn, ↓vYes, ↓gN, ↓gT, ↓gsC, ↓gs0, ↓gSet, ↓wL, ↓wT, ↓wR1, ↓wR2, ↓d2, ↓d20, ↓dAdd, ↓dMul, ↓dEq, ↓dNe, ↓dIsN, ↓dNotN, ↓isN, ↓dNeg, ↓dIx, ↓dInI, ↓dSl, ↓truD, ↓cLen, ↓cAbs, ↓cMax2, ↓cMin2, ↓cInt, ↓cTup, ↓cLst, ↓sv, ↓List.getD_cons_zero, ↓List.getD_cons_succ, ↓List.set_cons_zero, ↓List.set_cons_succ, ↓vxSeq, ↓vxIf, ↓vxRaise, ↓vxRet, ↓vxAsg, ↓vxCall, ↓vReason, ↓vEqS, ↓vIsi, ↓wR3, ↓wZip, ↓vSetDk, ↓vDkIn, ↓vDkPut, ↓vParE, ↓gL, ↓vxDrop, ↓cSrt, ↓cSum, ↓cMinD, ↓cAnyI, ↓vLenSet, ↓vLc2]
  refine ⟨p, rfl, pr, by omega, x, rfl, hx, by unfold big; omega, ?_⟩
  simp only [↓vSeq, ↓vPar, ↓vPar3, ↓vSet, ↓vSetO, ↓vAsg, ↓vAug, ↓vAppend, ↓vExt, ↓vUnp, ↓vFz, ↓vRet, ↓vRetN, ↓vDrop, ↓vIfS, ↓vNext, ↓vBrk, ↓vCnt, ↓vNever, ↓vForS, ↓vC, ↓vVar, ↓vTup, ↓vOf, ↓vBin, ↓vBinL, ↓vBinR, ↓vUn, ↓vCall, ↓vCallO, ↓vCallIO, ↓vCallSC, ↓vLookA, ↓vB, ↓vTru, ↓vTruO, ↓vAnd, ↓vOr, ↓vNot, ↓vAndV, ↓vOrV, ↓vNotV, ↓vIf, ↓vChain, ↓vNil, ↓vCons, ↓vSl, ↓vSlL, ↓vP0, ↓vP1, ↓vRevT, ↓vRevL, ↓vRevLL, ↓vBits, ↓vPop, ↓vLc, ↓vTurn, ↓vYes, ↓gN, ↓gT, ↓gsC, ↓gs0, ↓gSet, ↓wL, ↓wT, ↓wR1, ↓wR2, ↓d2, ↓d20, ↓dAdd, ↓dMul, ↓dEq, ↓dNe, ↓dIsN, ↓dNotN, ↓isN, ↓dNeg, ↓dIx, ↓dInI, ↓dSl, ↓truD, ↓cLen, ↓cAbs, ↓cMax2, ↓cMin2, ↓cInt, ↓cTup, ↓cLst, ↓sv, ↓List.getD_cons_zero, ↓List.getD_cons_succ, ↓List.set_cons_zero, ↓List.set_cons_succ, ↓vxSeq, ↓vxIf, ↓vxRaise, ↓vxRet, ↓vxAsg, ↓vxCall, ↓vReason, ↓vEqS, ↓vIsi, ↓wR3, ↓wZip, ↓vSetDk, ↓vDkIn, ↓vDkPut, ↓vParE, ↓gL, ↓vxDrop, ↓cSrt, ↓cSum, ↓cMinD, ↓cAnyI, ↓vLenSet, ↓vLc2]
  refine ⟨by omega, ?_⟩
  simp only [c0, qD, tI, ↓vSeq, ↓vPar, ↓vPar3, ↓vSet, ↓vSetO, ↓vAsg, ↓vAug, ↓vAppend, ↓vExt, ↓vUnp, ↓vFz, ↓vRet, ↓vRetN, ↓vDrop, ↓vIfS, ↓vNext, ↓vBrk, ↓vCnt, ↓vNever, ↓vForS, ↓vC, ↓vVar, ↓vTup, ↓vOf, ↓vBin, ↓vBinL, ↓vBinR, ↓vUn, ↓vCall, ↓vCallO, ↓vCallIO, ↓vCallSC, ↓vLookA, ↓vB, ↓vTru, ↓vTruO, ↓vAnd, ↓vOr, ↓vNot, ↓vAndV, ↓vOrV, ↓vNotV, ↓vIf, ↓vChain, ↓vNil, ↓vCons, ↓vSl, ↓vSlL, ↓vP0, ↓vP1, ↓vRevT, ↓vRevL, ↓vRevLL, ↓vBits, ↓vPop, ↓vLc, ↓vTurn, ↓vYes, ↓gN, ↓gT, ↓gsC, ↓gs0, ↓gSet, ↓wL, ↓wT, ↓wR1, ↓wR2, ↓d2, ↓d20, ↓dAdd, ↓dMul, ↓dEq, ↓dNe, ↓dIsN, ↓dNotN, ↓isN, ↓dNeg, ↓dIx, ↓dInI, ↓dSl, ↓truD, ↓cLen, ↓cAbs, ↓cMax2, ↓cMin2, ↓cInt, ↓cTup, ↓cLst, ↓sv, ↓List.getD_cons_zero, ↓List.getD_cons_succ, ↓List.set_cons_zero, ↓List.set_cons_succ, ↓vxSeq, ↓vxIf, ↓vxRaise, ↓vxRet, ↓vxAsg, ↓vxCall, ↓vReason, ↓vEqS, ↓vIsi, ↓wR3, ↓wZip, ↓vSetDk, ↓vDkIn, ↓vDkPut, ↓vParE, ↓gL, ↓vxDrop, ↓cSrt, ↓cSum, ↓cMinD, ↓cAnyI, ↓vLenSet, ↓vLc2]
  refine ⟨by rw [sizeLine_eq, List.length_map]; simp, no5 _ _ _ _ _, comp_o1 _ p ⟨by omega, by omega⟩ _ _ _ _ [x.a, x.b, x.c, x.d] [] ?_⟩
  simp only [List.nil_append, cAll, boolsOf_map, ↓vSeq, ↓vPar, ↓vPar3, ↓vSet, ↓vSetO, ↓vAsg, ↓vAug, ↓vAppend, ↓vExt, ↓vUnp, ↓vFz, ↓vRet, ↓vRetN, ↓vDrop, ↓vIfS, ↓vNext, ↓vBrk, ↓vCnt, ↓vNever, ↓vForS, ↓vC, ↓vVar, ↓vTup, ↓vOf, ↓vBin, ↓vBinL, ↓vBinR, ↓vUn, ↓vCall, ↓vCallO, ↓vCallIO, ↓vCallSC, ↓vLookA, ↓vB, ↓vTru, ↓vTruO, ↓vAnd, ↓vOr, ↓vNot, ↓vAndV, ↓vOrV, ↓vNotV, ↓vIf, ↓vChain, ↓vNil, ↓vCons, ↓vSl, ↓vSlL, ↓vP0, ↓vP1, ↓vRevT, ↓vRevL, ↓vRevLL, ↓vBits, ↓vPop, ↓vLc, ↓vTurn, ↓vYes, ↓gN, ↓gT, ↓gsC, ↓gs0, ↓gSet, ↓wL, ↓wT, ↓wR1, ↓wR2, ↓d2, ↓d20, ↓dAdd, ↓dMul, ↓dEq, ↓dNe, ↓dIsN, ↓dNotN, ↓isN, ↓dNeg, ↓dIx, ↓dInI, ↓dSl, ↓truD, ↓cLen, ↓cAbs, ↓cMax2, ↓cMin2, ↓cInt, ↓cTup, ↓cLst, ↓sv, ↓List.getD_cons_zero, ↓List.getD_cons_succ, ↓List.set_cons_zero, ↓List.set_cons_succ, ↓vxSeq, ↓vxIf, ↓vxRaise, ↓vxRet, ↓vxAsg, ↓vxCall, ↓vReason, ↓vEqS, ↓vIsi, ↓wR3, ↓wZip, ↓vSetDk, ↓vDkIn, ↓vDkPut, ↓vParE, ↓gL, ↓vxDrop, ↓cSrt, ↓cSum, ↓cMinD, ↓cAnyI, ↓vLenSet, ↓vLc2]
  have lp : lim = 67108864 := rfl
  have lb : lim ≤ big := by decide
  have pp : (p : Int) * p ≤ 1000 * 1000 := Int.mul_le_mul (by omega) (by omega) (by omega) (by omega)
  have fin : ∀ g r, Wh g → Wh r → nm g = p → x = mul r g → mul x (conj g) = NQ.smul p r := fun g r hg hr e1 e2 => by
    rw [e2, NQ.mul_assoc hr hg (NQ.wh_conj hg), NQ.mul_conj hg, NQ.mul_rq, e1]
  have dvd : ∀ r : Qn, ([(NQ.smul p r).a, (NQ.smul p r).b, (NQ.smul p r).c, (NQ.smul p r).d].map fun z => z / (p : Int)) = [r.a, r.b, r.c, r.d] := fun r => by
    have e : ∀ z : Int, (p : Int) * z / p = z := fun z => Int.mul_ediv_cancel_left z (by omega)
    simp only [NQ.smul, List.map_cons, List.map_nil, e]
  have hcom : ¬ (∃ t, Wh t ∧ x = NQ.smul p t) → ∀ g u v, Wh g → Wh u → Wh v → g = NQ.add (mul u x) (mul v (NQ.rq p)) → RD g x → RD g (NQ.rq p) → nm g = p := fun no g u v hg hu hv e r1 r2 => NQ.div_norm pr hx hg dv r1 r2 hu hv e no
  cases e : ([x.a, x.b, x.c, x.d].map fun x => decide (x % (p : Int) = 0)).all id with
  | true =>
    refine ⟨by rw [sizeLine_eq, List.length_map]; simp, no5 _ _ _ _ _, comp_o2 _ p ⟨by omega, by omega⟩ _ _ _ _ [x.a, x.b, x.c, x.d] [] ?_⟩
    simp only [List.nil_append, ↓vSeq, ↓vPar, ↓vPar3, ↓vSet, ↓vSetO, ↓vAsg, ↓vAug, ↓vAppend, ↓vExt, ↓vUnp, ↓vFz, ↓vRet, ↓vRetN, ↓vDrop, ↓vIfS, ↓vNext, ↓vBrk, ↓vCnt, ↓vNever, ↓vForS, ↓vC, ↓vVar, ↓vTup, ↓vOf, ↓vBin, ↓vBinL, ↓vBinR, ↓vUn, ↓vCall, ↓vCallO, ↓vCallIO, ↓vCallSC, ↓vLookA, ↓vB, ↓vTru, ↓vTruO, ↓vAnd, ↓vOr, ↓vNot, ↓vAndV, ↓vOrV, ↓vNotV, ↓vIf, ↓vChain, ↓vNil, ↓vCons, ↓vSl, ↓vSlL, ↓vP0, ↓vP1, ↓vRevT, ↓vRevL, ↓vRevLL, ↓vBits, ↓vPop, ↓vLc, ↓vTurn, ↓vYes, ↓gN, ↓gT, ↓gsC, ↓gs0, ↓gSet, ↓wL, ↓wT, ↓wR1, ↓wR2, ↓d2, ↓d20, ↓dAdd, ↓dMul, ↓dEq, ↓dNe, ↓dIsN, ↓dNotN, ↓isN, ↓dNeg, ↓dIx, ↓dInI, ↓dSl, ↓truD, ↓cLen, ↓cAbs, ↓cMax2, ↓cMin2, ↓cInt, ↓cTup, ↓cLst, ↓sv, ↓List.getD_cons_zero, ↓List.getD_cons_succ, ↓List.set_cons_zero, ↓List.set_cons_succ, ↓vxSeq, ↓vxIf, ↓vxRaise, ↓vxRet, ↓vxAsg, ↓vxCall, ↓vReason, ↓vEqS, ↓vIsi, ↓wR3, ↓wZip, ↓vSetDk, ↓vDkIn, ↓vDkPut, ↓vParE, ↓gL, ↓vxDrop, ↓cSrt, ↓cSum, ↓cMinD, ↓cAnyI, ↓vLenSet, ↓vLc2]
    have d4 : x.a % (p : Int) = 0 ∧ x.b % (p : Int) = 0 ∧ x.c % (p : Int) = 0 ∧ x.d % (p : Int) = 0 := by
      simp only [List.map_cons, List.map_nil, List.all_cons, List.all_nil, id, Bool.and_true, Bool.and_eq_true, decide_eq_true_iff] at e
      exact e
    refine ⟨⟨x.a / p, x.b / p, x.c / p, x.d / p⟩, rfl, ?_⟩
    by_cases c : Wh ⟨x.a / p, x.b / p, x.c / p, x.d / p⟩
    · simp only [decide_eq_true c]
      refine ⟨p, rfl, by omega, fun g hg ng => ?_⟩
      simp only [↓vSeq, ↓vPar, ↓vPar3, ↓vSet, ↓vSetO, ↓vAsg, ↓vAug, ↓vAppend, ↓vExt, ↓vUnp, ↓vFz, ↓vRet, ↓vRetN, ↓vDrop, ↓vIfS, ↓vNext, ↓vBrk, ↓vCnt, ↓vNever, ↓vForS, ↓vC, ↓vVar, ↓vTup, ↓vOf, ↓vBin, ↓vBinL, ↓vBinR, ↓vUn, ↓vCall, ↓vCallO, ↓vCallIO, ↓vCallSC, ↓vLookA, ↓vB, ↓vTru, ↓vTruO, ↓vAnd, ↓vOr, ↓vNot, ↓vAndV, ↓vOrV, ↓vNotV, ↓vIf, ↓vChain, ↓vNil, ↓vCons, ↓vSl, ↓vSlL, ↓vP0, ↓vP1, ↓vRevT, ↓vRevL, ↓vRevLL, ↓vBits, ↓vPop, ↓vLc, ↓vTurn, ↓vYes, ↓gN, ↓gT, ↓gsC, ↓gs0, ↓gSet, ↓wL, ↓wT, ↓wR1, ↓wR2, ↓d2, ↓d20, ↓dAdd, ↓dMul, ↓dEq, ↓dNe, ↓dIsN, ↓dNotN, ↓isN, ↓dNeg, ↓dIx, ↓dInI, ↓dSl, ↓truD, ↓cLen, ↓cAbs, ↓cMax2, ↓cMin2, ↓cInt, ↓cTup, ↓cLst, ↓sv, ↓List.getD_cons_zero, ↓List.getD_cons_succ, ↓List.set_cons_zero, ↓List.set_cons_succ, ↓vxSeq, ↓vxIf, ↓vxRaise, ↓vxRet, ↓vxAsg, ↓vxCall, ↓vReason, ↓vEqS, ↓vIsi, ↓wR3, ↓wZip, ↓vSetDk, ↓vDkIn, ↓vDkPut, ↓vParE, ↓gL, ↓vxDrop, ↓cSrt, ↓cSum, ↓cMinD, ↓cAnyI, ↓vLenSet, ↓vLc2]
      have ex := NQ.rq_dvd d4.1 d4.2.1 d4.2.2.1 d4.2.2.2
      generalize (⟨x.a / p, x.b / p, x.c / p, x.d / p⟩ : Qn) = t at c ex
      refine ⟨g, rfl, x, conj g, rfl, hx, by omega, NQ.wh_conj hg, by rw [NQ.nm_conj]; omega, ?_⟩
      have wr : Wh (mul t (conj g)) := NQ.wh_mul c (NQ.wh_conj hg)
      have e2 : x = mul (mul t (conj g)) g := by
        rw [NQ.mul_assoc c (NQ.wh_conj hg) hg, NQ.mul_conjL hg, NQ.mul_rq, ng]; exact ex
      simp only [fin g _ hg wr ng e2, qD, tI, ↓vSeq, ↓vPar, ↓vPar3, ↓vSet, ↓vSetO, ↓vAsg, ↓vAug, ↓vAppend, ↓vExt, ↓vUnp, ↓vFz, ↓vRet, ↓vRetN, ↓vDrop, ↓vIfS, ↓vNext, ↓vBrk, ↓vCnt, ↓vNever, ↓vForS, ↓vC, ↓vVar, ↓vTup, ↓vOf, ↓vBin, ↓vBinL, ↓vBinR, ↓vUn, ↓vCall, ↓vCallO, ↓vCallIO, ↓vCallSC, ↓vLookA, ↓vB, ↓vTru, ↓vTruO, ↓vAnd, ↓vOr, ↓vNot, ↓vAndV, ↓vOrV, ↓vNotV, ↓vIf, ↓vChain, ↓vNil, ↓vCons, ↓vSl, ↓vSlL, ↓vP0, ↓vP1, ↓vRevT, ↓vRevL, ↓vRevLL, ↓vBits, ↓vPop, ↓vLc, ↓vTurn, ↓vYes, ↓gN, ↓gT, ↓gsC, ↓gs0, ↓gSet, ↓wL, ↓wT, ↓wR1, ↓wR2, ↓d2, ↓d20, ↓dAdd, ↓dMul, ↓dEq, ↓dNe, ↓dIsN, ↓dNotN, ↓isN, ↓dNeg, ↓dIx, ↓dInI, ↓dSl, ↓truD, ↓cLen, ↓cAbs, ↓cMax2, ↓cMin2, ↓cInt, ↓cTup, ↓cLst, ↓sv, ↓List.getD_cons_zero, ↓List.getD_cons_succ, ↓List.set_cons_zero, ↓List.set_cons_succ, ↓vxSeq, ↓vxIf, ↓vxRaise, ↓vxRet, ↓vxAsg, ↓vxCall, ↓vReason, ↓vEqS, ↓vIsi, ↓wR3, ↓wZip, ↓vSetDk, ↓vDkIn, ↓vDkPut, ↓vParE, ↓gL, ↓vxDrop, ↓cSrt, ↓cSum, ↓cMinD, ↓cAnyI, ↓vLenSet, ↓vLc2]
      refine ⟨by rw [sizeLine_eq, List.length_map]; simp, no5 _ _ _ _ _, comp_o3 _ p ⟨by omega, by omega⟩ _ _ _ _ _ [] ?_⟩
      rw [dvd]
      exact h g _ hg wr ng e2
    · simp only [decide_eq_false c]
      have no : ¬ (∃ t, Wh t ∧ x = NQ.smul p t) := fun ⟨t, wt, et⟩ => by
        refine c ?_
        have ex := NQ.rq_dvd d4.1 d4.2.1 d4.2.2.1 d4.2.2.2
        rw [← NQ.smul_inj (show (p : Int) ≠ 0 by omega) (et.symm.trans ex)]
        exact wt
      refine ⟨mul_smallL ⟨by omega, by omega⟩, x, NQ.rq p, rfl, hx, by omega, NQ.wh_rq _, by rw [NQ.nm_rq]; omega, fun g u v hg hu hv eg r1 r2 _ => ?_⟩
      have ng := hcom no g u v hg hu hv eg r1 r2
      simp only [↓vSeq, ↓vPar, ↓vPar3, ↓vSet, ↓vSetO, ↓vAsg, ↓vAug, ↓vAppend, ↓vExt, ↓vUnp, ↓vFz, ↓vRet, ↓vRetN, ↓vDrop, ↓vIfS, ↓vNext, ↓vBrk, ↓vCnt, ↓vNever, ↓vForS, ↓vC, ↓vVar, ↓vTup, ↓vOf, ↓vBin, ↓vBinL, ↓vBinR, ↓vUn, ↓vCall, ↓vCallO, ↓vCallIO, ↓vCallSC, ↓vLookA, ↓vB, ↓vTru, ↓vTruO, ↓vAnd, ↓vOr, ↓vNot, ↓vAndV, ↓vOrV, ↓vNotV, ↓vIf, ↓vChain, ↓vNil, ↓vCons, ↓vSl, ↓vSlL, ↓vP0, ↓vP1, ↓vRevT, ↓vRevL, ↓vRevLL, ↓vBits, ↓vPop, ↓vLc, ↓vTurn, ↓vYes, ↓gN, ↓gT, ↓gsC, ↓gs0, ↓gSet, ↓wL, ↓wT, ↓wR1, ↓wR2, ↓d2, ↓d20, ↓dAdd, ↓dMul, ↓dEq, ↓dNe, ↓dIsN, ↓dNotN, ↓isN, ↓dNeg, ↓dIx, ↓dInI, ↓dSl, ↓truD, ↓cLen, ↓cAbs, ↓cMax2, ↓cMin2, ↓cInt, ↓cTup, ↓cLst, ↓sv, ↓List.getD_cons_zero, ↓List.getD_cons_succ, ↓List.set_cons_zero, ↓List.set_cons_succ, ↓vxSeq, ↓vxIf, ↓vxRaise, ↓vxRet, ↓vxAsg, ↓vxCall, ↓vReason, ↓vEqS, ↓vIsi, ↓wR3, ↓wZip, ↓vSetDk, ↓vDkIn, ↓vDkPut, ↓vParE, ↓gL, ↓vxDrop, ↓cSrt, ↓cSum, ↓cMinD, ↓cAnyI, ↓vLenSet, ↓vLc2]
      refine ⟨g, rfl, x, conj g, rfl, hx, by omega, NQ.wh_conj hg, by rw [NQ.nm_conj]; omega, ?_⟩
      obtain ⟨r, wr, e2⟩ := r1
      simp only [fin g _ hg wr ng e2, qD, tI, ↓vSeq, ↓vPar, ↓vPar3, ↓vSet, ↓vSetO, ↓vAsg, ↓vAug, ↓vAppend, ↓vExt, ↓vUnp, ↓vFz, ↓vRet, ↓vRetN, ↓vDrop, ↓vIfS, ↓vNext, ↓vBrk, ↓vCnt, ↓vNever, ↓vForS, ↓vC, ↓vVar, ↓vTup, ↓vOf, ↓vBin, ↓vBinL, ↓vBinR, ↓vUn, ↓vCall, ↓vCallO, ↓vCallIO, ↓vCallSC, ↓vLookA, ↓vB, ↓vTru, ↓vTruO, ↓vAnd, ↓vOr, ↓vNot, ↓vAndV, ↓vOrV, ↓vNotV, ↓vIf, ↓vChain, ↓vNil, ↓vCons, ↓vSl, ↓vSlL, ↓vP0, ↓vP1, ↓vRevT, ↓vRevL, ↓vRevLL, ↓vBits, ↓vPop, ↓vLc, ↓vTurn, ↓vYes, ↓gN, ↓gT, ↓gsC, ↓gs0, ↓gSet, ↓wL, ↓wT, ↓wR1, ↓wR2, ↓d2, ↓d20, ↓dAdd, ↓dMul, ↓dEq, ↓dNe, ↓dIsN, ↓dNotN, ↓isN, ↓dNeg, ↓dIx, ↓dInI, ↓dSl, ↓truD, ↓cLen, ↓cAbs, ↓cMax2, ↓cMin2, ↓cInt, ↓cTup, ↓cLst, ↓sv, ↓List.getD_cons_zero, ↓List.getD_cons_succ, ↓List.set_cons_zero, ↓List.set_cons_succ, ↓vxSeq, ↓vxIf, ↓vxRaise, ↓vxRet, ↓vxAsg, ↓vxCall, ↓vReason, ↓vEqS, ↓vIsi, ↓wR3, ↓wZip, ↓vSetDk, ↓vDkIn, ↓vDkPut, ↓vParE, ↓gL, ↓vxDrop, ↓cSrt, ↓cSum, ↓cMinD, ↓cAnyI, ↓vLenSet, ↓vLc2]
      refine ⟨by rw [sizeLine_eq, List.length_map]; simp, no5 _ _ _ _ _, comp_o3 _ p ⟨by omega, by omega⟩ _ _ _ _ _ [] ?_⟩
      rw [dvd]
      exact h g _ hg wr ng e2
  | false =>
    have no : ¬ (∃ t, Wh t ∧ x = NQ.smul p t) := fun ⟨t, wt, et⟩ => by
      have z : ∀ k : Int, decide ((p : Int) * k % p = 0) = true := fun k => decide_eq_true (Int.mul_emod_right _ _)
      rw [et] at e
      simp only [NQ.smul, List.map_cons, List.map_nil, z] at e
      cases e
    refine ⟨mul_smallL ⟨by omega, by omega⟩, x, NQ.rq p, rfl, hx, by omega, NQ.wh_rq _, by rw [NQ.nm_rq]; omega, fun g u v hg hu hv eg r1 r2 _ => ?_⟩
    have ng := hcom no g u v hg hu hv eg r1 r2
    simp only [↓vSeq, ↓vPar, ↓vPar3, ↓vSet, ↓vSetO, ↓vAsg, ↓vAug, ↓vAppend, ↓vExt, ↓vUnp, ↓vFz, ↓vRet, ↓vRetN, ↓vDrop, ↓vIfS, ↓vNext, ↓vBrk, ↓vCnt, ↓vNever, ↓vForS, ↓vC, ↓vVar, ↓vTup, ↓vOf, ↓vBin, ↓vBinL, ↓vBinR, ↓vUn, ↓vCall, ↓vCallO, ↓vCallIO, ↓vCallSC, ↓vLookA, ↓vB, ↓vTru, ↓vTruO, ↓vAnd, ↓vOr, ↓vNot, ↓vAndV, ↓vOrV, ↓vNotV, ↓vIf, ↓vChain, ↓vNil, ↓vCons, ↓vSl, ↓vSlL, ↓vP0, ↓vP1, ↓vRevT, ↓vRevL, ↓vRevLL, ↓vBits, ↓vPop, ↓vLc, ↓vTurn, ↓vYes, ↓gN, ↓gT, ↓gsC, ↓gs0, ↓gSet, ↓wL, ↓wT, ↓wR1, ↓wR2, ↓d2, ↓d20, ↓dAdd, ↓dMul, ↓dEq, ↓dNe, ↓dIsN, ↓dNotN, ↓isN, ↓dNeg, ↓dIx, ↓dInI, ↓dSl, ↓truD, ↓cLen, ↓cAbs, ↓cMax2, ↓cMin2, ↓cInt, ↓cTup, ↓cLst, ↓sv, ↓List.getD_cons_zero, ↓List.getD_cons_succ, ↓List.set_cons_zero, ↓List.set_cons_succ, ↓vxSeq, ↓vxIf, ↓vxRaise, ↓vxRet, ↓vxAsg, ↓vxCall, ↓vReason, ↓vEqS, ↓vIsi, ↓wR3, ↓wZip, ↓vSetDk, ↓vDkIn, ↓vDkPut, ↓vParE, ↓gL, ↓vxDrop, ↓cSrt, ↓cSum, ↓cMinD, ↓cAnyI, ↓vLenSet, ↓vLc2]
    refine ⟨g, rfl, x, conj g, rfl, hx, by omega, NQ.wh_conj hg, by rw [NQ.nm_conj]; omega, ?_⟩
    obtain ⟨r, wr, e2⟩ := r1
    simp only [fin g _ hg wr ng e2, qD, tI, ↓vSeq, ↓vPar, ↓vPar3, ↓vSet, ↓vSetO, ↓vAsg, ↓vAug, ↓vAppend, ↓vExt, ↓vUnp, ↓vFz, ↓vRet, ↓vRetN, ↓vDrop, ↓vIfS, ↓vNext, ↓vBrk, ↓vCnt, ↓vNever, ↓vForS, ↓vC, ↓vVar, ↓vTup, ↓vOf, ↓vBin, ↓vBinL, ↓vBinR, ↓vUn, ↓vCall, ↓vCallO, ↓vCallIO, ↓vCallSC, ↓vLookA, ↓vB, ↓vTru, ↓vTruO, ↓vAnd, ↓vOr, ↓vNot, ↓vAndV, ↓vOrV, ↓vNotV, ↓vIf, ↓vChain, ↓vNil, ↓vCons, ↓vSl, ↓vSlL, ↓vP0, ↓vP1, ↓vRevT, ↓vRevL, ↓vRevLL, ↓vBits, ↓vPop, ↓vLc, ↓vTurn, ↓vYes, ↓gN, ↓gT, ↓gsC, ↓gs0, ↓gSet, ↓wL, ↓wT, ↓wR1, ↓wR2, ↓d2, ↓d20, ↓dAdd, ↓dMul, ↓dEq, ↓dNe, ↓dIsN, ↓dNotN, ↓isN, ↓dNeg, ↓dIx, ↓dInI, ↓dSl, ↓truD, ↓cLen, ↓cAbs, ↓cMax2, ↓cMin2, ↓cInt, ↓cTup, ↓cLst, ↓sv, ↓List.getD_cons_zero, ↓List.getD_cons_succ, ↓List.set_cons_zero, ↓List.set_cons_succ, ↓vxSeq, ↓vxIf, ↓vxRaise, ↓vxRet, ↓vxAsg, ↓vxCall, ↓vReason, ↓vEqS, ↓vIsi, ↓wR3, ↓wZip, ↓vSetDk, ↓vDkIn, ↓vDkPut, ↓vParE, ↓gL, ↓vxDrop, ↓cSrt, ↓cSum, ↓cMinD, ↓cAnyI, ↓vLenSet, ↓vLc2]
    refine ⟨by rw [sizeLine_eq, List.length_map]; simp, no5 _ _ _ _ _, comp_o3 _ p ⟨by omega, by omega⟩ _ _ _ _ _ [] ?_⟩
    rw [dvd]
    exact h g _ hg wr ng e2
/-! ### whole -/
theorem loop_wh (Z : VEnds) (x : Qn) (hx : Wh x) (nb : nm x ≤ 1000000) (hZ : ∀ u e, Wh u → nm u = 1 → (mul u x).a % 2 = 0 → Z.rt (qD (mul u x)) e) : ∀ (us : List Qn) (s1 s2 : SV), (∀ u ∈ us, Wh u ∧ nm u = 1) → (∃ u ∈ us, (mul u x).a % 2 = 0) → vFor rd_whole_four_f1g rd_whole_four_f1b Z (us.map qD) [.fr (qD x), s1, s2] := by
  intro us
  induction us with
  | nil => intro s1 s2 _ ⟨u, hu, _⟩; cases hu
  | cons u us ih =>
    intro s1 s2 hus hex
    rw [List.map_cons, vFor_cons]
    generalize hW : vFor rd_whole_four_f1g rd_whole_four_f1b Z (us.map qD) = W
    have k0 : ∀ a b c d : D, atI [a, b, c, d] 0 = some a := fun a b c d => rfl
    obtain ⟨w1, w2⟩ := hus u List.mem_cons_self
    simp only [↓rd_whole_four_f1g, ↓rd_whole_four_f1b, ↓vSeq, ↓vPar, ↓vPar3, ↓vSet, ↓vSetO, ↓vAsg, ↓vAug, ↓vAppend, ↓vExt, ↓vUnp, ↓vFz, ↓vRet, ↓vRetN, ↓vDrop, ↓vIfS, ↓vNext, ↓vBrk, ↓vCnt, ↓vNever, ↓vForS, ↓vC, ↓vVar, ↓vTup, ↓vOf, ↓vBin, ↓vBinL, ↓vBinR, ↓vUn, ↓vCall, ↓vCallO, ↓vCallIO, ↓vCallSC, ↓vLookA, ↓vB, ↓vTru, ↓vTruO, ↓vAnd, ↓vOr, ↓vNot, ↓vAndV, ↓vOrV, ↓vNotV, ↓vIf, ↓vChain, ↓vNil, ↓vCons, ↓vSl, ↓vSlL, ↓vP0, ↓vP1, ↓vRevT, ↓vRevL, ↓vRevLL, ↓vBits, ↓vPop, ↓vLc, ↓vTurn, ↓vYes, ↓gN, ↓gT, ↓gsC, ↓gs0, ↓gSet, ↓wL, ↓wT, ↓wR1, ↓wR2, ↓d2, ↓d20, ↓dAdd, ↓dMul, ↓dEq, ↓dNe, ↓dIsN, ↓dNotN, ↓isN, ↓dNeg, ↓dIx, ↓dInI, ↓dSl, ↓truD, ↓cLen, ↓cAbs, ↓cMax2, ↓cMin2, ↓cInt, ↓cTup, ↓cLst, ↓sv, ↓List.getD_cons_zero, ↓List.getD_cons_succ, ↓List.set_cons_zero, ↓List.set_cons_succ, ↓vxSeq, ↓vxIf, ↓vxRaise, ↓vxRet, ↓vxAsg, ↓vxCall, ↓vReason, ↓vEqS, ↓vIsi, ↓wR3, ↓wZip, ↓vSetDk, ↓vDkIn, ↓vDkPut, ↓vParE, ↓gL, ↓vxDrop, ↓cSrt, ↓cSum, ↓cMinD, ↓cAnyI, ↓vLenSet, ↓vLc2]
    refine ⟨u, x, rfl, w1, by rw [w2]; decide, hx, by unfold big; omega, ?_⟩
    simp only [qD, tI, List.map_cons, List.map_nil, k0, ↓vSeq, ↓vPar, ↓vPar3, ↓vSet, ↓vSetO, ↓vAsg, ↓vAug, ↓vAppend, ↓vExt, ↓vUnp, ↓vFz, ↓vRet, ↓vRetN, ↓vDrop, ↓vIfS, ↓vNext, ↓vBrk, ↓vCnt, ↓vNever, ↓vForS, ↓vC, ↓vVar, ↓vTup, ↓vOf, ↓vBin, ↓vBinL, ↓vBinR, ↓vUn, ↓vCall, ↓vCallO, ↓vCallIO, ↓vCallSC, ↓vLookA, ↓vB, ↓vTru, ↓vTruO, ↓vAnd, ↓vOr, ↓vNot, ↓vAndV, ↓vOrV, ↓vNotV, ↓vIf, ↓vChain, ↓vNil, ↓vCons, ↓vSl, ↓vSlL, ↓vP0, ↓vP1, ↓vRevT, ↓vRevL, ↓vRevLL, ↓vBits, ↓vPop, ↓vLc, ↓vTurn, ↓vYes, ↓gN, ↓gT, ↓gsC, ↓gs0, ↓gSet, ↓wL, ↓wT, ↓wR1, ↓wR2, ↓d2, ↓d20, ↓dAdd, ↓dMul, ↓dEq, ↓dNe, ↓dIsN, ↓dNotN, ↓isN, ↓dNeg, ↓dIx, ↓dInI, ↓dSl, ↓truD, ↓cLen, ↓cAbs, ↓cMax2, ↓cMin2, ↓cInt, ↓cTup, ↓cLst, ↓sv, ↓List.getD_cons_zero, ↓List.getD_cons_succ, ↓List.set_cons_zero, ↓List.set_cons_succ, ↓vxSeq, ↓vxIf, ↓vxRaise, ↓vxRet, ↓vxAsg, ↓vxCall, ↓vReason, ↓vEqS, ↓vIsi, ↓wR3, ↓wZip, ↓vSetDk, ↓vDkIn, ↓vDkPut, ↓vParE, ↓gL, ↓vxDrop, ↓cSrt, ↓cSum, ↓cMinD, ↓cAnyI, ↓vLenSet, ↓vLc2]
    refine ⟨by omega, ?_⟩
    rw [fmod_pos (by omega)]
    by_cases c : (mul u x).a % 2 = 0
    · simp only [decide_eq_true c]
      exact hZ u _ w1 w2 c
    · simp only [decide_eq_false c]
      rw [← hW]
      refine ih _ _ (fun v hv => hus v (List.mem_cons_of_mem _ hv)) ?_
      obtain ⟨v, hv, e⟩ := hex
      rcases List.mem_cons.mp hv with rfl | hv
      · exact absurd e c
      · exact ⟨v, hv, e⟩
theorem hq_whole_four (ds : List D) (Q : D → Prop) (h : sp_whole_four ds Q) : rd_whole_four { nx := fun _ => Q .none, rt := fun d _ => Q d } (ev0 ["one", "unit", "found"] ds) := by
  obtain ⟨x, rfl, hx, nb, h⟩ := h
  show rd_whole_four _ [.fr (qD x), .un, .un]
  have k0 : ∀ a b c d : D, atI [a, b, c, d] 0 = some a := fun a b c d => rfl
  simp only [↓rd_whole_four, ↓vSeq, ↓vPar, ↓vPar3, ↓vSet, ↓vSetO, ↓vAsg, ↓vAug, ↓vAppend, ↓vExt, ↓vUnp, ↓vFz, ↓vRet, ↓vRetN, ↓vDrop, ↓vIfS, ↓vNext, ↓vBrk, ↓vCnt, ↓vNever, ↓vForS, ↓vC, ↓vVar, ↓vTup, ↓vOf, ↓vBin, ↓vBinL, ↓vBinR, ↓vUn, ↓vCall, ↓vCallO, ↓vCallIO, ↓vCallSC, ↓vLookA, ↓vB, ↓vTru, ↓vTruO, ↓vAnd, ↓vOr, ↓vNot, ↓vAndV, ↓vOrV, ↓vNotV, ↓vIf, ↓vChain, ↓vNil, ↓vCons, ↓vSl, ↓vSlL, ↓vP0, ↓vP1, ↓vRevT, ↓vRevL, ↓vRevLL, ↓vBits, ↓vPop, ↓vLc, ↓vTurn, ↓vYes, ↓gN, ↓gT, ↓gsC, ↓gs0, ↓gSet, ↓wL, ↓wT, ↓wR1, ↓wR2, ↓d2, ↓d20, ↓dAdd, ↓dMul, ↓dEq, ↓dNe, ↓dIsN, ↓dNotN, ↓isN, ↓dNeg, ↓dIx, ↓dInI, ↓dSl, ↓truD, ↓cLen, ↓cAbs, ↓cMax2, ↓cMin2, ↓cInt, ↓cTup, ↓cLst, ↓sv, ↓List.getD_cons_zero, ↓List.getD_cons_succ, ↓List.set_cons_zero, ↓List.set_cons_succ, ↓vxSeq, ↓vxIf, ↓vxRaise, ↓vxRet, ↓vxAsg, ↓vxCall, ↓vReason, ↓vEqS, ↓vIsi, ↓wR3, ↓wZip, ↓vSetDk, ↓vDkIn, ↓vDkPut, ↓vParE, ↓gL, ↓vxDrop, ↓cSrt, ↓cSum, ↓cMinD, ↓cAnyI, ↓vLenSet, ↓vLc2]
  refine ⟨x, rfl, hx, ?_⟩
  simp only [qD, tI, List.map_cons, List.map_nil, k0, ↓vSeq, ↓vPar, ↓vPar3, ↓vSet, ↓vSetO, ↓vAsg, ↓vAug, ↓vAppend, ↓vExt, ↓vUnp, ↓vFz, ↓vRet, ↓vRetN, ↓vDrop, ↓vIfS, ↓vNext, ↓vBrk, ↓vCnt, ↓vNever, ↓vForS, ↓vC, ↓vVar, ↓vTup, ↓vOf, ↓vBin, ↓vBinL, ↓vBinR, ↓vUn, ↓vCall, ↓vCallO, ↓vCallIO, ↓vCallSC, ↓vLookA, ↓vB, ↓vTru, ↓vTruO, ↓vAnd, ↓vOr, ↓vNot, ↓vAndV, ↓vOrV, ↓vNotV, ↓vIf, ↓vChain, ↓vNil, ↓vCons, ↓vSl, ↓vSlL, ↓vP0, ↓vP1, ↓vRevT, ↓vRevL, ↓vRevLL, ↓vBits, ↓vPop, ↓vLc, ↓vTurn, ↓vYes, ↓gN, ↓gT, ↓gsC, ↓gs0, ↓gSet, ↓wL, ↓wT, ↓wR1, ↓wR2, ↓d2, ↓d20, ↓dAdd, ↓dMul, ↓dEq, ↓dNe, ↓dIsN, ↓dNotN, ↓isN, ↓dNeg, ↓dIx, ↓dInI, ↓dSl, ↓truD, ↓cLen, ↓cAbs, ↓cMax2, ↓cMin2, ↓cInt, ↓cTup, ↓cLst, ↓sv, ↓List.getD_cons_zero, ↓List.getD_cons_succ, ↓List.set_cons_zero, ↓List.set_cons_succ, ↓vxSeq, ↓vxIf, ↓vxRaise, ↓vxRet, ↓vxAsg, ↓vxCall, ↓vReason, ↓vEqS, ↓vIsi, ↓wR3, ↓wZip, ↓vSetDk, ↓vDkIn, ↓vDkPut, ↓vParE, ↓gL, ↓vxDrop, ↓cSrt, ↓cSum, ↓cMinD, ↓cAnyI, ↓vLenSet, ↓vLc2]
  refine ⟨by omega, ?_⟩
  rw [fmod_pos (by omega)]
  by_cases c : x.a % 2 = 0
  · simp only [decide_eq_true c]
    exact h x hx c rfl
  · simp only [decide_eq_false c]
    refine ⟨rfl, ?_⟩
    simp only [↓vSeq, ↓vPar, ↓vPar3, ↓vSet, ↓vSetO, ↓vAsg, ↓vAug, ↓vAppend, ↓vExt, ↓vUnp, ↓vFz, ↓vRet, ↓vRetN, ↓vDrop, ↓vIfS, ↓vNext, ↓vBrk, ↓vCnt, ↓vNever, ↓vForS, ↓vC, ↓vVar, ↓vTup, ↓vOf, ↓vBin, ↓vBinL, ↓vBinR, ↓vUn, ↓vCall, ↓vCallO, ↓vCallIO, ↓vCallSC, ↓vLookA, ↓vB, ↓vTru, ↓vTruO, ↓vAnd, ↓vOr, ↓vNot, ↓vAndV, ↓vOrV, ↓vNotV, ↓vIf, ↓vChain, ↓vNil, ↓vCons, ↓vSl, ↓vSlL, ↓vP0, ↓vP1, ↓vRevT, ↓vRevL, ↓vRevLL, ↓vBits, ↓vPop, ↓vLc, ↓vTurn, ↓vYes, ↓gN, ↓gT, ↓gsC, ↓gs0, ↓gSet, ↓wL, ↓wT, ↓wR1, ↓wR2, ↓d2, ↓d20, ↓dAdd, ↓dMul, ↓dEq, ↓dNe, ↓dIsN, ↓dNotN, ↓isN, ↓dNeg, ↓dIx, ↓dInI, ↓dSl, ↓truD, ↓cLen, ↓cAbs, ↓cMax2, ↓cMin2, ↓cInt, ↓cTup, ↓cLst, ↓sv, ↓List.getD_cons_zero, ↓List.getD_cons_succ, ↓List.set_cons_zero, ↓List.set_cons_succ, ↓vxSeq, ↓vxIf, ↓vxRaise, ↓vxRet, ↓vxAsg, ↓vxCall, ↓vReason, ↓vEqS, ↓vIsi, ↓wR3, ↓wZip, ↓vSetDk, ↓vDkIn, ↓vDkPut, ↓vParE, ↓gL, ↓vxDrop, ↓cSrt, ↓cSum, ↓cMinD, ↓cAnyI, ↓vLenSet, ↓vLc2]
    refine loop_wh _ x hx nb (fun u e hu n1 ev => ?_) units24 _ _ (by decide) ?_
    · exact h _ (NQ.wh_mul hu hx) ev (by rw [NQ.nm_mul hu hx, n1, Int.one_mul])
    · obtain ⟨w1, w2, w3⟩ := hx
      have e1 : (mul ⟨1, 1, 1, 1⟩ x).a = (x.a - x.b - x.c - x.d) / 2 := by unfold NQ.mul NQ.P; simp only [Int.one_mul]
      have e2 : (mul ⟨1, -1, 1, 1⟩ x).a = (x.a - -1 * x.b - x.c - x.d) / 2 := by unfold NQ.mul NQ.P; simp only [Int.one_mul]
      by_cases q : (mul ⟨1, 1, 1, 1⟩ x).a % 2 = 0
      · exact ⟨_, by decide, q⟩
      · refine ⟨⟨1, -1, 1, 1⟩, by decide, ?_⟩
        rw [e2]; rw [e1] at q
        omega
end VL

set_option Elab.async false
set_option linter.all false
set_option maxRecDepth 1000000
set_option maxHeartbeats 8000000
set_option pp.deepTerms false
set_option pp.deepTerms.threshold 4
namespace VL
open PySem PySem.Spec PyProof.Rows L2 HD
open NQ (Qn Wh mul conj nm RD Near)
structure FSt (x r : Qn) (fd : List Qn) (qs : List Nat) (lo : Nat) : Prop where
  wr : Wh r
  fw : ∀ f ∈ fd, Wh f ∧ nm f < 1000
  ml : fd.reverse.foldl mul r = x
  nq : fd.map nm = qs.map Int.ofNat
  pq : ∀ q ∈ qs, NT.Pr q
  so : qs.Pairwise (· ≤ ·)
  up : ∀ q ∈ qs, q ≤ lo
  r0 : 0 < nm r
  ln : (fd.length : Int) + nm r < 1000
theorem FSt.step {x r g s : Qn} {fd : List Qn} {qs : List Nat} {p : Nat} (F : FSt x r fd qs p) (pr : NT.Pr p) (hp : p < 1000) (hg : Wh g) (hs : Wh s) (ng : nm g = p) (e : r = mul s g) : FSt x s (fd ++ [g]) (qs ++ [p]) p ∧ nm r = nm s * p := by
  have p2 := pr.1
  have en : nm r = nm s * p := by rw [e, NQ.nm_mul hs hg, ng]
  have s0 := NQ.nm0 s
  have r0 := F.r0
  have s1 : 0 < nm s := by
    rcases Int.lt_or_eq_of_le s0 with z | z
    · exact z
    · rw [← z] at en; omega
  refine ⟨⟨hs, fun f hf => ?_, ?_, ?_, fun q hq => ?_, ?_, fun q hq => ?_, s1, ?_⟩, en⟩
  · rcases List.mem_append.mp hf with z | z
    · exact F.fw f z
    · rw [List.mem_singleton.mp z, ng]; exact ⟨hg, by omega⟩
  · rw [List.reverse_append]
    show List.foldl mul (mul s g) fd.reverse = x
    rw [← e]; exact F.ml
  · rw [List.map_append, List.map_append, F.nq]
    show _ ++ [nm g] = _
    rw [ng]; rfl
  · rcases List.mem_append.mp hq with z | z
    · exact F.pq q z
    · rw [List.mem_singleton.mp z]; exact pr
  · rw [List.pairwise_append]
    exact ⟨F.so, List.pairwise_singleton _ _, fun a ha b hb => by rw [List.mem_singleton.mp hb]; exact F.up a ha⟩
  · rcases List.mem_append.mp hq with z | z
    · exact F.up q z
    · rw [List.mem_singleton.mp z]; exact Nat.le_refl _
  · have l := F.ln
    rw [List.length_append]
    have := Int.mul_le_mul_of_nonneg_left (show (2 : Int) ≤ p by omega) s0
    simp only [List.length_cons, List.length_nil]
    omega
theorem FSt.le {x r : Qn} {fd : List Qn} {qs : List Nat} {p p' : Nat} (F : FSt x r fd qs p) (h : p ≤ p') : FSt x r fd qs p' := ⟨F.wr, F.fw, F.ml, F.nq, F.pq, F.so, fun q hq => Nat.le_trans (F.up q hq) h, F.r0, F.ln⟩
theorem loop_ff2 (Z : VEnds) (x : Qn) (p : Nat) (pr : NT.Pr p) (hp : p < 1000) (e : SV) (m : Int) : ∀ (xs : List D) (r : Qn) (fd : List Qn) (qs : List Nat) (s4 s5 : SV), FSt x r fd qs p → nm r = (p : Int) ^ xs.length * m →
    (∀ r' fd' qs' s4 s5, FSt x r' fd' qs' p → nm r' = m → Z.nx [.fr (qD r'), .ow (fd'.map qD), .fr (.int p), e, s4, s5]) →
    vFor rd_factored_four_f2g rd_factored_four_f2b Z xs [.fr (qD r), .ow (fd.map qD), .fr (.int p), e, s4, s5] := by
  intro xs
  induction xs with
  | nil => intro r fd qs s4 s5 F hn h; rw [vFor_nil]; exact h r fd qs s4 s5 F (by rw [hn]; simp)
  | cons d xs ih =>
    intro r fd qs s4 s5 F hn h
    rw [vFor_cons]
    generalize hW : vFor rd_factored_four_f2g rd_factored_four_f2b Z xs = W
    have p2 := pr.1
    have l := F.ln
    simp only [↓rd_factored_four_f2g, ↓rd_factored_four_f2b, ↓vSeq, ↓vPar, ↓vPar3, ↓vSet, ↓vSetO, ↓vAsg, ↓vAug, ↓vAppend, ↓vExt, ↓vUnp, ↓vFz, ↓vRet, ↓vRetN, ↓vDrop, ↓vIfS, ↓vNext, ↓vBrk, ↓vCnt, ↓vNever, ↓vForS, ↓vC, ↓vVar, ↓vTup, ↓vOf, ↓vBin, ↓vBinL, ↓vBinR, ↓vUn, ↓vCall, ↓vCallO, ↓vCallIO, ↓vCallSC, ↓vLookA, ↓vB, ↓vTru, ↓vTruO, ↓vAnd, ↓vOr, ↓vNot, ↓vAndV, ↓vOrV, ↓vNotV, ↓vIf, ↓vChain, ↓vNil, ↓vCons, ↓vSl, ↓vSlL, ↓vP0, ↓vP1, ↓vRevT, ↓vRevL, ↓vRevLL, ↓vBits, ↓vPop, ↓vLc, ↓vTurn, ↓vYes, ↓gN, ↓gT, ↓gsC, ↓gs0, ↓gSet, ↓wL, ↓wT, ↓wR1, ↓wR2, ↓d2, ↓d20, ↓dAdd, ↓dMul, ↓dEq, ↓dNe, ↓dIsN, ↓dNotN, ↓isN, ↓dNeg, ↓dIx, ↓dInI, ↓dSl, ↓truD, ↓cLen, ↓cAbs, ↓cMax2, ↓cMin2, ↓cInt, ↓cTup, ↓cLst, ↓sv, ↓List.getD_cons_zero, ↓List.getD_cons_succ, ↓List.set_cons_zero, ↓List.set_cons_succ, ↓vxSeq, ↓vxIf, ↓vxRaise, ↓vxRet, ↓vxAsg, ↓vxCall, ↓vReason, ↓vEqS, ↓vIsi, ↓wR3, ↓wZip, ↓vSetDk, ↓vDkIn, ↓vDkPut, ↓vParE, ↓gL, ↓vxDrop, ↓cSrt, ↓cSum, ↓cMinD, ↓cAnyI, ↓vLenSet, ↓vLc2]
    rw [List.length_cons, Int.pow_succ] at hn
    have e0 : (p : Int) ^ xs.length * p * m = (p ^ xs.length * m) * p := by grind
    rw [e0] at hn
    refine ⟨r, p, rfl, F.wr, pr, hp, ⟨(p : Int) ^ xs.length * m, by rw [hn, Int.mul_comm]⟩, F.r0, by omega, fun g s hg hs ng es => ?_⟩
    obtain ⟨F', en⟩ := F.step pr hp hg hs ng es
    simp only [↓vSeq, ↓vPar, ↓vPar3, ↓vSet, ↓vSetO, ↓vAsg, ↓vAug, ↓vAppend, ↓vExt, ↓vUnp, ↓vFz, ↓vRet, ↓vRetN, ↓vDrop, ↓vIfS, ↓vNext, ↓vBrk, ↓vCnt, ↓vNever, ↓vForS, ↓vC, ↓vVar, ↓vTup, ↓vOf, ↓vBin, ↓vBinL, ↓vBinR, ↓vUn, ↓vCall, ↓vCallO, ↓vCallIO, ↓vCallSC, ↓vLookA, ↓vB, ↓vTru, ↓vTruO, ↓vAnd, ↓vOr, ↓vNot, ↓vAndV, ↓vOrV, ↓vNotV, ↓vIf, ↓vChain, ↓vNil, ↓vCons, ↓vSl, ↓vSlL, ↓vP0, ↓vP1, ↓vRevT, ↓vRevL, ↓vRevLL, ↓vBits, ↓vPop, ↓vLc, ↓vTurn, ↓vYes, ↓gN, ↓gT, ↓gsC, ↓gs0, ↓gSet, ↓wL, ↓wT, ↓wR1, ↓wR2, ↓d2, ↓d20, ↓dAdd, ↓dMul, ↓dEq, ↓dNe, ↓dIsN, ↓dNotN, ↓isN, ↓dNeg, ↓dIx, ↓dInI, ↓dSl, ↓truD, ↓cLen, ↓cAbs, ↓cMax2, ↓cMin2, ↓cInt, ↓cTup, ↓cLst, ↓sv, ↓List.getD_cons_zero, ↓List.getD_cons_succ, ↓List.set_cons_zero, ↓List.set_cons_succ, ↓vxSeq, ↓vxIf, ↓vxRaise, ↓vxRet, ↓vxAsg, ↓vxCall, ↓vReason, ↓vEqS, ↓vIsi, ↓wR3, ↓wZip, ↓vSetDk, ↓vDkIn, ↓vDkPut, ↓vParE, ↓gL, ↓vxDrop, ↓cSrt, ↓cSum, ↓cMinD, ↓cAnyI, ↓vLenSet, ↓vLc2]
    refine ⟨rfl, by rw [sizeLine_eq, List.length_map]; have := F.r0; omega, ?_⟩
    rw [← hW]
    have em : fd.map qD ++ [qD g] = (fd ++ [g]).map qD := by simp
    rw [em]
    refine ih s (fd ++ [g]) (qs ++ [p]) _ _ F' ?_ h
    refine Int.eq_of_mul_eq_mul_right (show (p : Int) ≠ 0 by omega) ?_
    rw [← en, hn]
theorem loop_ff1 (Z : VEnds) (x : Qn) : ∀ (l : List (Nat × Nat)) (lo m : Nat) (r : Qn) (fd : List Qn) (qs : List Nat) (s2 s3 s4 s5 : SV), NT.FacL lo m l → FSt x r fd qs lo → nm r = m →
    (∀ r' fd' qs' lo' s2 s3 s4 s5, FSt x r' fd' qs' lo' → nm r' = 1 → Z.nx [.fr (qD r'), .ow (fd'.map qD), s2, s3, s4, s5]) →
    vFor rd_factored_four_f1g rd_factored_four_f1b Z (l.map facD) [.fr (qD r), .ow (fd.map qD), s2, s3, s4, s5] := by
  intro l
  induction l with
  | nil => intro lo m r fd qs s2 s3 s4 s5 hl F hn h; rw [List.map_nil, vFor_nil]; exact h r fd qs lo _ _ _ _ F (by rw [hn]; have : m = 1 := hl; omega)
  | cons pe l ih =>
    intro lo m r fd qs s2 s3 s4 s5 hl F hn h
    obtain ⟨p, e⟩ := pe
    obtain ⟨h1, pr, e1, m', rfl, nd, hl'⟩ := hl
    rw [List.map_cons, vFor_cons]
    generalize hW : vFor rd_factored_four_f1g rd_factored_four_f1b Z (l.map facD) = W
    have p2 := pr.1
    have ln := F.ln
    have r0 := F.r0
    have m0 : 0 < m' := by
      rcases Nat.eq_zero_or_pos m' with z | z
      · rw [z] at hn; simp at hn; omega
      · exact z
    have pb : p ^ e * m' < 1000 := by omega
    have pl : p < 1000 := by
      have : p ≤ p ^ e := Nat.le_self_pow (by omega) p
      have := Nat.le_mul_of_pos_right (p ^ e) m0
      omega
    have eb : e < 1000 := by
      have : e < 2 ^ e := Nat.lt_two_pow_self
      have : 2 ^ e ≤ p ^ e := Nat.pow_le_pow_left p2 e
      have := Nat.le_mul_of_pos_right (p ^ e) m0
      omega
    simp only [↓rd_factored_four_f1g, ↓rd_factored_four_f1b, facD, ↓vSeq, ↓vPar, ↓vPar3, ↓vSet, ↓vSetO, ↓vAsg, ↓vAug, ↓vAppend, ↓vExt, ↓vUnp, ↓vFz, ↓vRet, ↓vRetN, ↓vDrop, ↓vIfS, ↓vNext, ↓vBrk, ↓vCnt, ↓vNever, ↓vForS, ↓vC, ↓vVar, ↓vTup, ↓vOf, ↓vBin, ↓vBinL, ↓vBinR, ↓vUn, ↓vCall, ↓vCallO, ↓vCallIO, ↓vCallSC, ↓vLookA, ↓vB, ↓vTru, ↓vTruO, ↓vAnd, ↓vOr, ↓vNot, ↓vAndV, ↓vOrV, ↓vNotV, ↓vIf, ↓vChain, ↓vNil, ↓vCons, ↓vSl, ↓vSlL, ↓vP0, ↓vP1, ↓vRevT, ↓vRevL, ↓vRevLL, ↓vBits, ↓vPop, ↓vLc, ↓vTurn, ↓vYes, ↓gN, ↓gT, ↓gsC, ↓gs0, ↓gSet, ↓wL, ↓wT, ↓wR1, ↓wR2, ↓d2, ↓d20, ↓dAdd, ↓dMul, ↓dEq, ↓dNe, ↓dIsN, ↓dNotN, ↓isN, ↓dNeg, ↓dIx, ↓dInI, ↓dSl, ↓truD, ↓cLen, ↓cAbs, ↓cMax2, ↓cMin2, ↓cInt, ↓cTup, ↓cLst, ↓sv, ↓List.getD_cons_zero, ↓List.getD_cons_succ, ↓List.set_cons_zero, ↓List.set_cons_succ, ↓vxSeq, ↓vxIf, ↓vxRaise, ↓vxRet, ↓vxAsg, ↓vxCall, ↓vReason, ↓vEqS, ↓vIsi, ↓wR3, ↓wZip, ↓vSetDk, ↓vDkIn, ↓vDkPut, ↓vParE, ↓gL, ↓vxDrop, ↓cSrt, ↓cSum, ↓cMinD, ↓cAnyI, ↓vLenSet, ↓vLc2]
    have l1 : (rngD 0 ((e : Int)).toNat).length = e := by unfold rngD; rw [List.length_map, List.length_range]; omega
    refine ⟨rfl, ⟨by omega, by omega⟩, loop_ff2 _ x p pr pl _ m' _ r fd qs _ _ (F.le h1) (by rw [l1, hn]; simp) fun r' fd' qs' s4 s5 F' hn' => ?_⟩
    rw [← hW]
    exact ih (p + 1) m' r' fd' qs' _ _ _ _ hl' (F'.le (Nat.le_succ p)) hn' h
theorem hq_factored_four (ds : List D) (Q : D → Prop) (h : sp_factored_four ds Q) : rd_factored_four { nx := fun _ => Q .none, rt := fun d _ => Q d } (ev0 ["one", "found", "prime", "power", "turn", "first"] ds) := by
  obtain ⟨x, rfl, hx, n0, nb, h⟩ := h
  show rd_factored_four _ [.fr (qD x), .un, .un, .un, .un, .un]
  have lb : big = 18014398509481984 := rfl
  have c0 : decide (nm x = 0) = false := decide_eq_false (by omega)
  simp only [↓rd_factored_four, ↓vSeq, ↓vPar, ↓vPar3, ↓vSet, ↓vSetO, ↓vAsg, ↓vAug, ↓vAppend, ↓vExt, ↓vUnp, ↓vFz, ↓vRet, ↓vRetN, ↓vDrop, ↓vIfS, ↓vNext, ↓vBrk, ↓vCnt, ↓vNever, ↓vForS, ↓vC, ↓vVar, ↓vTup, ↓vOf, ↓vBin, ↓vBinL, ↓vBinR, ↓vUn, ↓vCall, ↓vCallO, ↓vCallIO, ↓vCallSC, ↓vLookA, ↓vB, ↓vTru, ↓vTruO, ↓vAnd, ↓vOr, ↓vNot, ↓vAndV, ↓vOrV, ↓vNotV, ↓vIf, ↓vChain, ↓vNil, ↓vCons, ↓vSl, ↓vSlL, ↓vP0, ↓vP1, ↓vRevT, ↓vRevL, ↓vRevLL, ↓vBits, ↓vPop, ↓vLc, ↓vTurn, ↓vYes, ↓gN, ↓gT, ↓gsC, ↓gs0, ↓gSet, ↓wL, ↓wT, ↓wR1, ↓wR2, ↓d2, ↓d20, ↓dAdd, ↓dMul, ↓dEq, ↓dNe, ↓dIsN, ↓dNotN, ↓isN, ↓dNeg, ↓dIx, ↓dInI, ↓dSl, ↓truD, ↓cLen, ↓cAbs, ↓cMax2, ↓cMin2, ↓cInt, ↓cTup, ↓cLst, ↓sv, ↓List.getD_cons_zero, ↓List.getD_cons_succ, ↓List.set_cons_zero, ↓List.set_cons_succ, ↓vxSeq, ↓vxIf, ↓vxRaise, ↓vxRet, ↓vxAsg, ↓vxCall, ↓vReason, ↓vEqS, ↓vIsi, ↓wR3, ↓wZip, ↓vSetDk, ↓vDkIn, ↓vDkPut, ↓vParE, ↓gL, ↓vxDrop, ↓cSrt, ↓cSum, ↓cMinD, ↓cAnyI, ↓vLenSet, ↓vLc2]
  refine ⟨x, rfl, hx, by omega, ?_⟩
  simp only [c0]
  refine ⟨x, rfl, hx, by omega, (nm x).toNat, ?_, by omega, by omega, fun l hl => ?_⟩
  · simp only [List.cons.injEq, PyData.int.injEq, and_true]; omega
  simp only [↓vSeq, ↓vPar, ↓vPar3, ↓vSet, ↓vSetO, ↓vAsg, ↓vAug, ↓vAppend, ↓vExt, ↓vUnp, ↓vFz, ↓vRet, ↓vRetN, ↓vDrop, ↓vIfS, ↓vNext, ↓vBrk, ↓vCnt, ↓vNever, ↓vForS, ↓vC, ↓vVar, ↓vTup, ↓vOf, ↓vBin, ↓vBinL, ↓vBinR, ↓vUn, ↓vCall, ↓vCallO, ↓vCallIO, ↓vCallSC, ↓vLookA, ↓vB, ↓vTru, ↓vTruO, ↓vAnd, ↓vOr, ↓vNot, ↓vAndV, ↓vOrV, ↓vNotV, ↓vIf, ↓vChain, ↓vNil, ↓vCons, ↓vSl, ↓vSlL, ↓vP0, ↓vP1, ↓vRevT, ↓vRevL, ↓vRevLL, ↓vBits, ↓vPop, ↓vLc, ↓vTurn, ↓vYes, ↓gN, ↓gT, ↓gsC, ↓gs0, ↓gSet, ↓wL, ↓wT, ↓wR1, ↓wR2, ↓d2, ↓d20, ↓dAdd, ↓dMul, ↓dEq, ↓dNe, ↓dIsN, ↓dNotN, ↓isN, ↓dNeg, ↓dIx, ↓dInI, ↓dSl, ↓truD, ↓cLen, ↓cAbs, ↓cMax2, ↓cMin2, ↓cInt, ↓cTup, ↓cLst, ↓sv, ↓List.getD_cons_zero, ↓List.getD_cons_succ, ↓List.set_cons_zero, ↓List.set_cons_succ, ↓vxSeq, ↓vxIf, ↓vxRaise, ↓vxRet, ↓vxAsg, ↓vxCall, ↓vReason, ↓vEqS, ↓vIsi, ↓wR3, ↓wZip, ↓vSetDk, ↓vDkIn, ↓vDkPut, ↓vParE, ↓gL, ↓vxDrop, ↓cSrt, ↓cSum, ↓cMinD, ↓cAnyI, ↓vLenSet, ↓vLc2]
  have F0 : FSt x x [] [] 2 := ⟨hx, fun f hf => (by cases hf), rfl, rfl, fun q hq => (by cases hq), List.Pairwise.nil, fun q hq => (by cases hq), n0, by simp; omega⟩
  refine loop_ff1 _ x l 2 _ x [] [] _ _ _ _ hl F0 (by omega) fun r' fd' qs' lo' s2 s3 s4 s5 F n1 => ?_
  simp only [↓vSeq, ↓vPar, ↓vPar3, ↓vSet, ↓vSetO, ↓vAsg, ↓vAug, ↓vAppend, ↓vExt, ↓vUnp, ↓vFz, ↓vRet, ↓vRetN, ↓vDrop, ↓vIfS, ↓vNext, ↓vBrk, ↓vCnt, ↓vNever, ↓vForS, ↓vC, ↓vVar, ↓vTup, ↓vOf, ↓vBin, ↓vBinL, ↓vBinR, ↓vUn, ↓vCall, ↓vCallO, ↓vCallIO, ↓vCallSC, ↓vLookA, ↓vB, ↓vTru, ↓vTruO, ↓vAnd, ↓vOr, ↓vNot, ↓vAndV, ↓vOrV, ↓vNotV, ↓vIf, ↓vChain, ↓vNil, ↓vCons, ↓vSl, ↓vSlL, ↓vP0, ↓vP1, ↓vRevT, ↓vRevL, ↓vRevLL, ↓vBits, ↓vPop, ↓vLc, ↓vTurn, ↓vYes, ↓gN, ↓gT, ↓gsC, ↓gs0, ↓gSet, ↓wL, ↓wT, ↓wR1, ↓wR2, ↓d2, ↓d20, ↓dAdd, ↓dMul, ↓dEq, ↓dNe, ↓dIsN, ↓dNotN, ↓isN, ↓dNeg, ↓dIx, ↓dInI, ↓dSl, ↓truD, ↓cLen, ↓cAbs, ↓cMax2, ↓cMin2, ↓cInt, ↓cTup, ↓cLst, ↓sv, ↓List.getD_cons_zero, ↓List.getD_cons_succ, ↓List.set_cons_zero, ↓List.set_cons_succ, ↓vxSeq, ↓vxIf, ↓vxRaise, ↓vxRet, ↓vxAsg, ↓vxCall, ↓vReason, ↓vEqS, ↓vIsi, ↓wR3, ↓wZip, ↓vSetDk, ↓vDkIn, ↓vDkPut, ↓vParE, ↓gL, ↓vxDrop, ↓cSrt, ↓cSum, ↓cMinD, ↓cAnyI, ↓vLenSet, ↓vLc2, List.map_nil]
  refine ⟨by rw [sizeLine_eq]; have := F.ln; simp; omega, ?_⟩
  have := h r' fd'.reverse qs'.reverse F.wr n1 (fun f hf => F.fw f (List.mem_reverse.mp hf)) F.ml (by rw [List.map_reverse, F.nq, List.map_reverse]) (fun q hq => F.pq q (List.mem_reverse.mp hq)) ?_ (by rw [List.length_reverse]; have := F.ln; omega)
  · rw [List.map_reverse] at this
    exact this
  · rw [List.pairwise_reverse]; exact F.so
end VL

set_option Elab.async false
set_option linter.all false
set_option maxRecDepth 1000000
set_option maxHeartbeats 8000000
set_option pp.deepTerms false
set_option pp.deepTerms.threshold 6
namespace VL
open PySem PySem.Spec PyProof.Rows L2 HD
open NQ (Qn Wh mul conj nm RD Near)
/-! ### _law_primes -/
theorem wit_pr2 (D : VEnds) (p : Nat) (h2 : 2 ≤ p) (hs : p < 4294967296) (fd : SV) (h : D.nx [.fr (.int 1), fd, .fr (.int p)]) : wit rd__law_primes_w2c rd__law_primes_w2b D 2 [.fr (.int p), fd, .fr (.int p)] := by
  rw [wit_succ]
  have e1 : ((p : Int)).fmod p = 0 := by rw [fmod_pos (by omega), Int.emod_self]
  have e2 : ((p : Int)).fdiv p = 1 := by rw [fdiv_pos (by omega), Int.ediv_self (by omega)]
  have e3 : ((1 : Int)).fmod p = 1 := by rw [fmod_pos (by omega), Int.emod_eq_of_lt (by omega) (by omega)]
  generalize hW : wit rd__law_primes_w2c rd__law_primes_w2b D 1 = W
  simp only [↓rd__law_primes_w2c, ↓rd__law_primes_w2b, ↓vSeq, ↓vPar, ↓vPar3, ↓vSet, ↓vSetO, ↓vAsg, ↓vAug, ↓vAppend, ↓vExt, ↓vUnp, ↓vFz, ↓vRet, ↓vRetN, ↓vDrop, ↓vIfS, ↓vNext, ↓vBrk, ↓vCnt, ↓vNever, ↓vForS, ↓vC, ↓vVar, ↓vTup, ↓vOf, ↓vBin, ↓vBinL, ↓vBinR, ↓vUn, ↓vCall, ↓vCallO, ↓vCallIO, ↓vCallSC, ↓vLookA, ↓vB, ↓vTru, ↓vTruO, ↓vAnd, ↓vOr, ↓vNot, ↓vAndV, ↓vOrV, ↓vNotV, ↓vIf, ↓vChain, ↓vNil, ↓vCons, ↓vSl, ↓vSlL, ↓vP0, ↓vP1, ↓vRevT, ↓vRevL, ↓vRevLL, ↓vBits, ↓vPop, ↓vLc, ↓vTurn, ↓vYes, ↓gN, ↓gT, ↓gsC, ↓gs0, ↓gSet, ↓wL, ↓wT, ↓wR1, ↓wR2, ↓d2, ↓d20, ↓dAdd, ↓dMul, ↓dEq, ↓dNe, ↓dIsN, ↓dNotN, ↓isN, ↓dNeg, ↓dIx, ↓dInI, ↓dSl, ↓truD, ↓cLen, ↓cAbs, ↓cMax2, ↓cMin2, ↓cInt, ↓cTup, ↓cLst, ↓sv, ↓List.getD_cons_zero, ↓List.getD_cons_succ, ↓List.set_cons_zero, ↓List.set_cons_succ, ↓vxSeq, ↓vxIf, ↓vxRaise, ↓vxRet, ↓vxAsg, ↓vxCall, ↓vReason, ↓vEqS, ↓vIsi, ↓wR3, ↓wZip, ↓vSetDk, ↓vDkIn, ↓vDkPut, ↓vParE, ↓gL, ↓vxDrop, ↓cSrt, ↓cSum, ↓cMinD, ↓cAnyI, ↓vLenSet, ↓vLc2, e1, e2, decide_true]
  refine ⟨by omega, div_small (by omega) ⟨by omega, by omega⟩, ?_⟩
  rw [← hW, wit_succ]
  simp only [↓rd__law_primes_w2c, ↓rd__law_primes_w2b, ↓vSeq, ↓vPar, ↓vPar3, ↓vSet, ↓vSetO, ↓vAsg, ↓vAug, ↓vAppend, ↓vExt, ↓vUnp, ↓vFz, ↓vRet, ↓vRetN, ↓vDrop, ↓vIfS, ↓vNext, ↓vBrk, ↓vCnt, ↓vNever, ↓vForS, ↓vC, ↓vVar, ↓vTup, ↓vOf, ↓vBin, ↓vBinL, ↓vBinR, ↓vUn, ↓vCall, ↓vCallO, ↓vCallIO, ↓vCallSC, ↓vLookA, ↓vB, ↓vTru, ↓vTruO, ↓vAnd, ↓vOr, ↓vNot, ↓vAndV, ↓vOrV, ↓vNotV, ↓vIf, ↓vChain, ↓vNil, ↓vCons, ↓vSl, ↓vSlL, ↓vP0, ↓vP1, ↓vRevT, ↓vRevL, ↓vRevLL, ↓vBits, ↓vPop, ↓vLc, ↓vTurn, ↓vYes, ↓gN, ↓gT, ↓gsC, ↓gs0, ↓gSet, ↓wL, ↓wT, ↓wR1, ↓wR2, ↓d2, ↓d20, ↓dAdd, ↓dMul, ↓dEq, ↓dNe, ↓dIsN, ↓dNotN, ↓isN, ↓dNeg, ↓dIx, ↓dInI, ↓dSl, ↓truD, ↓cLen, ↓cAbs, ↓cMax2, ↓cMin2, ↓cInt, ↓cTup, ↓cLst, ↓sv, ↓List.getD_cons_zero, ↓List.getD_cons_succ, ↓List.set_cons_zero, ↓List.set_cons_succ, ↓vxSeq, ↓vxIf, ↓vxRaise, ↓vxRet, ↓vxAsg, ↓vxCall, ↓vReason, ↓vEqS, ↓vIsi, ↓wR3, ↓wZip, ↓vSetDk, ↓vDkIn, ↓vDkPut, ↓vParE, ↓gL, ↓vxDrop, ↓cSrt, ↓cSum, ↓cMinD, ↓cAnyI, ↓vLenSet, ↓vLc2, e3]
  have e4 : decide ((1 : Int) = 0) = false := by decide
  simp only [e4]
  exact ⟨by omega, h⟩
theorem wit_pr1 (D : VEnds) (p : Nat) (pr : NT.Pr p) (hs : p < 4294967296) (h : ∀ q, D.nx [.fr (.int 1), .ow [.int p], q]) : ∀ (k q : Nat), p < q + k → 2 ≤ q → q ≤ p → wit rd__law_primes_w1c rd__law_primes_w1b D (k + 1) [.fr (.int p), .ow [], .fr (.int q)] := by
  intro k
  have h2 := pr.1
  induction k with
  | zero => intro q h1 h3 h4; omega
  | succ k ih =>
    intro q h1 h3 h4
    rw [wit_succ]
    generalize hW : wit rd__law_primes_w1c rd__law_primes_w1b D (k + 1) = W
    simp only [↓rd__law_primes_w1c, ↓rd__law_primes_w1b, ↓vSeq, ↓vPar, ↓vPar3, ↓vSet, ↓vSetO, ↓vAsg, ↓vAug, ↓vAppend, ↓vExt, ↓vUnp, ↓vFz, ↓vRet, ↓vRetN, ↓vDrop, ↓vIfS, ↓vNext, ↓vBrk, ↓vCnt, ↓vNever, ↓vForS, ↓vC, ↓vVar, ↓vTup, ↓vOf, ↓vBin, ↓vBinL, ↓vBinR, ↓vUn, ↓vCall, ↓vCallO, ↓vCallIO, ↓vCallSC, ↓vLookA, ↓vB, ↓vTru, ↓vTruO, ↓vAnd, ↓vOr, ↓vNot, ↓vAndV, ↓vOrV, ↓vNotV, ↓vIf, ↓vChain, ↓vNil, ↓vCons, ↓vSl, ↓vSlL, ↓vP0, ↓vP1, ↓vRevT, ↓vRevL, ↓vRevLL, ↓vBits, ↓vPop, ↓vLc, ↓vTurn, ↓vYes, ↓gN, ↓gT, ↓gsC, ↓gs0, ↓gSet, ↓wL, ↓wT, ↓wR1, ↓wR2, ↓d2, ↓d20, ↓dAdd, ↓dMul, ↓dEq, ↓dNe, ↓dIsN, ↓dNotN, ↓isN, ↓dNeg, ↓dIx, ↓dInI, ↓dSl, ↓truD, ↓cLen, ↓cAbs, ↓cMax2, ↓cMin2, ↓cInt, ↓cTup, ↓cLst, ↓sv, ↓List.getD_cons_zero, ↓List.getD_cons_succ, ↓List.set_cons_zero, ↓List.set_cons_succ, ↓vxSeq, ↓vxIf, ↓vxRaise, ↓vxRet, ↓vxAsg, ↓vxCall, ↓vReason, ↓vEqS, ↓vIsi, ↓wR3, ↓wZip, ↓vSetDk, ↓vDkIn, ↓vDkPut, ↓vParE, ↓gL, ↓vxDrop, ↓cSrt, ↓cSum, ↓cMinD, ↓cAnyI, ↓vLenSet, ↓vLc2, vWhile]
    have c1 : decide ((1 : Int) < (p : Int)) = true := decide_eq_true (by omega)
    have c2 : ((p : Int)).fmod q = ((p % q : Nat) : Int) := by rw [fmod_pos (by omega), Int.natCast_emod]
    have c3 : ((q : Int) + 1) = ((q + 1 : Nat) : Int) := by omega
    simp only [c1, c2, c3]
    refine ⟨by omega, ?_⟩
    by_cases e : q = p
    · subst e
      have c4 : decide (((q % q : Nat) : Int) = 0) = true := by rw [Nat.mod_self]; decide
      simp only [c4, List.nil_append, List.length_nil]
      refine ⟨by rw [sizeLine_eq]; decide, 2, wit_pr2 _ q h2 hs _ ?_⟩
      simp only [↓vSeq, ↓vPar, ↓vPar3, ↓vSet, ↓vSetO, ↓vAsg, ↓vAug, ↓vAppend, ↓vExt, ↓vUnp, ↓vFz, ↓vRet, ↓vRetN, ↓vDrop, ↓vIfS, ↓vNext, ↓vBrk, ↓vCnt, ↓vNever, ↓vForS, ↓vC, ↓vVar, ↓vTup, ↓vOf, ↓vBin, ↓vBinL, ↓vBinR, ↓vUn, ↓vCall, ↓vCallO, ↓vCallIO, ↓vCallSC, ↓vLookA, ↓vB, ↓vTru, ↓vTruO, ↓vAnd, ↓vOr, ↓vNot, ↓vAndV, ↓vOrV, ↓vNotV, ↓vIf, ↓vChain, ↓vNil, ↓vCons, ↓vSl, ↓vSlL, ↓vP0, ↓vP1, ↓vRevT, ↓vRevL, ↓vRevLL, ↓vBits, ↓vPop, ↓vLc, ↓vTurn, ↓vYes, ↓gN, ↓gT, ↓gsC, ↓gs0, ↓gSet, ↓wL, ↓wT, ↓wR1, ↓wR2, ↓d2, ↓d20, ↓dAdd, ↓dMul, ↓dEq, ↓dNe, ↓dIsN, ↓dNotN, ↓isN, ↓dNeg, ↓dIx, ↓dInI, ↓dSl, ↓truD, ↓cLen, ↓cAbs, ↓cMax2, ↓cMin2, ↓cInt, ↓cTup, ↓cLst, ↓sv, ↓List.getD_cons_zero, ↓List.getD_cons_succ, ↓List.set_cons_zero, ↓List.set_cons_succ, ↓vxSeq, ↓vxIf, ↓vxRaise, ↓vxRet, ↓vxAsg, ↓vxCall, ↓vReason, ↓vEqS, ↓vIsi, ↓wR3, ↓wZip, ↓vSetDk, ↓vDkIn, ↓vDkPut, ↓vParE, ↓gL, ↓vxDrop, ↓cSrt, ↓cSum, ↓cMinD, ↓cAnyI, ↓vLenSet, ↓vLc2]
      rw [← hW, wit_succ]
      simp only [↓rd__law_primes_w1c, ↓rd__law_primes_w1b, ↓vSeq, ↓vPar, ↓vPar3, ↓vSet, ↓vSetO, ↓vAsg, ↓vAug, ↓vAppend, ↓vExt, ↓vUnp, ↓vFz, ↓vRet, ↓vRetN, ↓vDrop, ↓vIfS, ↓vNext, ↓vBrk, ↓vCnt, ↓vNever, ↓vForS, ↓vC, ↓vVar, ↓vTup, ↓vOf, ↓vBin, ↓vBinL, ↓vBinR, ↓vUn, ↓vCall, ↓vCallO, ↓vCallIO, ↓vCallSC, ↓vLookA, ↓vB, ↓vTru, ↓vTruO, ↓vAnd, ↓vOr, ↓vNot, ↓vAndV, ↓vOrV, ↓vNotV, ↓vIf, ↓vChain, ↓vNil, ↓vCons, ↓vSl, ↓vSlL, ↓vP0, ↓vP1, ↓vRevT, ↓vRevL, ↓vRevLL, ↓vBits, ↓vPop, ↓vLc, ↓vTurn, ↓vYes, ↓gN, ↓gT, ↓gsC, ↓gs0, ↓gSet, ↓wL, ↓wT, ↓wR1, ↓wR2, ↓d2, ↓d20, ↓dAdd, ↓dMul, ↓dEq, ↓dNe, ↓dIsN, ↓dNotN, ↓isN, ↓dNeg, ↓dIx, ↓dInI, ↓dSl, ↓truD, ↓cLen, ↓cAbs, ↓cMax2, ↓cMin2, ↓cInt, ↓cTup, ↓cLst, ↓sv, ↓List.getD_cons_zero, ↓List.getD_cons_succ, ↓List.set_cons_zero, ↓List.set_cons_succ, ↓vxSeq, ↓vxIf, ↓vxRaise, ↓vxRet, ↓vxAsg, ↓vxCall, ↓vReason, ↓vEqS, ↓vIsi, ↓wR3, ↓wZip, ↓vSetDk, ↓vDkIn, ↓vDkPut, ↓vParE, ↓gL, ↓vxDrop, ↓cSrt, ↓cSum, ↓cMinD, ↓cAnyI, ↓vLenSet, ↓vLc2, vWhile]
      have c5 : decide ((1 : Int) < 1) = false := by decide
      simp only [c5]
      exact h _
    · have n0 : p % q ≠ 0 := fun z => by
        rcases pr.2 q (Nat.dvd_of_mod_eq_zero z) with w | w <;> omega
      have c4 : decide (((p % q : Nat) : Int) = 0) = false := decide_eq_false (by omega)
      simp only [c4]
      rw [← hW]
      exact ih (q + 1) (by omega) (by omega) (by omega)
theorem hq__law_primes (ds : List D) (Q : D → Prop) (h : sp__law_primes ds Q) : rd__law_primes { nx := fun _ => Q .none, rt := fun d _ => Q d } (ev0 ["number", "found", "p"] ds) := by
  obtain ⟨p, rfl, pr, hs, h⟩ := h
  show rd__law_primes _ [.fr (.int p), .un, .un]
  simp only [↓rd__law_primes, ↓vSeq, ↓vPar, ↓vPar3, ↓vSet, ↓vSetO, ↓vAsg, ↓vAug, ↓vAppend, ↓vExt, ↓vUnp, ↓vFz, ↓vRet, ↓vRetN, ↓vDrop, ↓vIfS, ↓vNext, ↓vBrk, ↓vCnt, ↓vNever, ↓vForS, ↓vC, ↓vVar, ↓vTup, ↓vOf, ↓vBin, ↓vBinL, ↓vBinR, ↓vUn, ↓vCall, ↓vCallO, ↓vCallIO, ↓vCallSC, ↓vLookA, ↓vB, ↓vTru, ↓vTruO, ↓vAnd, ↓vOr, ↓vNot, ↓vAndV, ↓vOrV, ↓vNotV, ↓vIf, ↓vChain, ↓vNil, ↓vCons, ↓vSl, ↓vSlL, ↓vP0, ↓vP1, ↓vRevT, ↓vRevL, ↓vRevLL, ↓vBits, ↓vPop, ↓vLc, ↓vTurn, ↓vYes, ↓gN, ↓gT, ↓gsC, ↓gs0, ↓gSet, ↓wL, ↓wT, ↓wR1, ↓wR2, ↓d2, ↓d20, ↓dAdd, ↓dMul, ↓dEq, ↓dNe, ↓dIsN, ↓dNotN, ↓isN, ↓dNeg, ↓dIx, ↓dInI, ↓dSl, ↓truD, ↓cLen, ↓cAbs, ↓cMax2, ↓cMin2, ↓cInt, ↓cTup, ↓cLst, ↓sv, ↓List.getD_cons_zero, ↓List.getD_cons_succ, ↓List.set_cons_zero, ↓List.set_cons_succ, ↓vxSeq, ↓vxIf, ↓vxRaise, ↓vxRet, ↓vxAsg, ↓vxCall, ↓vReason, ↓vEqS, ↓vIsi, ↓wR3, ↓wZip, ↓vSetDk, ↓vDkIn, ↓vDkPut, ↓vParE, ↓gL, ↓vxDrop, ↓cSrt, ↓cSum, ↓cMinD, ↓cAnyI, ↓vLenSet, ↓vLc2, vWhile]
  refine ⟨p + 1, wit_pr1 _ p pr hs (fun q => ?_) p 2 (by omega) (by omega) pr.1⟩
  simp only [↓vSeq, ↓vPar, ↓vPar3, ↓vSet, ↓vSetO, ↓vAsg, ↓vAug, ↓vAppend, ↓vExt, ↓vUnp, ↓vFz, ↓vRet, ↓vRetN, ↓vDrop, ↓vIfS, ↓vNext, ↓vBrk, ↓vCnt, ↓vNever, ↓vForS, ↓vC, ↓vVar, ↓vTup, ↓vOf, ↓vBin, ↓vBinL, ↓vBinR, ↓vUn, ↓vCall, ↓vCallO, ↓vCallIO, ↓vCallSC, ↓vLookA, ↓vB, ↓vTru, ↓vTruO, ↓vAnd, ↓vOr, ↓vNot, ↓vAndV, ↓vOrV, ↓vNotV, ↓vIf, ↓vChain, ↓vNil, ↓vCons, ↓vSl, ↓vSlL, ↓vP0, ↓vP1, ↓vRevT, ↓vRevL, ↓vRevLL, ↓vBits, ↓vPop, ↓vLc, ↓vTurn, ↓vYes, ↓gN, ↓gT, ↓gsC, ↓gs0, ↓gSet, ↓wL, ↓wT, ↓wR1, ↓wR2, ↓d2, ↓d20, ↓dAdd, ↓dMul, ↓dEq, ↓dNe, ↓dIsN, ↓dNotN, ↓isN, ↓dNeg, ↓dIx, ↓dInI, ↓dSl, ↓truD, ↓cLen, ↓cAbs, ↓cMax2, ↓cMin2, ↓cInt, ↓cTup, ↓cLst, ↓sv, ↓List.getD_cons_zero, ↓List.getD_cons_succ, ↓List.set_cons_zero, ↓List.set_cons_succ, ↓vxSeq, ↓vxIf, ↓vxRaise, ↓vxRet, ↓vxAsg, ↓vxCall, ↓vReason, ↓vEqS, ↓vIsi, ↓wR3, ↓wZip, ↓vSetDk, ↓vDkIn, ↓vDkPut, ↓vParE, ↓gL, ↓vxDrop, ↓cSrt, ↓cSum, ↓cMinD, ↓cAnyI, ↓vLenSet, ↓vLc2]
  exact h
theorem get_dig {gs : List Int} {n : Int} (h : digsOk gs) (h0 : 0 ≤ n) (h1 : n < gs.length) : ∃ g, gs[n.toNat]? = some g ∧ 0 ≤ g ∧ g < 1009 := by
  have e : gs[n.toNat]? = some gs[n.toNat] := List.getElem?_eq_getElem (by omega)
  have := h _ (List.getElem_mem (show n.toNat < gs.length by omega))
  exact ⟨_, e, this.1, this.2⟩
/-! ### _law_pick, _law_four -/
theorem hq__law_pick (xs ds : List D) (Q : List D → D → Prop) (h : sp__law_pick xs ds Q) : rd__law_pick (endIO Q) (ev1 ["box", "rows"] xs ds) := by
  obtain ⟨gs, at_, g, rows, r, rfl, rfl, hl, hl2, h0, hg, hr, h⟩ := h
  show rd__law_pick _ [.ow [.list (gs.map .int), .int at_], .fr (.list rows)]
  simp only [↓rd__law_pick, ↓vSeq, ↓vPar, ↓vPar3, ↓vSet, ↓vSetO, ↓vAsg, ↓vAug, ↓vAppend, ↓vExt, ↓vUnp, ↓vFz, ↓vRet, ↓vRetN, ↓vDrop, ↓vIfS, ↓vNext, ↓vBrk, ↓vCnt, ↓vNever, ↓vForS, ↓vC, ↓vVar, ↓vTup, ↓vOf, ↓vBin, ↓vBinL, ↓vBinR, ↓vUn, ↓vCall, ↓vCallO, ↓vCallIO, ↓vCallSC, ↓vLookA, ↓vB, ↓vTru, ↓vTruO, ↓vAnd, ↓vOr, ↓vNot, ↓vAndV, ↓vOrV, ↓vNotV, ↓vIf, ↓vChain, ↓vNil, ↓vCons, ↓vSl, ↓vSlL, ↓vP0, ↓vP1, ↓vRevT, ↓vRevL, ↓vRevLL, ↓vBits, ↓vPop, ↓vLc, ↓vTurn, ↓vYes, ↓gN, ↓gT, ↓gsC, ↓gs0, ↓gSet, ↓wL, ↓wT, ↓wR1, ↓wR2, ↓d2, ↓d20, ↓dAdd, ↓dMul, ↓dEq, ↓dNe, ↓dIsN, ↓dNotN, ↓isN, ↓dNeg, ↓dIx, ↓dInI, ↓dSl, ↓truD, ↓cLen, ↓cAbs, ↓cMax2, ↓cMin2, ↓cInt, ↓cTup, ↓cLst, ↓sv, ↓List.getD_cons_zero, ↓List.getD_cons_succ, ↓List.set_cons_zero, ↓List.set_cons_succ, ↓vxSeq, ↓vxIf, ↓vxRaise, ↓vxRet, ↓vxAsg, ↓vxCall, ↓vReason, ↓vEqS, ↓vIsi, ↓wR3, ↓wZip, ↓vSetDk, ↓vDkIn, ↓vDkPut, ↓vParE, ↓gL, ↓vxDrop, ↓cSrt, ↓cSum, ↓cMinD, ↓cAnyI, ↓vLenSet, ↓vLc2]
  refine ⟨gs, at_, rows.length, g, rfl, rfl, by omega, h0, hg, ?_⟩
  simp only [↓vSeq, ↓vPar, ↓vPar3, ↓vSet, ↓vSetO, ↓vAsg, ↓vAug, ↓vAppend, ↓vExt, ↓vUnp, ↓vFz, ↓vRet, ↓vRetN, ↓vDrop, ↓vIfS, ↓vNext, ↓vBrk, ↓vCnt, ↓vNever, ↓vForS, ↓vC, ↓vVar, ↓vTup, ↓vOf, ↓vBin, ↓vBinL, ↓vBinR, ↓vUn, ↓vCall, ↓vCallO, ↓vCallIO, ↓vCallSC, ↓vLookA, ↓vB, ↓vTru, ↓vTruO, ↓vAnd, ↓vOr, ↓vNot, ↓vAndV, ↓vOrV, ↓vNotV, ↓vIf, ↓vChain, ↓vNil, ↓vCons, ↓vSl, ↓vSlL, ↓vP0, ↓vP1, ↓vRevT, ↓vRevL, ↓vRevLL, ↓vBits, ↓vPop, ↓vLc, ↓vTurn, ↓vYes, ↓gN, ↓gT, ↓gsC, ↓gs0, ↓gSet, ↓wL, ↓wT, ↓wR1, ↓wR2, ↓d2, ↓d20, ↓dAdd, ↓dMul, ↓dEq, ↓dNe, ↓dIsN, ↓dNotN, ↓isN, ↓dNeg, ↓dIx, ↓dInI, ↓dSl, ↓truD, ↓cLen, ↓cAbs, ↓cMax2, ↓cMin2, ↓cInt, ↓cTup, ↓cLst, ↓sv, ↓List.getD_cons_zero, ↓List.getD_cons_succ, ↓List.set_cons_zero, ↓List.set_cons_succ, ↓vxSeq, ↓vxIf, ↓vxRaise, ↓vxRet, ↓vxAsg, ↓vxCall, ↓vReason, ↓vEqS, ↓vIsi, ↓wR3, ↓wZip, ↓vSetDk, ↓vDkIn, ↓vDkPut, ↓vParE, ↓gL, ↓vxDrop, ↓cSrt, ↓cSum, ↓cMinD, ↓cAnyI, ↓vLenSet, ↓vLc2]
  rw [atI_nat (Int.emod_nonneg _ (by omega)), hr]
  exact h
theorem comp_four (Q : List D → Ev → Prop) (gs : List Int) (hg : digsOk gs) (most half : Int) (hm : 1 ≤ most ∧ most ≤ 10) : ∀ (xs : List D) (at_ : Int) (acc : List D), 0 ≤ at_ → at_ + xs.length ≤ gs.length →
    (∀ w : List Int, (∀ t ∈ w, ∃ z, t = 2 * z + half ∧ -most ≤ z ∧ z ≤ most) → w.length = xs.length → Q (acc ++ w.map .int) [.ow [.list (gs.map .int), .int (at_ + xs.length)], .fr (.int most), .fr (.int half), .un]) →
    vComp rd__law_four_c1_g rd__law_four_c1_t rd__law_four_c1_e [3] Q xs [.ow [.list (gs.map .int), .int at_], .fr (.int most), .fr (.int half), .un] acc := by
  intro xs
  induction xs with
  | nil =>
    intro at_ acc h0 h1 h
    have := h [] (fun t ht => by cases ht) rfl
    simpa [vComp] using this
  | cons d xs ih =>
    intro at_ acc h0 h1 h
    show vTurn _ _ _ _ _ _ _ _
    rw [List.length_cons] at h1
    obtain ⟨g, eg, g0, g1⟩ := get_dig hg (n := at_) h0 (by omega)
    simp only [↓vTurn, ↓rd__law_four_c1_g, ↓rd__law_four_c1_t, ↓rd__law_four_c1_e, ↓wipeE, ↓vSeq, ↓vPar, ↓vPar3, ↓vSet, ↓vSetO, ↓vAsg, ↓vAug, ↓vAppend, ↓vExt, ↓vUnp, ↓vFz, ↓vRet, ↓vRetN, ↓vDrop, ↓vIfS, ↓vNext, ↓vBrk, ↓vCnt, ↓vNever, ↓vForS, ↓vC, ↓vVar, ↓vTup, ↓vOf, ↓vBin, ↓vBinL, ↓vBinR, ↓vUn, ↓vCall, ↓vCallO, ↓vCallIO, ↓vCallSC, ↓vLookA, ↓vB, ↓vTru, ↓vTruO, ↓vAnd, ↓vOr, ↓vNot, ↓vAndV, ↓vOrV, ↓vNotV, ↓vIf, ↓vChain, ↓vNil, ↓vCons, ↓vSl, ↓vSlL, ↓vP0, ↓vP1, ↓vRevT, ↓vRevL, ↓vRevLL, ↓vBits, ↓vPop, ↓vLc, ↓vTurn, ↓vYes, ↓gN, ↓gT, ↓gsC, ↓gs0, ↓gSet, ↓wL, ↓wT, ↓wR1, ↓wR2, ↓d2, ↓d20, ↓dAdd, ↓dMul, ↓dEq, ↓dNe, ↓dIsN, ↓dNotN, ↓isN, ↓dNeg, ↓dIx, ↓dInI, ↓dSl, ↓truD, ↓cLen, ↓cAbs, ↓cMax2, ↓cMin2, ↓cInt, ↓cTup, ↓cLst, ↓sv, ↓List.getD_cons_zero, ↓List.getD_cons_succ, ↓List.set_cons_zero, ↓List.set_cons_succ, ↓vxSeq, ↓vxIf, ↓vxRaise, ↓vxRet, ↓vxAsg, ↓vxCall, ↓vReason, ↓vEqS, ↓vIsi, ↓wR3, ↓wZip, ↓vSetDk, ↓vDkIn, ↓vDkPut, ↓vParE, ↓gL, ↓vxDrop, ↓cSrt, ↓cSum, ↓cMinD, ↓cAnyI, ↓vLenSet, ↓vLc2, back]
    refine ⟨mul_smallL ⟨by omega, by omega⟩, gs, at_, 2 * most + 1, g, rfl, rfl, by omega, h0, eg, ?_⟩
    have r0 := Int.emod_nonneg g (show 2 * most + 1 ≠ 0 by omega)
    have r1 := Int.emod_lt_of_pos g (show 0 < 2 * most + 1 by omega)
    simp only [↓vSeq, ↓vPar, ↓vPar3, ↓vSet, ↓vSetO, ↓vAsg, ↓vAug, ↓vAppend, ↓vExt, ↓vUnp, ↓vFz, ↓vRet, ↓vRetN, ↓vDrop, ↓vIfS, ↓vNext, ↓vBrk, ↓vCnt, ↓vNever, ↓vForS, ↓vC, ↓vVar, ↓vTup, ↓vOf, ↓vBin, ↓vBinL, ↓vBinR, ↓vUn, ↓vCall, ↓vCallO, ↓vCallIO, ↓vCallSC, ↓vLookA, ↓vB, ↓vTru, ↓vTruO, ↓vAnd, ↓vOr, ↓vNot, ↓vAndV, ↓vOrV, ↓vNotV, ↓vIf, ↓vChain, ↓vNil, ↓vCons, ↓vSl, ↓vSlL, ↓vP0, ↓vP1, ↓vRevT, ↓vRevL, ↓vRevLL, ↓vBits, ↓vPop, ↓vLc, ↓vTurn, ↓vYes, ↓gN, ↓gT, ↓gsC, ↓gs0, ↓gSet, ↓wL, ↓wT, ↓wR1, ↓wR2, ↓d2, ↓d20, ↓dAdd, ↓dMul, ↓dEq, ↓dNe, ↓dIsN, ↓dNotN, ↓isN, ↓dNeg, ↓dIx, ↓dInI, ↓dSl, ↓truD, ↓cLen, ↓cAbs, ↓cMax2, ↓cMin2, ↓cInt, ↓cTup, ↓cLst, ↓sv, ↓List.getD_cons_zero, ↓List.getD_cons_succ, ↓List.set_cons_zero, ↓List.set_cons_succ, ↓vxSeq, ↓vxIf, ↓vxRaise, ↓vxRet, ↓vxAsg, ↓vxCall, ↓vReason, ↓vEqS, ↓vIsi, ↓wR3, ↓wZip, ↓vSetDk, ↓vDkIn, ↓vDkPut, ↓vParE, ↓gL, ↓vxDrop, ↓cSrt, ↓cSum, ↓cMinD, ↓cAnyI, ↓vLenSet, ↓vLc2]
    refine ⟨mul_smallL ⟨by omega, by omega⟩, ?_⟩
    refine ih (at_ + 1) _ (by omega) (by omega) fun w hw hl => ?_
    have := h ((2 * (g % (2 * most + 1) - most) + half) :: w) (fun t ht => by
      rcases List.mem_cons.mp ht with z | z
      · exact ⟨_, z, by omega, by omega⟩
      · exact hw t z) (by rw [List.length_cons, List.length_cons, hl])
    rw [List.append_assoc]
    have e : at_ + 1 + (xs.length : Int) = at_ + ((d :: xs).length : Int) := by rw [List.length_cons]; omega
    rw [e]
    exact this
theorem hq__law_four (xs ds : List D) (Q : List D → D → Prop) (h : sp__law_four xs ds Q) : rd__law_four (endIO Q) (ev1 ["box", "most", "half", "k"] xs ds) := by
  obtain ⟨gs, at_, most, rfl, rfl, m1, m2, hg, h0, hl, h⟩ := h
  show rd__law_four _ [.ow [.list (gs.map .int), .int at_], .fr (.int most), .un, .un]
  obtain ⟨g, eg, g0, g1⟩ := get_dig hg (n := at_) h0 (by omega)
  simp only [↓rd__law_four, ↓vSeq, ↓vPar, ↓vPar3, ↓vSet, ↓vSetO, ↓vAsg, ↓vAug, ↓vAppend, ↓vExt, ↓vUnp, ↓vFz, ↓vRet, ↓vRetN, ↓vDrop, ↓vIfS, ↓vNext, ↓vBrk, ↓vCnt, ↓vNever, ↓vForS, ↓vC, ↓vVar, ↓vTup, ↓vOf, ↓vBin, ↓vBinL, ↓vBinR, ↓vUn, ↓vCall, ↓vCallO, ↓vCallIO, ↓vCallSC, ↓vLookA, ↓vB, ↓vTru, ↓vTruO, ↓vAnd, ↓vOr, ↓vNot, ↓vAndV, ↓vOrV, ↓vNotV, ↓vIf, ↓vChain, ↓vNil, ↓vCons, ↓vSl, ↓vSlL, ↓vP0, ↓vP1, ↓vRevT, ↓vRevL, ↓vRevLL, ↓vBits, ↓vPop, ↓vLc, ↓vTurn, ↓vYes, ↓gN, ↓gT, ↓gsC, ↓gs0, ↓gSet, ↓wL, ↓wT, ↓wR1, ↓wR2, ↓d2, ↓d20, ↓dAdd, ↓dMul, ↓dEq, ↓dNe, ↓dIsN, ↓dNotN, ↓isN, ↓dNeg, ↓dIx, ↓dInI, ↓dSl, ↓truD, ↓cLen, ↓cAbs, ↓cMax2, ↓cMin2, ↓cInt, ↓cTup, ↓cLst, ↓sv, ↓List.getD_cons_zero, ↓List.getD_cons_succ, ↓List.set_cons_zero, ↓List.set_cons_succ, ↓vxSeq, ↓vxIf, ↓vxRaise, ↓vxRet, ↓vxAsg, ↓vxCall, ↓vReason, ↓vEqS, ↓vIsi, ↓wR3, ↓wZip, ↓vSetDk, ↓vDkIn, ↓vDkPut, ↓vParE, ↓gL, ↓vxDrop, ↓cSrt, ↓cSum, ↓cMinD, ↓cAnyI, ↓vLenSet, ↓vLc2]
  refine ⟨gs, at_, 2, g, rfl, rfl, by omega, h0, eg, ?_⟩
  simp only [↓vSeq, ↓vPar, ↓vPar3, ↓vSet, ↓vSetO, ↓vAsg, ↓vAug, ↓vAppend, ↓vExt, ↓vUnp, ↓vFz, ↓vRet, ↓vRetN, ↓vDrop, ↓vIfS, ↓vNext, ↓vBrk, ↓vCnt, ↓vNever, ↓vForS, ↓vC, ↓vVar, ↓vTup, ↓vOf, ↓vBin, ↓vBinL, ↓vBinR, ↓vUn, ↓vCall, ↓vCallO, ↓vCallIO, ↓vCallSC, ↓vLookA, ↓vB, ↓vTru, ↓vTruO, ↓vAnd, ↓vOr, ↓vNot, ↓vAndV, ↓vOrV, ↓vNotV, ↓vIf, ↓vChain, ↓vNil, ↓vCons, ↓vSl, ↓vSlL, ↓vP0, ↓vP1, ↓vRevT, ↓vRevL, ↓vRevLL, ↓vBits, ↓vPop, ↓vLc, ↓vTurn, ↓vYes, ↓gN, ↓gT, ↓gsC, ↓gs0, ↓gSet, ↓wL, ↓wT, ↓wR1, ↓wR2, ↓d2, ↓d20, ↓dAdd, ↓dMul, ↓dEq, ↓dNe, ↓dIsN, ↓dNotN, ↓isN, ↓dNeg, ↓dIx, ↓dInI, ↓dSl, ↓truD, ↓cLen, ↓cAbs, ↓cMax2, ↓cMin2, ↓cInt, ↓cTup, ↓cLst, ↓sv, ↓List.getD_cons_zero, ↓List.getD_cons_succ, ↓List.set_cons_zero, ↓List.set_cons_succ, ↓vxSeq, ↓vxIf, ↓vxRaise, ↓vxRet, ↓vxAsg, ↓vxCall, ↓vReason, ↓vEqS, ↓vIsi, ↓wR3, ↓wZip, ↓vSetDk, ↓vDkIn, ↓vDkPut, ↓vParE, ↓gL, ↓vxDrop, ↓cSrt, ↓cSum, ↓cMinD, ↓cAnyI, ↓vLenSet, ↓vLc2]
  refine ⟨by decide, by rw [sizeLine_eq]; decide, fun i hi => ?_, comp_four _ gs hg most (g % 2) ⟨m1, m2⟩ (rngD 0 (Int.toNat 4)) (at_ + 1) [] (by omega) (by show at_ + 1 + 4 ≤ _; omega) fun w hw hwl => ?_⟩
  · obtain rfl : i = 3 := by simpa using hi
    exact id
  match w, hwl, hw with
  | [a, b, c, d], _, hw =>
    obtain ⟨a', ha, _, _⟩ := hw a (by simp); obtain ⟨b', hb, _, _⟩ := hw b (by simp); obtain ⟨c', hc, _, _⟩ := hw c (by simp); obtain ⟨d', hd, _, _⟩ := hw d (by simp)
    have := h ⟨a, b, c, d⟩ ⟨by dsimp only; omega, by dsimp only; omega, by dsimp only; omega⟩ ⟨by dsimp only; omega, by dsimp only; omega⟩ ⟨by dsimp only; omega, by dsimp only; omega⟩ ⟨by dsimp only; omega, by dsimp only; omega⟩ ⟨by dsimp only; omega, by dsimp only; omega⟩
    have e : at_ + 1 + ((rngD 0 (Int.toNat 4)).length : Int) = at_ + 5 := by show at_ + 1 + 4 = _; omega
    rw [e]
    exact this
/-! ### _law_times_four, _law_norm_four -/
theorem comp_lh (Q : List D → Ev → Prop) (x0 x1 x2 x3 x4 x5 x6 x7 x8 x9 x10 : SV) : ∀ (xs : List Int) (acc : List D), Q (acc ++ (xs.map fun x => x / 2).map .int) [x0, x1, x2, x3, x4, x5, x6, x7, x8, x9, x10, .un] → vComp rd__law_times_four_c1_g rd__law_times_four_c1_t rd__law_times_four_c1_e [11] Q (xs.map .int) [x0, x1, x2, x3, x4, x5, x6, x7, x8, x9, x10, .un] acc :=
  comp_half Q x0 x1 x2 x3 x4 x5 x6 x7 x8 x9 x10
theorem hq__law_times_four (ds : List D) (Q : D → Prop) (h : sp__law_times_four ds Q) : rd__law_times_four { nx := fun _ => Q .none, rt := fun d _ => Q d } (ev0 ["one", "other", "a", "b", "c", "d", "e", "f", "g", "h", "row", "number"] ds) := by
  obtain ⟨x, y, rfl, hx, bx, h⟩ := h
  show rd__law_times_four _ [.fr (qD x), .fr (qD y), .un, .un, .un, .un, .un, .un, .un, .un, .un, .un]
  obtain ⟨e1, e2, e3, e4⟩ := ent hx bx
  have m1 : ∀ z, mulOk x.a z := fun z => mul_smallL ⟨by omega, by omega⟩
  have m2 : ∀ z, mulOk x.b z := fun z => mul_smallL ⟨by omega, by omega⟩
  have m3 : ∀ z, mulOk x.c z := fun z => mul_smallL ⟨by omega, by omega⟩
  have m4 : ∀ z, mulOk x.d z := fun z => mul_smallL ⟨by omega, by omega⟩
  simp only [↓rd__law_times_four, qD, tI, List.map_cons, List.map_nil, ↓vSeq, ↓vPar, ↓vPar3, ↓vSet, ↓vSetO, ↓vAsg, ↓vAug, ↓vAppend, ↓vExt, ↓vUnp, ↓vFz, ↓vRet, ↓vRetN, ↓vDrop, ↓vIfS, ↓vNext, ↓vBrk, ↓vCnt, ↓vNever, ↓vForS, ↓vC, ↓vVar, ↓vTup, ↓vOf, ↓vBin, ↓vBinL, ↓vBinR, ↓vUn, ↓vCall, ↓vCallO, ↓vCallIO, ↓vCallSC, ↓vLookA, ↓vB, ↓vTru, ↓vTruO, ↓vAnd, ↓vOr, ↓vNot, ↓vAndV, ↓vOrV, ↓vNotV, ↓vIf, ↓vChain, ↓vNil, ↓vCons, ↓vSl, ↓vSlL, ↓vP0, ↓vP1, ↓vRevT, ↓vRevL, ↓vRevLL, ↓vBits, ↓vPop, ↓vLc, ↓vTurn, ↓vYes, ↓gN, ↓gT, ↓gsC, ↓gs0, ↓gSet, ↓wL, ↓wT, ↓wR1, ↓wR2, ↓d2, ↓d20, ↓dAdd, ↓dMul, ↓dEq, ↓dNe, ↓dIsN, ↓dNotN, ↓isN, ↓dNeg, ↓dIx, ↓dInI, ↓dSl, ↓truD, ↓cLen, ↓cAbs, ↓cMax2, ↓cMin2, ↓cInt, ↓cTup, ↓cLst, ↓sv, ↓List.getD_cons_zero, ↓List.getD_cons_succ, ↓List.set_cons_zero, ↓List.set_cons_succ, ↓vxSeq, ↓vxIf, ↓vxRaise, ↓vxRet, ↓vxAsg, ↓vxCall, ↓vReason, ↓vEqS, ↓vIsi, ↓wR3, ↓wZip, ↓vSetDk, ↓vDkIn, ↓vDkPut, ↓vParE, ↓gL, ↓vxDrop, ↓cSrt, ↓cSum, ↓cMinD, ↓cAnyI, ↓vLenSet, ↓vLc2, m1, m2, m3, m4, true_and, List.length_cons, List.length_nil]
  refine ⟨by rw [sizeLine_eq]; decide, fun i hi => ?_, comp_lh _ _ _ _ _ _ _ _ _ _ _ _ [(NQ.P x y).a, (NQ.P x y).b, (NQ.P x y).c, (NQ.P x y).d] [] ?_⟩
  · obtain rfl : i = 11 := by simpa using hi
    exact id
  · exact h
theorem hq__law_norm_four (ds : List D) (Q : D → Prop) (h : sp__law_norm_four ds Q) : rd__law_norm_four { nx := fun _ => Q .none, rt := fun d _ => Q d } (ev0 ["one", "number"] ds) := by
  obtain ⟨x, rfl, hx, bx, h⟩ := h
  show rd__law_norm_four _ [.fr (qD x), .un]
  obtain ⟨e1, e2, e3, e4⟩ := ent hx bx
  simp only [↓rd__law_norm_four, ↓vSeq, ↓vPar, ↓vPar3, ↓vSet, ↓vSetO, ↓vAsg, ↓vAug, ↓vAppend, ↓vExt, ↓vUnp, ↓vFz, ↓vRet, ↓vRetN, ↓vDrop, ↓vIfS, ↓vNext, ↓vBrk, ↓vCnt, ↓vNever, ↓vForS, ↓vC, ↓vVar, ↓vTup, ↓vOf, ↓vBin, ↓vBinL, ↓vBinR, ↓vUn, ↓vCall, ↓vCallO, ↓vCallIO, ↓vCallSC, ↓vLookA, ↓vB, ↓vTru, ↓vTruO, ↓vAnd, ↓vOr, ↓vNot, ↓vAndV, ↓vOrV, ↓vNotV, ↓vIf, ↓vChain, ↓vNil, ↓vCons, ↓vSl, ↓vSlL, ↓vP0, ↓vP1, ↓vRevT, ↓vRevL, ↓vRevLL, ↓vBits, ↓vPop, ↓vLc, ↓vTurn, ↓vYes, ↓gN, ↓gT, ↓gsC, ↓gs0, ↓gSet, ↓wL, ↓wT, ↓wR1, ↓wR2, ↓d2, ↓d20, ↓dAdd, ↓dMul, ↓dEq, ↓dNe, ↓dIsN, ↓dNotN, ↓isN, ↓dNeg, ↓dIx, ↓dInI, ↓dSl, ↓truD, ↓cLen, ↓cAbs, ↓cMax2, ↓cMin2, ↓cInt, ↓cTup, ↓cLst, ↓sv, ↓List.getD_cons_zero, ↓List.getD_cons_succ, ↓List.set_cons_zero, ↓List.set_cons_succ, ↓vxSeq, ↓vxIf, ↓vxRaise, ↓vxRet, ↓vxAsg, ↓vxCall, ↓vReason, ↓vEqS, ↓vIsi, ↓wR3, ↓wZip, ↓vSetDk, ↓vDkIn, ↓vDkPut, ↓vParE, ↓gL, ↓vxDrop, ↓cSrt, ↓cSum, ↓cMinD, ↓cAnyI, ↓vLenSet, ↓vLc2]
  simp only [qD, tI, ↓vSeq, ↓vPar, ↓vPar3, ↓vSet, ↓vSetO, ↓vAsg, ↓vAug, ↓vAppend, ↓vExt, ↓vUnp, ↓vFz, ↓vRet, ↓vRetN, ↓vDrop, ↓vIfS, ↓vNext, ↓vBrk, ↓vCnt, ↓vNever, ↓vForS, ↓vC, ↓vVar, ↓vTup, ↓vOf, ↓vBin, ↓vBinL, ↓vBinR, ↓vUn, ↓vCall, ↓vCallO, ↓vCallIO, ↓vCallSC, ↓vLookA, ↓vB, ↓vTru, ↓vTruO, ↓vAnd, ↓vOr, ↓vNot, ↓vAndV, ↓vOrV, ↓vNotV, ↓vIf, ↓vChain, ↓vNil, ↓vCons, ↓vSl, ↓vSlL, ↓vP0, ↓vP1, ↓vRevT, ↓vRevL, ↓vRevLL, ↓vBits, ↓vPop, ↓vLc, ↓vTurn, ↓vYes, ↓gN, ↓gT, ↓gsC, ↓gs0, ↓gSet, ↓wL, ↓wT, ↓wR1, ↓wR2, ↓d2, ↓d20, ↓dAdd, ↓dMul, ↓dEq, ↓dNe, ↓dIsN, ↓dNotN, ↓isN, ↓dNeg, ↓dIx, ↓dInI, ↓dSl, ↓truD, ↓cLen, ↓cAbs, ↓cMax2, ↓cMin2, ↓cInt, ↓cTup, ↓cLst, ↓sv, ↓List.getD_cons_zero, ↓List.getD_cons_succ, ↓List.set_cons_zero, ↓List.set_cons_succ, ↓vxSeq, ↓vxIf, ↓vxRaise, ↓vxRet, ↓vxAsg, ↓vxCall, ↓vReason, ↓vEqS, ↓vIsi, ↓wR3, ↓wZip, ↓vSetDk, ↓vDkIn, ↓vDkPut, ↓vParE, ↓gL, ↓vxDrop, ↓cSrt, ↓cSum, ↓cMinD, ↓cAnyI, ↓vLenSet, ↓vLc2]
  refine ⟨by rw [List.length_map, sizeLine_eq]; simp, fun i hi => ?_, comp_sqn _ _ [x.a, x.b, x.c, x.d] [] (fun t ht => ?_) ?_⟩
  · obtain rfl : i = 1 := by simpa using hi
    exact id
  · simp only [List.mem_cons, List.not_mem_nil, or_false] at ht
    unfold small; omega
  · have i4 := intsOf_map [x.a * x.a, x.b * x.b, x.c * x.c, x.d * x.d]
    simp only [List.map_cons, List.map_nil] at i4
    simp only [List.map_cons, List.map_nil, List.nil_append, ↓vSeq, ↓vPar, ↓vPar3, ↓vSet, ↓vSetO, ↓vAsg, ↓vAug, ↓vAppend, ↓vExt, ↓vUnp, ↓vFz, ↓vRet, ↓vRetN, ↓vDrop, ↓vIfS, ↓vNext, ↓vBrk, ↓vCnt, ↓vNever, ↓vForS, ↓vC, ↓vVar, ↓vTup, ↓vOf, ↓vBin, ↓vBinL, ↓vBinR, ↓vUn, ↓vCall, ↓vCallO, ↓vCallIO, ↓vCallSC, ↓vLookA, ↓vB, ↓vTru, ↓vTruO, ↓vAnd, ↓vOr, ↓vNot, ↓vAndV, ↓vOrV, ↓vNotV, ↓vIf, ↓vChain, ↓vNil, ↓vCons, ↓vSl, ↓vSlL, ↓vP0, ↓vP1, ↓vRevT, ↓vRevL, ↓vRevLL, ↓vBits, ↓vPop, ↓vLc, ↓vTurn, ↓vYes, ↓gN, ↓gT, ↓gsC, ↓gs0, ↓gSet, ↓wL, ↓wT, ↓wR1, ↓wR2, ↓d2, ↓d20, ↓dAdd, ↓dMul, ↓dEq, ↓dNe, ↓dIsN, ↓dNotN, ↓isN, ↓dNeg, ↓dIx, ↓dInI, ↓dSl, ↓truD, ↓cLen, ↓cAbs, ↓cMax2, ↓cMin2, ↓cInt, ↓cTup, ↓cLst, ↓sv, ↓List.getD_cons_zero, ↓List.getD_cons_succ, ↓List.set_cons_zero, ↓List.set_cons_succ, ↓vxSeq, ↓vxIf, ↓vxRaise, ↓vxRet, ↓vxAsg, ↓vxCall, ↓vReason, ↓vEqS, ↓vIsi, ↓wR3, ↓wZip, ↓vSetDk, ↓vDkIn, ↓vDkPut, ↓vParE, ↓gL, ↓vxDrop, ↓cSrt, ↓cSum, ↓cMinD, ↓cAnyI, ↓vLenSet, ↓vLc2, i4, sum_sq]
    exact ⟨div_small (by omega) ⟨by omega, by omega⟩, h⟩
end VL

set_option Elab.async false
set_option linter.all false
set_option maxRecDepth 1000000
set_option maxHeartbeats 8000000
set_option pp.deepTerms false
set_option pp.deepTerms.threshold 6
namespace VL
open PySem PySem.Spec PyProof.Rows L2 HD
open NQ (Qn Wh mul conj nm RD Near)
theorem rowQ_inj {x y : Qn} (h : rowQ x = rowQ y) : x = y := by
  unfold rowQ at h
  simp only [List.cons.injEq, and_true] at h
  exact NQ.ext h.1 h.2.1 h.2.2.1 h.2.2.2
theorem qD_eqv (x y : Qn) : PyData.eqv (qD x) (qD y) = decide (x = y) := by
  have := tI_eqv (rowQ x) (rowQ y)
  show PyData.eqv (tI (rowQ x)) (tI (rowQ y)) = _
  rw [this]
  by_cases c : x = y
  · rw [c]; simp
  · rw [decide_eq_false c, decide_eq_false fun z => c (rowQ_inj z)]
theorem qD_sh (x : Qn) : SeqAt.shaped (qD x) = true := tI_shaped (rowQ x)
theorem nil_eqv : PyData.eqv (.list []) (.list []) = true := eqv_same (d := .list []) (e := .list []) rfl rfl rfl
theorem nil_sh : SeqAt.shaped (.list []) = true := shaped_pl rfl (by simp [PyData.depth, PyData.depthAll])
theorem str_eqv (s : Str) : PyData.eqv (.str s) (.str s) = true := by simp [PyData.eqv]
theorem str_sh1 : SeqAt.shaped (.str (Str.ofString "quaternion")) = true := by simp [SeqAt.shaped, PyData.canLay0, PyData.depth]; decide +kernel
theorem str_sh2 : SeqAt.shaped (.str (Str.ofString "zero")) = true := by simp [SeqAt.shaped, PyData.canLay0, PyData.depth]; decide +kernel
theorem dNe_q (x y : Qn) (Q : D → Prop) : dNe (qD x) (qD y) Q = ((True ∧ True) ∧ Q (.bool (!decide (x = y)))) := by
  rw [← qD_eqv]
  show ((SeqAt.shaped (qD x) = true ∧ SeqAt.shaped (qD y) = true) ∧ Q (.bool (!PyData.eqv (qD x) (qD y)))) = _
  rw [qD_sh, qD_sh]; simp
theorem dNe_q0 (x : Qn) (Q : D → Prop) : dNe (qD x) (.tuple [.int 0, .int 0, .int 0, .int 0]) Q = ((True ∧ True) ∧ Q (.bool (!decide (x = NQ.zero)))) := dNe_q x NQ.zero Q

theorem comp_ev8 (Q : List D → Ev → Prop) (x0 x1 x2 x3 x4 x5 x6 x7 x8 x9 x10 x11 x12 x13 x14 x15 x16 x17 x18 x19 x20 x21 : SV) : ∀ (xs : List Int), (∀ x ∈ xs, x % 2 = 0) → Q [] [x0, x1, x2, x3, x4, x5, x6, x7, x8, x9, x10, x11, x12, x13, x14, x15, x16, x17, x18, x19, x20, x21, .un] → vComp rd_law_c8_g rd_law_c8_t rd_law_c8_e [22] Q (xs.map .int) [x0, x1, x2, x3, x4, x5, x6, x7, x8, x9, x10, x11, x12, x13, x14, x15, x16, x17, x18, x19, x20, x21, .un] [] := by
  intro xs
  induction xs with
  | nil => intro _ h; simpa [vComp] using h
  | cons x xs ih =>
    intro hx h
    rw [List.map_cons]
    show vTurn _ _ _ _ _ _ _ _
    have e := hx x List.mem_cons_self
    simp only [↓vTurn, ↓rd_law_c8_g, ↓rd_law_c8_t, ↓rd_law_c8_e, ↓wipeE, ↓vSeq, ↓vPar, ↓vPar3, ↓vSet, ↓vSetO, ↓vAsg, ↓vAug, ↓vAppend, ↓vExt, ↓vUnp, ↓vFz, ↓vRet, ↓vRetN, ↓vDrop, ↓vIfS, ↓vNext, ↓vBrk, ↓vCnt, ↓vNever, ↓vForS, ↓vC, ↓vVar, ↓vTup, ↓vOf, ↓vBin, ↓vBinL, ↓vBinR, ↓vUn, ↓vCall, ↓vCallO, ↓vCallIO, ↓vCallSC, ↓vLookA, ↓vB, ↓vTru, ↓vTruO, ↓vAnd, ↓vOr, ↓vNot, ↓vAndV, ↓vOrV, ↓vNotV, ↓vIf, ↓vChain, ↓vNil, ↓vCons, ↓vSl, ↓vSlL, ↓vP0, ↓vP1, ↓vRevT, ↓vRevL, ↓vRevLL, ↓vBits, ↓vPop, ↓vLc, ↓vTurn, ↓vYes, ↓gN, ↓gT, ↓gsC, ↓gs0, ↓gSet, ↓wL, ↓wT, ↓wR1, ↓wR2, ↓d2, ↓d20, ↓dAdd, ↓dMul, ↓dEq, ↓dNe, ↓dIsN, ↓dIsB, ↓dNotB, ↓dNotN, ↓isN, ↓dNeg, ↓dIx, ↓dInI, ↓dSl, ↓truD, ↓cLen, ↓cAbs, ↓cMax2, ↓cMin2, ↓cInt, ↓cTup, ↓cLst, ↓sv, ↓List.getD_cons_zero, ↓List.getD_cons_succ, ↓List.set_cons_zero, ↓List.set_cons_succ, ↓vxSeq, ↓vxIf, ↓vxRaise, ↓vxRet, ↓vxAsg, ↓vxCall, ↓vReason, ↓vEqS, ↓vIsi, ↓wR3, ↓wZip, ↓vSetDk, ↓vDkIn, ↓vDkPut, ↓vParE, ↓gL, ↓vxDrop, ↓cSrt, ↓cSum, ↓cMinD, ↓cAnyI, ↓vLenSet, ↓vLc2, back]
    refine ⟨by omega, ?_⟩
    have c0 : decide (x.fmod 2 = 1) = false := decide_eq_false (by rw [fmod_pos (by omega)]; omega)
    simp only [c0]
    exact ih (fun z hz => hx z (List.mem_cons_of_mem _ hz)) h
def pn : List Nat := [2, 3, 5, 7, 11, 13, 101]
theorem L14 (x : Qn) (hx : Wh x) (nx : nm x < 1000) (gs : List Int) (hg : digsOk gs) (at_ : Int) (h0 : 0 ≤ at_) (h1 : at_ < gs.length) (x0 x3 x4 x5 x6 x7 x8 x9 x10 x11 x12 x13 x14 x15 x16 x17 x18 x19 x20 x21 x22 : SV) :
    rd_law_k6_14 { nx := fun _ => False, rt := fun d _ => d = .bool true } [x0, .ow [.list (gs.map .int), .int at_], .fr (qD x), x3, x4, x5, x6, x7, x8, x9, x10, x11, x12, x13, x14, x15, x16, x17, x18, x19, x20, x21, x22] := by
  obtain ⟨g, eg, g0, g1⟩ := get_dig hg (n := at_) h0 h1
  simp only [↓rd_law_k6_14, ↓vSeq, ↓vPar, ↓vPar3, ↓vSet, ↓vSetO, ↓vAsg, ↓vAug, ↓vAppend, ↓vExt, ↓vUnp, ↓vFz, ↓vRet, ↓vRetN, ↓vDrop, ↓vIfS, ↓vNext, ↓vBrk, ↓vCnt, ↓vNever, ↓vForS, ↓vC, ↓vVar, ↓vTup, ↓vOf, ↓vBin, ↓vBinL, ↓vBinR, ↓vUn, ↓vCall, ↓vCallO, ↓vCallIO, ↓vCallSC, ↓vLookA, ↓vB, ↓vTru, ↓vTruO, ↓vAnd, ↓vOr, ↓vNot, ↓vAndV, ↓vOrV, ↓vNotV, ↓vIf, ↓vChain, ↓vNil, ↓vCons, ↓vSl, ↓vSlL, ↓vP0, ↓vP1, ↓vRevT, ↓vRevL, ↓vRevLL, ↓vBits, ↓vPop, ↓vLc, ↓vTurn, ↓vYes, ↓gN, ↓gT, ↓gsC, ↓gs0, ↓gSet, ↓wL, ↓wT, ↓wR1, ↓wR2, ↓d2, ↓d20, ↓dAdd, ↓dMul, ↓dEq, ↓dNe, ↓dIsN, ↓dIsB, ↓dNotB, ↓dNotN, ↓isN, ↓dNeg, ↓dIx, ↓dInI, ↓dSl, ↓truD, ↓cLen, ↓cAbs, ↓cMax2, ↓cMin2, ↓cInt, ↓cTup, ↓cLst, ↓sv, ↓List.getD_cons_zero, ↓List.getD_cons_succ, ↓List.set_cons_zero, ↓List.set_cons_succ, ↓vxSeq, ↓vxIf, ↓vxRaise, ↓vxRet, ↓vxAsg, ↓vxCall, ↓vReason, ↓vEqS, ↓vIsi, ↓wR3, ↓wZip, ↓vSetDk, ↓vDkIn, ↓vDkPut, ↓vParE, ↓gL, ↓vxDrop, ↓cSrt, ↓cSum, ↓cMinD, ↓cAnyI, ↓vLenSet, ↓vLc2]
  have lk : (g % 7).toNat < pn.length := by show _ < 7; omega
  have ep : pn[(g % 7).toNat]? = some pn[(g % 7).toNat] := List.getElem?_eq_getElem lk
  have p2 : ∀ p ∈ pn, p < 200 := by decide
  have p3 := p2 _ (List.getElem_mem lk)
  generalize pn[(g % 7).toNat] = p at ep p3
  refine ⟨gs, at_, g, pn.map fun p : Nat => PyData.int p, .int p, rfl, rfl, by decide, by decide, h0, eg, ?_, ?_⟩
  · show (pn.map fun p : Nat => PyData.int p)[(g % 7).toNat]? = _
    rw [List.getElem?_map, ep]; rfl
  simp only [↓rd_law_k6_15, ↓rd_law_k6_16, ↓rd_law_k6_17, ↓vSeq, ↓vPar, ↓vPar3, ↓vSet, ↓vSetO, ↓vAsg, ↓vAug, ↓vAppend, ↓vExt, ↓vUnp, ↓vFz, ↓vRet, ↓vRetN, ↓vDrop, ↓vIfS, ↓vNext, ↓vBrk, ↓vCnt, ↓vNever, ↓vForS, ↓vC, ↓vVar, ↓vTup, ↓vOf, ↓vBin, ↓vBinL, ↓vBinR, ↓vUn, ↓vCall, ↓vCallO, ↓vCallIO, ↓vCallSC, ↓vLookA, ↓vB, ↓vTru, ↓vTruO, ↓vAnd, ↓vOr, ↓vNot, ↓vAndV, ↓vOrV, ↓vNotV, ↓vIf, ↓vChain, ↓vNil, ↓vCons, ↓vSl, ↓vSlL, ↓vP0, ↓vP1, ↓vRevT, ↓vRevL, ↓vRevLL, ↓vBits, ↓vPop, ↓vLc, ↓vTurn, ↓vYes, ↓gN, ↓gT, ↓gsC, ↓gs0, ↓gSet, ↓wL, ↓wT, ↓wR1, ↓wR2, ↓d2, ↓d20, ↓dAdd, ↓dMul, ↓dEq, ↓dNe, ↓dIsN, ↓dIsB, ↓dNotB, ↓dNotN, ↓isN, ↓dNeg, ↓dIx, ↓dInI, ↓dSl, ↓truD, ↓cLen, ↓cAbs, ↓cMax2, ↓cMin2, ↓cInt, ↓cTup, ↓cLst, ↓sv, ↓List.getD_cons_zero, ↓List.getD_cons_succ, ↓List.set_cons_zero, ↓List.set_cons_succ, ↓vxSeq, ↓vxIf, ↓vxRaise, ↓vxRet, ↓vxAsg, ↓vxCall, ↓vReason, ↓vEqS, ↓vIsi, ↓wR3, ↓wZip, ↓vSetDk, ↓vDkIn, ↓vDkPut, ↓vParE, ↓gL, ↓vxDrop, ↓cSrt, ↓cSum, ↓cMinD, ↓cAnyI, ↓vLenSet, ↓vLc2]
  refine ⟨p, rfl, by omega, fun g hg ng => ⟨g, rfl, hg, by unfold big; omega, ?_⟩⟩
  simp only [ng, decide_true, Bool.not_true, ↓vSeq, ↓vPar, ↓vPar3, ↓vSet, ↓vSetO, ↓vAsg, ↓vAug, ↓vAppend, ↓vExt, ↓vUnp, ↓vFz, ↓vRet, ↓vRetN, ↓vDrop, ↓vIfS, ↓vNext, ↓vBrk, ↓vCnt, ↓vNever, ↓vForS, ↓vC, ↓vVar, ↓vTup, ↓vOf, ↓vBin, ↓vBinL, ↓vBinR, ↓vUn, ↓vCall, ↓vCallO, ↓vCallIO, ↓vCallSC, ↓vLookA, ↓vB, ↓vTru, ↓vTruO, ↓vAnd, ↓vOr, ↓vNot, ↓vAndV, ↓vOrV, ↓vNotV, ↓vIf, ↓vChain, ↓vNil, ↓vCons, ↓vSl, ↓vSlL, ↓vP0, ↓vP1, ↓vRevT, ↓vRevL, ↓vRevLL, ↓vBits, ↓vPop, ↓vLc, ↓vTurn, ↓vYes, ↓gN, ↓gT, ↓gsC, ↓gs0, ↓gSet, ↓wL, ↓wT, ↓wR1, ↓wR2, ↓d2, ↓d20, ↓dAdd, ↓dMul, ↓dEq, ↓dNe, ↓dIsN, ↓dIsB, ↓dNotB, ↓dNotN, ↓isN, ↓dNeg, ↓dIx, ↓dInI, ↓dSl, ↓truD, ↓cLen, ↓cAbs, ↓cMax2, ↓cMin2, ↓cInt, ↓cTup, ↓cLst, ↓sv, ↓List.getD_cons_zero, ↓List.getD_cons_succ, ↓List.set_cons_zero, ↓List.set_cons_succ, ↓vxSeq, ↓vxIf, ↓vxRaise, ↓vxRet, ↓vxAsg, ↓vxCall, ↓vReason, ↓vEqS, ↓vIsi, ↓wR3, ↓wZip, ↓vSetDk, ↓vDkIn, ↓vDkPut, ↓vParE, ↓gL, ↓vxDrop, ↓cSrt, ↓cSum, ↓cMinD, ↓cAnyI, ↓vLenSet, ↓vLc2]
  have w0 : decide (Wh ⟨1, 2, 1, 1⟩) = false := by decide
  refine ⟨⟨1, 2, 1, 1⟩, rfl, ?_⟩
  simp only [w0, ↓vSeq, ↓vPar, ↓vPar3, ↓vSet, ↓vSetO, ↓vAsg, ↓vAug, ↓vAppend, ↓vExt, ↓vUnp, ↓vFz, ↓vRet, ↓vRetN, ↓vDrop, ↓vIfS, ↓vNext, ↓vBrk, ↓vCnt, ↓vNever, ↓vForS, ↓vC, ↓vVar, ↓vTup, ↓vOf, ↓vBin, ↓vBinL, ↓vBinR, ↓vUn, ↓vCall, ↓vCallO, ↓vCallIO, ↓vCallSC, ↓vLookA, ↓vB, ↓vTru, ↓vTruO, ↓vAnd, ↓vOr, ↓vNot, ↓vAndV, ↓vOrV, ↓vNotV, ↓vIf, ↓vChain, ↓vNil, ↓vCons, ↓vSl, ↓vSlL, ↓vP0, ↓vP1, ↓vRevT, ↓vRevL, ↓vRevLL, ↓vBits, ↓vPop, ↓vLc, ↓vTurn, ↓vYes, ↓gN, ↓gT, ↓gsC, ↓gs0, ↓gSet, ↓wL, ↓wT, ↓wR1, ↓wR2, ↓d2, ↓d20, ↓dAdd, ↓dMul, ↓dEq, ↓dNe, ↓dIsN, ↓dIsB, ↓dNotB, ↓dNotN, ↓isN, ↓dNeg, ↓dIx, ↓dInI, ↓dSl, ↓truD, ↓cLen, ↓cAbs, ↓cMax2, ↓cMin2, ↓cInt, ↓cTup, ↓cLst, ↓sv, ↓List.getD_cons_zero, ↓List.getD_cons_succ, ↓List.set_cons_zero, ↓List.set_cons_succ, ↓vxSeq, ↓vxIf, ↓vxRaise, ↓vxRet, ↓vxAsg, ↓vxCall, ↓vReason, ↓vEqS, ↓vIsi, ↓wR3, ↓wZip, ↓vSetDk, ↓vDkIn, ↓vDkPut, ↓vParE, ↓gL, ↓vxDrop, ↓cSrt, ↓cSum, ↓cMinD, ↓cAnyI, ↓vLenSet, ↓vLc2, decide_true, Bool.not_true]
  refine ⟨⟨1, 2, 1, 1⟩, x, rfl, by decide, ?_⟩
  simp only [↓vSeq, ↓vPar, ↓vPar3, ↓vSet, ↓vSetO, ↓vAsg, ↓vAug, ↓vAppend, ↓vExt, ↓vUnp, ↓vFz, ↓vRet, ↓vRetN, ↓vDrop, ↓vIfS, ↓vNext, ↓vBrk, ↓vCnt, ↓vNever, ↓vForS, ↓vC, ↓vVar, ↓vTup, ↓vOf, ↓vBin, ↓vBinL, ↓vBinR, ↓vUn, ↓vCall, ↓vCallO, ↓vCallIO, ↓vCallSC, ↓vLookA, ↓vB, ↓vTru, ↓vTruO, ↓vAnd, ↓vOr, ↓vNot, ↓vAndV, ↓vOrV, ↓vNotV, ↓vIf, ↓vChain, ↓vNil, ↓vCons, ↓vSl, ↓vSlL, ↓vP0, ↓vP1, ↓vRevT, ↓vRevL, ↓vRevLL, ↓vBits, ↓vPop, ↓vLc, ↓vTurn, ↓vYes, ↓gN, ↓gT, ↓gsC, ↓gs0, ↓gSet, ↓wL, ↓wT, ↓wR1, ↓wR2, ↓d2, ↓d20, ↓dAdd, ↓dMul, ↓dEq, ↓dNe, ↓dIsN, ↓dIsB, ↓dNotB, ↓dNotN, ↓isN, ↓dNeg, ↓dIx, ↓dInI, ↓dSl, ↓truD, ↓cLen, ↓cAbs, ↓cMax2, ↓cMin2, ↓cInt, ↓cTup, ↓cLst, ↓sv, ↓List.getD_cons_zero, ↓List.getD_cons_succ, ↓List.set_cons_zero, ↓List.set_cons_succ, ↓vxSeq, ↓vxIf, ↓vxRaise, ↓vxRet, ↓vxAsg, ↓vxCall, ↓vReason, ↓vEqS, ↓vIsi, ↓wR3, ↓wZip, ↓vSetDk, ↓vDkIn, ↓vDkPut, ↓vParE, ↓gL, ↓vxDrop, ↓cSrt, ↓cSum, ↓cMinD, ↓cAnyI, ↓vLenSet, ↓vLc2, str_eqv, str_sh1, str_sh2, Bool.not_true, true_and, dropOw, List.map_cons, List.map_nil, dropS]
  refine ⟨x, rfl, hx, ?_⟩
  simp only [↓vSeq, ↓vPar, ↓vPar3, ↓vSet, ↓vSetO, ↓vAsg, ↓vAug, ↓vAppend, ↓vExt, ↓vUnp, ↓vFz, ↓vRet, ↓vRetN, ↓vDrop, ↓vIfS, ↓vNext, ↓vBrk, ↓vCnt, ↓vNever, ↓vForS, ↓vC, ↓vVar, ↓vTup, ↓vOf, ↓vBin, ↓vBinL, ↓vBinR, ↓vUn, ↓vCall, ↓vCallO, ↓vCallIO, ↓vCallSC, ↓vLookA, ↓vB, ↓vTru, ↓vTruO, ↓vAnd, ↓vOr, ↓vNot, ↓vAndV, ↓vOrV, ↓vNotV, ↓vIf, ↓vChain, ↓vNil, ↓vCons, ↓vSl, ↓vSlL, ↓vP0, ↓vP1, ↓vRevT, ↓vRevL, ↓vRevLL, ↓vBits, ↓vPop, ↓vLc, ↓vTurn, ↓vYes, ↓gN, ↓gT, ↓gsC, ↓gs0, ↓gSet, ↓wL, ↓wT, ↓wR1, ↓wR2, ↓d2, ↓d20, ↓dAdd, ↓dMul, ↓dEq, ↓dNe, ↓dIsN, ↓dIsB, ↓dNotB, ↓dNotN, ↓isN, ↓dNeg, ↓dIx, ↓dInI, ↓dSl, ↓truD, ↓cLen, ↓cAbs, ↓cMax2, ↓cMin2, ↓cInt, ↓cTup, ↓cLst, ↓sv, ↓List.getD_cons_zero, ↓List.getD_cons_succ, ↓List.set_cons_zero, ↓List.set_cons_succ, ↓vxSeq, ↓vxIf, ↓vxRaise, ↓vxRet, ↓vxAsg, ↓vxCall, ↓vReason, ↓vEqS, ↓vIsi, ↓wR3, ↓wZip, ↓vSetDk, ↓vDkIn, ↓vDkPut, ↓vParE, ↓gL, ↓vxDrop, ↓cSrt, ↓cSum, ↓cMinD, ↓cAnyI, ↓vLenSet, ↓vLc2, str_eqv, str_sh1, str_sh2, Bool.not_true, true_and, dropOw, List.map_cons, List.map_nil, dropS]
theorem L12 (x : Qn) (hx : Wh x) (nx : nm x < 1000) (gs : List Int) (hd : digsOk gs) (at_ : Int) (h0 : 0 ≤ at_) (h1 : at_ < gs.length) (x0 x3 x4 x5 x6 x7 x8 x9 x10 x11 x12 x13 x14 x15 x16 x17 x18 x19 x20 x21 : SV) :
    rd_law_k6_12 { nx := fun _ => False, rt := fun d _ => d = .bool true } [x0, .ow [.list (gs.map .int), .int at_], .fr (qD x), x3, x4, x5, x6, x7, x8, x9, x10, x11, x12, x13, x14, x15, x16, x17, x18, x19, x20, x21, .un] := by
  have lb : big = 18014398509481984 := rfl
  simp only [↓rd_law_k6_12, ↓vSeq, ↓vPar, ↓vPar3, ↓vSet, ↓vSetO, ↓vAsg, ↓vAug, ↓vAppend, ↓vExt, ↓vUnp, ↓vFz, ↓vRet, ↓vRetN, ↓vDrop, ↓vIfS, ↓vNext, ↓vBrk, ↓vCnt, ↓vNever, ↓vForS, ↓vC, ↓vVar, ↓vTup, ↓vOf, ↓vBin, ↓vBinL, ↓vBinR, ↓vUn, ↓vCall, ↓vCallO, ↓vCallIO, ↓vCallSC, ↓vLookA, ↓vB, ↓vTru, ↓vTruO, ↓vAnd, ↓vOr, ↓vNot, ↓vAndV, ↓vOrV, ↓vNotV, ↓vIf, ↓vChain, ↓vNil, ↓vCons, ↓vSl, ↓vSlL, ↓vP0, ↓vP1, ↓vRevT, ↓vRevL, ↓vRevLL, ↓vBits, ↓vPop, ↓vLc, ↓vTurn, ↓vYes, ↓gN, ↓gT, ↓gsC, ↓gs0, ↓gSet, ↓wL, ↓wT, ↓wR1, ↓wR2, ↓d2, ↓d20, ↓dAdd, ↓dMul, ↓dEq, ↓dNe, ↓dIsN, ↓dIsB, ↓dNotB, ↓dNotN, ↓isN, ↓dNeg, ↓dIx, ↓dInI, ↓dSl, ↓truD, ↓cLen, ↓cAbs, ↓cMax2, ↓cMin2, ↓cInt, ↓cTup, ↓cLst, ↓sv, ↓List.getD_cons_zero, ↓List.getD_cons_succ, ↓List.set_cons_zero, ↓List.set_cons_succ, ↓vxSeq, ↓vxIf, ↓vxRaise, ↓vxRet, ↓vxAsg, ↓vxCall, ↓vReason, ↓vEqS, ↓vIsi, ↓wR3, ↓wZip, ↓vSetDk, ↓vDkIn, ↓vDkPut, ↓vParE, ↓gL, ↓vxDrop, ↓cSrt, ↓cSum, ↓cMinD, ↓cAnyI, ↓vLenSet, ↓vLc2]
  refine ⟨x, rfl, hx, by omega, fun g hg ev en => ?_⟩
  simp only [↓rd_law_k6_13, qD, tI, ↓vSeq, ↓vPar, ↓vPar3, ↓vSet, ↓vSetO, ↓vAsg, ↓vAug, ↓vAppend, ↓vExt, ↓vUnp, ↓vFz, ↓vRet, ↓vRetN, ↓vDrop, ↓vIfS, ↓vNext, ↓vBrk, ↓vCnt, ↓vNever, ↓vForS, ↓vC, ↓vVar, ↓vTup, ↓vOf, ↓vBin, ↓vBinL, ↓vBinR, ↓vUn, ↓vCall, ↓vCallO, ↓vCallIO, ↓vCallSC, ↓vLookA, ↓vB, ↓vTru, ↓vTruO, ↓vAnd, ↓vOr, ↓vNot, ↓vAndV, ↓vOrV, ↓vNotV, ↓vIf, ↓vChain, ↓vNil, ↓vCons, ↓vSl, ↓vSlL, ↓vP0, ↓vP1, ↓vRevT, ↓vRevL, ↓vRevLL, ↓vBits, ↓vPop, ↓vLc, ↓vTurn, ↓vYes, ↓gN, ↓gT, ↓gsC, ↓gs0, ↓gSet, ↓wL, ↓wT, ↓wR1, ↓wR2, ↓d2, ↓d20, ↓dAdd, ↓dMul, ↓dEq, ↓dNe, ↓dIsN, ↓dIsB, ↓dNotB, ↓dNotN, ↓isN, ↓dNeg, ↓dIx, ↓dInI, ↓dSl, ↓truD, ↓cLen, ↓cAbs, ↓cMax2, ↓cMin2, ↓cInt, ↓cTup, ↓cLst, ↓sv, ↓List.getD_cons_zero, ↓List.getD_cons_succ, ↓List.set_cons_zero, ↓List.set_cons_succ, ↓vxSeq, ↓vxIf, ↓vxRaise, ↓vxRet, ↓vxAsg, ↓vxCall, ↓vReason, ↓vEqS, ↓vIsi, ↓wR3, ↓wZip, ↓vSetDk, ↓vDkIn, ↓vDkPut, ↓vParE, ↓gL, ↓vxDrop, ↓cSrt, ↓cSum, ↓cMinD, ↓cAnyI, ↓vLenSet, ↓vLc2]
  have w1 := hg
  obtain ⟨w1, w2, w3⟩ := w1
  refine ⟨by rw [sizeLine_eq, List.length_map]; simp, fun i hi => ?_, comp_ev8 _ _ _ _ _ _ _ _ _ _ _ _ _ _ _ _ _ _ _ _ _ _ _ [g.a, g.b, g.c, g.d] (fun z hz => ?_) ?_⟩
  · obtain rfl : i = 22 := by simpa using hi
    exact id
  · simp only [List.mem_cons, List.not_mem_nil, or_false] at hz
    omega
  simp only [↓vSeq, ↓vPar, ↓vPar3, ↓vSet, ↓vSetO, ↓vAsg, ↓vAug, ↓vAppend, ↓vExt, ↓vUnp, ↓vFz, ↓vRet, ↓vRetN, ↓vDrop, ↓vIfS, ↓vNext, ↓vBrk, ↓vCnt, ↓vNever, ↓vForS, ↓vC, ↓vVar, ↓vTup, ↓vOf, ↓vBin, ↓vBinL, ↓vBinR, ↓vUn, ↓vCall, ↓vCallO, ↓vCallIO, ↓vCallSC, ↓vLookA, ↓vB, ↓vTru, ↓vTruO, ↓vAnd, ↓vOr, ↓vNot, ↓vAndV, ↓vOrV, ↓vNotV, ↓vIf, ↓vChain, ↓vNil, ↓vCons, ↓vSl, ↓vSlL, ↓vP0, ↓vP1, ↓vRevT, ↓vRevL, ↓vRevLL, ↓vBits, ↓vPop, ↓vLc, ↓vTurn, ↓vYes, ↓gN, ↓gT, ↓gsC, ↓gs0, ↓gSet, ↓wL, ↓wT, ↓wR1, ↓wR2, ↓d2, ↓d20, ↓dAdd, ↓dMul, ↓dEq, ↓dNe, ↓dIsN, ↓dIsB, ↓dNotB, ↓dNotN, ↓isN, ↓dNeg, ↓dIx, ↓dInI, ↓dSl, ↓truD, ↓cLen, ↓cAbs, ↓cMax2, ↓cMin2, ↓cInt, ↓cTup, ↓cLst, ↓sv, ↓List.getD_cons_zero, ↓List.getD_cons_succ, ↓List.set_cons_zero, ↓List.set_cons_succ, ↓vxSeq, ↓vxIf, ↓vxRaise, ↓vxRet, ↓vxAsg, ↓vxCall, ↓vReason, ↓vEqS, ↓vIsi, ↓wR3, ↓wZip, ↓vSetDk, ↓vDkIn, ↓vDkPut, ↓vParE, ↓gL, ↓vxDrop, ↓cSrt, ↓cSum, ↓cMinD, ↓cAnyI, ↓vLenSet, ↓vLc2, nil_eqv, nil_sh, Bool.not_true, true_and]
  refine ⟨g, rfl, hg, by omega, x, rfl, hx, by omega, ?_⟩
  simp only [↓vSeq, ↓vPar, ↓vPar3, ↓vSet, ↓vSetO, ↓vAsg, ↓vAug, ↓vAppend, ↓vExt, ↓vUnp, ↓vFz, ↓vRet, ↓vRetN, ↓vDrop, ↓vIfS, ↓vNext, ↓vBrk, ↓vCnt, ↓vNever, ↓vForS, ↓vC, ↓vVar, ↓vTup, ↓vOf, ↓vBin, ↓vBinL, ↓vBinR, ↓vUn, ↓vCall, ↓vCallO, ↓vCallIO, ↓vCallSC, ↓vLookA, ↓vB, ↓vTru, ↓vTruO, ↓vAnd, ↓vOr, ↓vNot, ↓vAndV, ↓vOrV, ↓vNotV, ↓vIf, ↓vChain, ↓vNil, ↓vCons, ↓vSl, ↓vSlL, ↓vP0, ↓vP1, ↓vRevT, ↓vRevL, ↓vRevLL, ↓vBits, ↓vPop, ↓vLc, ↓vTurn, ↓vYes, ↓gN, ↓gT, ↓gsC, ↓gs0, ↓gSet, ↓wL, ↓wT, ↓wR1, ↓wR2, ↓d2, ↓d20, ↓dAdd, ↓dMul, ↓dEq, ↓dNe, ↓dIsN, ↓dIsB, ↓dNotB, ↓dNotN, ↓isN, ↓dNeg, ↓dIx, ↓dInI, ↓dSl, ↓truD, ↓cLen, ↓cAbs, ↓cMax2, ↓cMin2, ↓cInt, ↓cTup, ↓cLst, ↓sv, ↓List.getD_cons_zero, ↓List.getD_cons_succ, ↓List.set_cons_zero, ↓List.set_cons_succ, ↓vxSeq, ↓vxIf, ↓vxRaise, ↓vxRet, ↓vxAsg, ↓vxCall, ↓vReason, ↓vEqS, ↓vIsi, ↓wR3, ↓wZip, ↓vSetDk, ↓vDkIn, ↓vDkPut, ↓vParE, ↓gL, ↓vxDrop, ↓cSrt, ↓cSum, ↓cMinD, ↓cAnyI, ↓vLenSet, ↓vLc2, en, decide_true, Bool.not_true]
  exact L14 x hx nx gs hd at_ h0 h1 _ _ _ _ _ _ _ _ _ _ _ _ _ _ _ _ _ _ _ _ _
end VL

set_option Elab.async false
set_option linter.all false
set_option maxRecDepth 1000000
set_option maxHeartbeats 8000000
set_option pp.deepTerms false
set_option pp.deepTerms.threshold 6
namespace NQ
theorem nm_fold : ∀ (fs : List Qn) (w : Qn), Wh w → (∀ f ∈ fs, Wh f ∧ 1 ≤ nm f) → Wh (fs.foldl mul w) ∧ nm w ≤ nm (fs.foldl mul w)
  | [], w, hw, _ => ⟨hw, Int.le_refl _⟩
  | f :: fs, w, hw, hf => by
    obtain ⟨h1, h2⟩ := hf f List.mem_cons_self
    obtain ⟨h3, h4⟩ := nm_fold fs (mul w f) (wh_mul hw h1) fun g hg => hf g (List.mem_cons_of_mem _ hg)
    refine ⟨h3, Int.le_trans ?_ h4⟩
    rw [nm_mul hw h1]
    have := Int.mul_le_mul_of_nonneg_left h2 (nm0 w)
    omega
end NQ
namespace VL
open PySem PySem.Spec PyProof.Rows L2 HD
open NQ (Qn Wh mul conj nm RD Near)

theorem loop_l6 (Z : VEnds) (x0 x1 x2 x3 x4 x5 x6 x7 x8 x9 x10 x11 x13 x14 x15 x18 x19 x20 x21 x22 : SV) : ∀ (fs : List Qn) (w : Qn) (acc : List D) (s : SV), Wh w → (∀ f ∈ fs, Wh f ∧ 1 ≤ nm f ∧ nm f < 1000) → nm (fs.foldl mul w) < 1000 → acc.length + fs.length ≤ 1000 →
    (∀ s, Z.nx [x0, x1, x2, x3, x4, x5, x6, x7, x8, x9, x10, x11, s, x13, x14, x15, .fr (qD (fs.foldl mul w)), .ow (acc ++ fs.map fun f => PyData.int (nm f)), x18, x19, x20, x21, x22]) →
    vFor rd_law_f6g rd_law_f6b Z (fs.map qD) [x0, x1, x2, x3, x4, x5, x6, x7, x8, x9, x10, x11, s, x13, x14, x15, .fr (qD w), .ow acc, x18, x19, x20, x21, x22] := by
  intro fs
  induction fs with
  | nil => intro w acc s _ _ _ _ h; have := h s; simpa [vFor_nil] using this
  | cons f fs ih =>
    intro w acc s hw hf hn hl h
    rw [List.map_cons, vFor_cons]
    generalize hW : vFor rd_law_f6g rd_law_f6b Z (fs.map qD) = W
    obtain ⟨h1, h2, h3⟩ := hf f List.mem_cons_self
    obtain ⟨_, q⟩ := NQ.nm_fold (f :: fs) w hw fun g hg => ⟨(hf g hg).1, (hf g hg).2.1⟩
    have lb : big = 18014398509481984 := rfl
    rw [List.length_cons] at hl
    simp only [↓rd_law_f6g, ↓rd_law_f6b, ↓rd_law_k4_1, ↓vSeq, ↓vPar, ↓vPar3, ↓vSet, ↓vSetO, ↓vAsg, ↓vAug, ↓vAppend, ↓vExt, ↓vUnp, ↓vFz, ↓vRet, ↓vRetN, ↓vDrop, ↓vIfS, ↓vNext, ↓vBrk, ↓vCnt, ↓vNever, ↓vForS, ↓vC, ↓vVar, ↓vTup, ↓vOf, ↓vBin, ↓vBinL, ↓vBinR, ↓vUn, ↓vCall, ↓vCallO, ↓vCallIO, ↓vCallSC, ↓vLookA, ↓vB, ↓vTru, ↓vTruO, ↓vAnd, ↓vOr, ↓vNot, ↓vAndV, ↓vOrV, ↓vNotV, ↓vIf, ↓vChain, ↓vNil, ↓vCons, ↓vSl, ↓vSlL, ↓vP0, ↓vP1, ↓vRevT, ↓vRevL, ↓vRevLL, ↓vBits, ↓vPop, ↓vLc, ↓vTurn, ↓vYes, ↓gN, ↓gT, ↓gsC, ↓gs0, ↓gSet, ↓wL, ↓wT, ↓wR1, ↓wR2, ↓d2, ↓d20, ↓dAdd, ↓dMul, ↓dEq, ↓dNe, ↓dIsN, ↓dIsB, ↓dNotB, ↓dNotN, ↓isN, ↓dNeg, ↓dIx, ↓dInI, ↓dSl, ↓truD, ↓cLen, ↓cAbs, ↓cMax2, ↓cMin2, ↓cInt, ↓cTup, ↓cLst, ↓sv, ↓List.getD_cons_zero, ↓List.getD_cons_succ, ↓List.set_cons_zero, ↓List.set_cons_succ, ↓vxSeq, ↓vxIf, ↓vxRaise, ↓vxRet, ↓vxAsg, ↓vxCall, ↓vReason, ↓vEqS, ↓vIsi, ↓wR3, ↓wZip, ↓vSetDk, ↓vDkIn, ↓vDkPut, ↓vParE, ↓gL, ↓vxDrop, ↓cSrt, ↓cSum, ↓cMinD, ↓cAnyI, ↓vLenSet, ↓vLc2]
    refine ⟨w, f, rfl, hw, by omega, ?_⟩
    simp only [↓vSeq, ↓vPar, ↓vPar3, ↓vSet, ↓vSetO, ↓vAsg, ↓vAug, ↓vAppend, ↓vExt, ↓vUnp, ↓vFz, ↓vRet, ↓vRetN, ↓vDrop, ↓vIfS, ↓vNext, ↓vBrk, ↓vCnt, ↓vNever, ↓vForS, ↓vC, ↓vVar, ↓vTup, ↓vOf, ↓vBin, ↓vBinL, ↓vBinR, ↓vUn, ↓vCall, ↓vCallO, ↓vCallIO, ↓vCallSC, ↓vLookA, ↓vB, ↓vTru, ↓vTruO, ↓vAnd, ↓vOr, ↓vNot, ↓vAndV, ↓vOrV, ↓vNotV, ↓vIf, ↓vChain, ↓vNil, ↓vCons, ↓vSl, ↓vSlL, ↓vP0, ↓vP1, ↓vRevT, ↓vRevL, ↓vRevLL, ↓vBits, ↓vPop, ↓vLc, ↓vTurn, ↓vYes, ↓gN, ↓gT, ↓gsC, ↓gs0, ↓gSet, ↓wL, ↓wT, ↓wR1, ↓wR2, ↓d2, ↓d20, ↓dAdd, ↓dMul, ↓dEq, ↓dNe, ↓dIsN, ↓dIsB, ↓dNotB, ↓dNotN, ↓isN, ↓dNeg, ↓dIx, ↓dInI, ↓dSl, ↓truD, ↓cLen, ↓cAbs, ↓cMax2, ↓cMin2, ↓cInt, ↓cTup, ↓cLst, ↓sv, ↓List.getD_cons_zero, ↓List.getD_cons_succ, ↓List.set_cons_zero, ↓List.set_cons_succ, ↓vxSeq, ↓vxIf, ↓vxRaise, ↓vxRet, ↓vxAsg, ↓vxCall, ↓vReason, ↓vEqS, ↓vIsi, ↓wR3, ↓wZip, ↓vSetDk, ↓vDkIn, ↓vDkPut, ↓vParE, ↓gL, ↓vxDrop, ↓cSrt, ↓cSum, ↓cMinD, ↓cAnyI, ↓vLenSet, ↓vLc2]
    refine ⟨f, rfl, h1, by omega, ?_⟩
    simp only [↓vSeq, ↓vPar, ↓vPar3, ↓vSet, ↓vSetO, ↓vAsg, ↓vAug, ↓vAppend, ↓vExt, ↓vUnp, ↓vFz, ↓vRet, ↓vRetN, ↓vDrop, ↓vIfS, ↓vNext, ↓vBrk, ↓vCnt, ↓vNever, ↓vForS, ↓vC, ↓vVar, ↓vTup, ↓vOf, ↓vBin, ↓vBinL, ↓vBinR, ↓vUn, ↓vCall, ↓vCallO, ↓vCallIO, ↓vCallSC, ↓vLookA, ↓vB, ↓vTru, ↓vTruO, ↓vAnd, ↓vOr, ↓vNot, ↓vAndV, ↓vOrV, ↓vNotV, ↓vIf, ↓vChain, ↓vNil, ↓vCons, ↓vSl, ↓vSlL, ↓vP0, ↓vP1, ↓vRevT, ↓vRevL, ↓vRevLL, ↓vBits, ↓vPop, ↓vLc, ↓vTurn, ↓vYes, ↓gN, ↓gT, ↓gsC, ↓gs0, ↓gSet, ↓wL, ↓wT, ↓wR1, ↓wR2, ↓d2, ↓d20, ↓dAdd, ↓dMul, ↓dEq, ↓dNe, ↓dIsN, ↓dIsB, ↓dNotB, ↓dNotN, ↓isN, ↓dNeg, ↓dIx, ↓dInI, ↓dSl, ↓truD, ↓cLen, ↓cAbs, ↓cMax2, ↓cMin2, ↓cInt, ↓cTup, ↓cLst, ↓sv, ↓List.getD_cons_zero, ↓List.getD_cons_succ, ↓List.set_cons_zero, ↓List.set_cons_succ, ↓vxSeq, ↓vxIf, ↓vxRaise, ↓vxRet, ↓vxAsg, ↓vxCall, ↓vReason, ↓vEqS, ↓vIsi, ↓wR3, ↓wZip, ↓vSetDk, ↓vDkIn, ↓vDkPut, ↓vParE, ↓gL, ↓vxDrop, ↓cSrt, ↓cSum, ↓cMinD, ↓cAnyI, ↓vLenSet, ↓vLc2]
    refine ⟨by rw [sizeLine_eq]; omega, ?_⟩
    rw [← hW]
    refine ih (mul w f) _ _ (NQ.wh_mul hw h1) (fun g hg => hf g (List.mem_cons_of_mem _ hg)) hn (by simp; omega) fun s => ?_
    rw [List.append_assoc]
    exact h s
theorem comp_l7 (Q : List D → Ev → Prop) (x0 x1 x2 x3 x4 x5 x6 x7 x8 x9 x10 x11 x12 x13 x14 x15 x16 x17 x18 x19 x20 x22 : SV) : ∀ (ps : List Nat), (∀ p ∈ ps, NT.Pr p ∧ p < 1000) → Q [] [x0, x1, x2, x3, x4, x5, x6, x7, x8, x9, x10, x11, x12, x13, x14, x15, x16, x17, x18, x19, x20, .un, x22] → vComp rd_law_c7_g rd_law_c7_t rd_law_c7_e [21] Q (ps.map fun p : Nat => PyData.int p) [x0, x1, x2, x3, x4, x5, x6, x7, x8, x9, x10, x11, x12, x13, x14, x15, x16, x17, x18, x19, x20, .un, x22] [] := by
  intro xs
  induction xs with
  | nil => intro _ h; simpa [vComp] using h
  | cons x xs ih =>
    intro hx h
    rw [List.map_cons]
    show vTurn _ _ _ _ _ _ _ _
    obtain ⟨h1, h2⟩ := hx x List.mem_cons_self
    simp only [↓vTurn, ↓rd_law_c7_g, ↓rd_law_c7_t, ↓rd_law_c7_e, ↓wipeE, ↓vSeq, ↓vPar, ↓vPar3, ↓vSet, ↓vSetO, ↓vAsg, ↓vAug, ↓vAppend, ↓vExt, ↓vUnp, ↓vFz, ↓vRet, ↓vRetN, ↓vDrop, ↓vIfS, ↓vNext, ↓vBrk, ↓vCnt, ↓vNever, ↓vForS, ↓vC, ↓vVar, ↓vTup, ↓vOf, ↓vBin, ↓vBinL, ↓vBinR, ↓vUn, ↓vCall, ↓vCallO, ↓vCallIO, ↓vCallSC, ↓vLookA, ↓vB, ↓vTru, ↓vTruO, ↓vAnd, ↓vOr, ↓vNot, ↓vAndV, ↓vOrV, ↓vNotV, ↓vIf, ↓vChain, ↓vNil, ↓vCons, ↓vSl, ↓vSlL, ↓vP0, ↓vP1, ↓vRevT, ↓vRevL, ↓vRevLL, ↓vBits, ↓vPop, ↓vLc, ↓vTurn, ↓vYes, ↓gN, ↓gT, ↓gsC, ↓gs0, ↓gSet, ↓wL, ↓wT, ↓wR1, ↓wR2, ↓d2, ↓d20, ↓dAdd, ↓dMul, ↓dEq, ↓dNe, ↓dIsN, ↓dIsB, ↓dNotB, ↓dNotN, ↓isN, ↓dNeg, ↓dIx, ↓dInI, ↓dSl, ↓truD, ↓cLen, ↓cAbs, ↓cMax2, ↓cMin2, ↓cInt, ↓cTup, ↓cLst, ↓sv, ↓List.getD_cons_zero, ↓List.getD_cons_succ, ↓List.set_cons_zero, ↓List.set_cons_succ, ↓vxSeq, ↓vxIf, ↓vxRaise, ↓vxRet, ↓vxAsg, ↓vxCall, ↓vReason, ↓vEqS, ↓vIsi, ↓wR3, ↓wZip, ↓vSetDk, ↓vDkIn, ↓vDkPut, ↓vParE, ↓gL, ↓vxDrop, ↓cSrt, ↓cSum, ↓cMinD, ↓cAnyI, ↓vLenSet, ↓vLc2, back]
    refine ⟨x, rfl, h1, by omega, ?_⟩
    have e1 : PyData.eqv (.list [.int x]) (.list [.int x]) = true := eqv_same (d := .list [.int x]) (e := .list [.int x]) rfl rfl rfl
    have e2 : SeqAt.shaped (.list [.int x]) = true := shaped_pl rfl (by simp [PyData.depth, PyData.depthAll])
    simp only [tL, List.map_cons, List.map_nil, ↓vSeq, ↓vPar, ↓vPar3, ↓vSet, ↓vSetO, ↓vAsg, ↓vAug, ↓vAppend, ↓vExt, ↓vUnp, ↓vFz, ↓vRet, ↓vRetN, ↓vDrop, ↓vIfS, ↓vNext, ↓vBrk, ↓vCnt, ↓vNever, ↓vForS, ↓vC, ↓vVar, ↓vTup, ↓vOf, ↓vBin, ↓vBinL, ↓vBinR, ↓vUn, ↓vCall, ↓vCallO, ↓vCallIO, ↓vCallSC, ↓vLookA, ↓vB, ↓vTru, ↓vTruO, ↓vAnd, ↓vOr, ↓vNot, ↓vAndV, ↓vOrV, ↓vNotV, ↓vIf, ↓vChain, ↓vNil, ↓vCons, ↓vSl, ↓vSlL, ↓vP0, ↓vP1, ↓vRevT, ↓vRevL, ↓vRevLL, ↓vBits, ↓vPop, ↓vLc, ↓vTurn, ↓vYes, ↓gN, ↓gT, ↓gsC, ↓gs0, ↓gSet, ↓wL, ↓wT, ↓wR1, ↓wR2, ↓d2, ↓d20, ↓dAdd, ↓dMul, ↓dEq, ↓dNe, ↓dIsN, ↓dIsB, ↓dNotB, ↓dNotN, ↓isN, ↓dNeg, ↓dIx, ↓dInI, ↓dSl, ↓truD, ↓cLen, ↓cAbs, ↓cMax2, ↓cMin2, ↓cInt, ↓cTup, ↓cLst, ↓sv, ↓List.getD_cons_zero, ↓List.getD_cons_succ, ↓List.set_cons_zero, ↓List.set_cons_succ, ↓vxSeq, ↓vxIf, ↓vxRaise, ↓vxRet, ↓vxAsg, ↓vxCall, ↓vReason, ↓vEqS, ↓vIsi, ↓wR3, ↓wZip, ↓vSetDk, ↓vDkIn, ↓vDkPut, ↓vParE, ↓gL, ↓vxDrop, ↓cSrt, ↓cSum, ↓cMinD, ↓cAnyI, ↓vLenSet, ↓vLc2, e1, e2, Bool.not_true, true_and]
    exact ih (fun z hz => hx z (List.mem_cons_of_mem _ hz)) h
theorem list_eqv (xs : List Int) : PyData.eqv (.list (xs.map .int)) (.list (xs.map .int)) = true := eqv_same (d := .list (xs.map .int)) (e := .list (xs.map .int)) (plAll_ints xs) (plAll_ints xs) rfl
theorem list_sh (xs : List Int) : SeqAt.shaped (.list (xs.map .int)) = true := shaped_pl (plAll_ints xs) (by
  show PyData.depthAll _ + 1 ≤ 64
  have := depth_ints xs
  omega)
theorem L11 (x : Qn) (hx : Wh x) (nx : nm x < 1000) (gs : List Int) (hd : digsOk gs) (at_ : Int) (h0 : 0 ≤ at_) (h1 : at_ < gs.length) (x0 x3 x4 x5 x6 x7 x8 x9 x10 x11 x12 x13 x14 x15 x16 x17 x18 x19 x20 : SV) :
    rd_law_k6_11 { nx := fun _ => False, rt := fun d _ => d = .bool true } [x0, .ow [.list (gs.map .int), .int at_], .fr (qD x), x3, x4, x5, x6, x7, x8, x9, x10, x11, x12, x13, x14, x15, x16, x17, x18, x19, x20, .un, .un] := by
  have lb : big = 18014398509481984 := rfl
  have go : ∀ x0 x3 x4 x5 x6 x7 x8 x9 x10 x11 x12 x13 x14 x15 x16 x17 x18 x19 x20 x21 : SV, rd_law_k6_12 { nx := fun _ => False, rt := fun d _ => d = .bool true } [x0, .ow [.list (gs.map .int), .int at_], .fr (qD x), x3, x4, x5, x6, x7, x8, x9, x10, x11, x12, x13, x14, x15, x16, x17, x18, x19, x20, x21, .un] := fun x0 x3 x4 x5 x6 x7 x8 x9 x10 x11 x12 x13 x14 x15 x16 x17 x18 x19 x20 x21 => L12 x hx nx gs hd at_ h0 h1 x0 x3 x4 x5 x6 x7 x8 x9 x10 x11 x12 x13 x14 x15 x16 x17 x18 x19 x20 x21
  simp only [↓rd_law_k6_11, ↓vSeq, ↓vPar, ↓vPar3, ↓vSet, ↓vSetO, ↓vAsg, ↓vAug, ↓vAppend, ↓vExt, ↓vUnp, ↓vFz, ↓vRet, ↓vRetN, ↓vDrop, ↓vIfS, ↓vNext, ↓vBrk, ↓vCnt, ↓vNever, ↓vForS, ↓vC, ↓vVar, ↓vTup, ↓vOf, ↓vBin, ↓vBinL, ↓vBinR, ↓vUn, ↓vCall, ↓vCallO, ↓vCallIO, ↓vCallSC, ↓vLookA, ↓vB, ↓vTru, ↓vTruO, ↓vAnd, ↓vOr, ↓vNot, ↓vAndV, ↓vOrV, ↓vNotV, ↓vIf, ↓vChain, ↓vNil, ↓vCons, ↓vSl, ↓vSlL, ↓vP0, ↓vP1, ↓vRevT, ↓vRevL, ↓vRevLL, ↓vBits, ↓vPop, ↓vLc, ↓vTurn, ↓vYes, ↓gN, ↓gT, ↓gsC, ↓gs0, ↓gSet, ↓wL, ↓wT, ↓wR1, ↓wR2, ↓d2, ↓d20, ↓dAdd, ↓dMul, ↓dEq, ↓dNe, ↓dIsN, ↓dIsB, ↓dNotB, ↓dNotN, ↓isN, ↓dNeg, ↓dIx, ↓dInI, ↓dSl, ↓truD, ↓cLen, ↓cAbs, ↓cMax2, ↓cMin2, ↓cInt, ↓cTup, ↓cLst, ↓sv, ↓List.getD_cons_zero, ↓List.getD_cons_succ, ↓List.set_cons_zero, ↓List.set_cons_succ, ↓vxSeq, ↓vxIf, ↓vxRaise, ↓vxRet, ↓vxAsg, ↓vxCall, ↓vReason, ↓vEqS, ↓vIsi, ↓wR3, ↓wZip, ↓vSetDk, ↓vDkIn, ↓vDkPut, ↓vParE, ↓gL, ↓vxDrop, ↓cSrt, ↓cSum, ↓cMinD, ↓cAnyI, ↓vLenSet, ↓vLc2]
  refine ⟨⟨qD_sh x, qD_sh NQ.zero⟩, ?_⟩
  show (match !PyData.eqv (qD x) (qD NQ.zero) with | true => _ | false => _)
  rw [qD_eqv]
  by_cases hz : x = NQ.zero
  · simp only [decide_eq_true hz, Bool.not_true]
    exact go _ _ _ _ _ _ _ _ _ _ _ _ _ _ _ _ _ _ _ _
  simp only [decide_eq_false hz, Bool.not_false]
  refine ⟨x, rfl, hx, NQ.nm_pos hx hz, nx, fun u fs ps hu nu hf ml nf pp so lf => ?_⟩
  have k0 : ∀ a : D, ∀ l : List D, atI (a :: l) 0 = some a := fun a l => by rw [atI_nat (Int.le_refl 0)]; rfl
  simp only [↓rd_law_k5_1, ↓rd_law_k5_2, ↓rd_law_k5_3, ↓vSeq, ↓vPar, ↓vPar3, ↓vSet, ↓vSetO, ↓vAsg, ↓vAug, ↓vAppend, ↓vExt, ↓vUnp, ↓vFz, ↓vRet, ↓vRetN, ↓vDrop, ↓vIfS, ↓vNext, ↓vBrk, ↓vCnt, ↓vNever, ↓vForS, ↓vC, ↓vVar, ↓vTup, ↓vOf, ↓vBin, ↓vBinL, ↓vBinR, ↓vUn, ↓vCall, ↓vCallO, ↓vCallIO, ↓vCallSC, ↓vLookA, ↓vB, ↓vTru, ↓vTruO, ↓vAnd, ↓vOr, ↓vNot, ↓vAndV, ↓vOrV, ↓vNotV, ↓vIf, ↓vChain, ↓vNil, ↓vCons, ↓vSl, ↓vSlL, ↓vP0, ↓vP1, ↓vRevT, ↓vRevL, ↓vRevLL, ↓vBits, ↓vPop, ↓vLc, ↓vTurn, ↓vYes, ↓gN, ↓gT, ↓gsC, ↓gs0, ↓gSet, ↓wL, ↓wT, ↓wR1, ↓wR2, ↓d2, ↓d20, ↓dAdd, ↓dMul, ↓dEq, ↓dNe, ↓dIsN, ↓dIsB, ↓dNotB, ↓dNotN, ↓isN, ↓dNeg, ↓dIx, ↓dInI, ↓dSl, ↓truD, ↓cLen, ↓cAbs, ↓cMax2, ↓cMin2, ↓cInt, ↓cTup, ↓cLst, ↓sv, ↓List.getD_cons_zero, ↓List.getD_cons_succ, ↓List.set_cons_zero, ↓List.set_cons_succ, ↓vxSeq, ↓vxIf, ↓vxRaise, ↓vxRet, ↓vxAsg, ↓vxCall, ↓vReason, ↓vEqS, ↓vIsi, ↓wR3, ↓wZip, ↓vSetDk, ↓vDkIn, ↓vDkPut, ↓vParE, ↓gL, ↓vxDrop, ↓cSrt, ↓cSum, ↓cMinD, ↓cAnyI, ↓vLenSet, ↓vLc2, k0]
  have ct : cutD (qD u :: fs.map qD) (some 1) none = fs.map qD := by
    rw [cut_tail]; rfl
  rw [ct]
  have n1 : ∀ f ∈ fs, 1 ≤ nm f := fun f hf' => by
    have : nm f ∈ ps.map Int.ofNat := by rw [← nf]; exact List.mem_map_of_mem hf'
    obtain ⟨p, hp, e⟩ := List.mem_map.mp this
    have := (pp p hp).1
    rw [← e]; show 1 ≤ (p : Int); omega
  refine loop_l6 _ _ _ _ _ _ _ _ _ _ _ _ _ _ _ _ _ _ _ _ _ fs u [] _ hu (fun f hf' => ⟨(hf f hf').1, n1 f hf', (hf f hf').2⟩) (by rw [ml]; exact nx) (by simp; omega) fun s => ?_
  have en : (fs.map fun f => PyData.int (nm f)) = ps.map fun p : Nat => PyData.int p := by
    have : (fs.map nm).map PyData.int = (ps.map Int.ofNat).map PyData.int := by rw [nf]
    rw [List.map_map, List.map_map] at this
    exact this
  rw [List.nil_append, en, ml]
  have ep : (ps.map fun p : Nat => PyData.int p) = (ps.map Int.ofNat).map .int := by rw [List.map_map]; rfl
  have lb : big = 18014398509481984 := rfl
  simp only [↓rd_law_k5_4, ↓vSeq, ↓vPar, ↓vPar3, ↓vSet, ↓vSetO, ↓vAsg, ↓vAug, ↓vAppend, ↓vExt, ↓vUnp, ↓vFz, ↓vRet, ↓vRetN, ↓vDrop, ↓vIfS, ↓vNext, ↓vBrk, ↓vCnt, ↓vNever, ↓vForS, ↓vC, ↓vVar, ↓vTup, ↓vOf, ↓vBin, ↓vBinL, ↓vBinR, ↓vUn, ↓vCall, ↓vCallO, ↓vCallIO, ↓vCallSC, ↓vLookA, ↓vB, ↓vTru, ↓vTruO, ↓vAnd, ↓vOr, ↓vNot, ↓vAndV, ↓vOrV, ↓vNotV, ↓vIf, ↓vChain, ↓vNil, ↓vCons, ↓vSl, ↓vSlL, ↓vP0, ↓vP1, ↓vRevT, ↓vRevL, ↓vRevLL, ↓vBits, ↓vPop, ↓vLc, ↓vTurn, ↓vYes, ↓gN, ↓gT, ↓gsC, ↓gs0, ↓gSet, ↓wL, ↓wT, ↓wR1, ↓wR2, ↓d2, ↓d20, ↓dAdd, ↓dMul, ↓dEq, ↓dNe, ↓dIsN, ↓dIsB, ↓dNotB, ↓dNotN, ↓isN, ↓dNeg, ↓dIx, ↓dInI, ↓dSl, ↓truD, ↓cLen, ↓cAbs, ↓cMax2, ↓cMin2, ↓cInt, ↓cTup, ↓cLst, ↓sv, ↓List.getD_cons_zero, ↓List.getD_cons_succ, ↓List.set_cons_zero, ↓List.set_cons_succ, ↓vxSeq, ↓vxIf, ↓vxRaise, ↓vxRet, ↓vxAsg, ↓vxCall, ↓vReason, ↓vEqS, ↓vIsi, ↓wR3, ↓wZip, ↓vSetDk, ↓vDkIn, ↓vDkPut, ↓vParE, ↓gL, ↓vxDrop, ↓cSrt, ↓cSum, ↓cMinD, ↓cAnyI, ↓vLenSet, ↓vLc2, k0]
  refine ⟨⟨qD_sh x, qD_sh x⟩, ?_⟩
  rw [qD_eqv]
  simp only [decide_true, Bool.not_true]
  refine ⟨u, rfl, hu, by omega, ?_⟩
  simp only [↓vSeq, ↓vPar, ↓vPar3, ↓vSet, ↓vSetO, ↓vAsg, ↓vAug, ↓vAppend, ↓vExt, ↓vUnp, ↓vFz, ↓vRet, ↓vRetN, ↓vDrop, ↓vIfS, ↓vNext, ↓vBrk, ↓vCnt, ↓vNever, ↓vForS, ↓vC, ↓vVar, ↓vTup, ↓vOf, ↓vBin, ↓vBinL, ↓vBinR, ↓vUn, ↓vCall, ↓vCallO, ↓vCallIO, ↓vCallSC, ↓vLookA, ↓vB, ↓vTru, ↓vTruO, ↓vAnd, ↓vOr, ↓vNot, ↓vAndV, ↓vOrV, ↓vNotV, ↓vIf, ↓vChain, ↓vNil, ↓vCons, ↓vSl, ↓vSlL, ↓vP0, ↓vP1, ↓vRevT, ↓vRevL, ↓vRevLL, ↓vBits, ↓vPop, ↓vLc, ↓vTurn, ↓vYes, ↓gN, ↓gT, ↓gsC, ↓gs0, ↓gSet, ↓wL, ↓wT, ↓wR1, ↓wR2, ↓d2, ↓d20, ↓dAdd, ↓dMul, ↓dEq, ↓dNe, ↓dIsN, ↓dIsB, ↓dNotB, ↓dNotN, ↓isN, ↓dNeg, ↓dIx, ↓dInI, ↓dSl, ↓truD, ↓cLen, ↓cAbs, ↓cMax2, ↓cMin2, ↓cInt, ↓cTup, ↓cLst, ↓sv, ↓List.getD_cons_zero, ↓List.getD_cons_succ, ↓List.set_cons_zero, ↓List.set_cons_succ, ↓vxSeq, ↓vxIf, ↓vxRaise, ↓vxRet, ↓vxAsg, ↓vxCall, ↓vReason, ↓vEqS, ↓vIsi, ↓wR3, ↓wZip, ↓vSetDk, ↓vDkIn, ↓vDkPut, ↓vParE, ↓gL, ↓vxDrop, ↓cSrt, ↓cSum, ↓cMinD, ↓cAnyI, ↓vLenSet, ↓vLc2, nu, decide_true, Bool.not_true]
  refine .inl ⟨ps.map Int.ofNat, ep, ?_⟩
  have es : (ordB false (sortI (ps.map Int.ofNat))).reverse = ps.map Int.ofNat := by
    refine (sortI_of_rev (List.Perm.refl _) ?_).symm
    rw [List.pairwise_map]
    exact so.imp fun h => Int.ofNat_le.mpr h
  have pl : (ps.map fun p : Nat => PyData.int p).length ≤ 1000 := by
    have : (fs.map nm).length = (ps.map Int.ofNat).length := by rw [nf]
    rw [List.length_map, List.length_map] at this
    rw [List.length_map]; omega
  have p1 : ∀ p ∈ ps, NT.Pr p ∧ p < 1000 := fun p hp => by
    refine ⟨pp p hp, ?_⟩
    have : (p : Int) ∈ fs.map nm := by rw [nf]; exact List.mem_map.mpr ⟨p, hp, rfl⟩
    obtain ⟨f, hf', e⟩ := List.mem_map.mp this
    have := (hf f hf').2
    omega
  have er : (List.map PyData.int (ordB false (sortI (List.map Int.ofNat ps)))).reverse = ps.map fun p : Nat => PyData.int p := by rw [← List.map_reverse, es, ep]
  have e1 := list_eqv (ps.map Int.ofNat)
  have e2 := list_sh (ps.map Int.ofNat)
  rw [← ep] at e1 e2
  simp only [er, e1, e2, Bool.not_true, true_and]
  refine ⟨by rw [sizeLine_eq]; omega, fun i hi => ?_, comp_l7 _ _ _ _ _ _ _ _ _ _ _ _ _ _ _ _ _ _ _ _ _ _ _ ps p1 ?_⟩
  · obtain rfl : i = 21 := by simpa using hi
    exact id
  simp only [↓vSeq, ↓vPar, ↓vPar3, ↓vSet, ↓vSetO, ↓vAsg, ↓vAug, ↓vAppend, ↓vExt, ↓vUnp, ↓vFz, ↓vRet, ↓vRetN, ↓vDrop, ↓vIfS, ↓vNext, ↓vBrk, ↓vCnt, ↓vNever, ↓vForS, ↓vC, ↓vVar, ↓vTup, ↓vOf, ↓vBin, ↓vBinL, ↓vBinR, ↓vUn, ↓vCall, ↓vCallO, ↓vCallIO, ↓vCallSC, ↓vLookA, ↓vB, ↓vTru, ↓vTruO, ↓vAnd, ↓vOr, ↓vNot, ↓vAndV, ↓vOrV, ↓vNotV, ↓vIf, ↓vChain, ↓vNil, ↓vCons, ↓vSl, ↓vSlL, ↓vP0, ↓vP1, ↓vRevT, ↓vRevL, ↓vRevLL, ↓vBits, ↓vPop, ↓vLc, ↓vTurn, ↓vYes, ↓gN, ↓gT, ↓gsC, ↓gs0, ↓gSet, ↓wL, ↓wT, ↓wR1, ↓wR2, ↓d2, ↓d20, ↓dAdd, ↓dMul, ↓dEq, ↓dNe, ↓dIsN, ↓dIsB, ↓dNotB, ↓dNotN, ↓isN, ↓dNeg, ↓dIx, ↓dInI, ↓dSl, ↓truD, ↓cLen, ↓cAbs, ↓cMax2, ↓cMin2, ↓cInt, ↓cTup, ↓cLst, ↓sv, ↓List.getD_cons_zero, ↓List.getD_cons_succ, ↓List.set_cons_zero, ↓List.set_cons_succ, ↓vxSeq, ↓vxIf, ↓vxRaise, ↓vxRet, ↓vxAsg, ↓vxCall, ↓vReason, ↓vEqS, ↓vIsi, ↓wR3, ↓wZip, ↓vSetDk, ↓vDkIn, ↓vDkPut, ↓vParE, ↓gL, ↓vxDrop, ↓cSrt, ↓cSum, ↓cMinD, ↓cAnyI, ↓vLenSet, ↓vLc2, nil_eqv, nil_sh, Bool.not_true, true_and]
  exact go _ _ _ _ _ _ _ _ _ _ _ _ _ _ _ _ _ _ _ _
end VL

set_option Elab.async false
set_option linter.all false
set_option maxRecDepth 1000000
set_option maxHeartbeats 8000000
set_option pp.deepTerms false
set_option pp.deepTerms.threshold 6
namespace VL
open PySem PySem.Spec PyProof.Rows L2 HD
open NQ (Qn Wh mul conj nm RD Near)
theorem rows_pl (xs : List Qn) : plAll (xs.map qD) = true := plAll_iff.mpr fun x hx => by
  obtain ⟨q, _, rfl⟩ := List.mem_map.mp hx
  exact plAll_ints (rowQ q)
theorem rows_sh (xs : List Qn) : SeqAt.shaped (.list (xs.map qD)) = true := shaped_pl (rows_pl xs) (by
  show PyData.depthAll _ + 1 ≤ 64
  have : PyData.depthAll (xs.map qD) ≤ 1 := depthAll_le.mpr fun x hx => by
    obtain ⟨q, _, rfl⟩ := List.mem_map.mp hx
    show PyData.depthAll _ + 1 ≤ 1
    have := depth_ints (rowQ q)
    unfold rowQ at this
    omega
  omega)
theorem rows_eqv (xs : List Qn) : PyData.eqv (.list (xs.map qD)) (.list (xs.map qD)) = true := eqv_same (d := .list (xs.map qD)) (e := .list (xs.map qD)) (rows_pl xs) (rows_pl xs) rfl

theorem comp_l3 (Q : List D → Ev → Prop) (x0 x1 x2 x3 x4 x5 x6 x7 x8 x9 x10 x11 x12 x13 x15 x16 x17 x18 x19 x20 x21 x22 : SV) : ∀ (us : List Qn), (∀ u ∈ us, Wh u ∧ nm u = 1) → Q [] [x0, x1, x2, x3, x4, x5, x6, x7, x8, x9, x10, x11, x12, x13, .un, x15, x16, x17, x18, x19, x20, x21, x22] → vComp rd_law_c3_g rd_law_c3_t rd_law_c3_e [14] Q (us.map qD) [x0, x1, x2, x3, x4, x5, x6, x7, x8, x9, x10, x11, x12, x13, .un, x15, x16, x17, x18, x19, x20, x21, x22] [] := by
  intro xs
  induction xs with
  | nil => intro _ h; simpa [vComp] using h
  | cons x xs ih =>
    intro hx h
    rw [List.map_cons]
    show vTurn _ _ _ _ _ _ _ _
    obtain ⟨h1, h2⟩ := hx x List.mem_cons_self
    simp only [↓vTurn, ↓rd_law_c3_g, ↓rd_law_c3_t, ↓rd_law_c3_e, ↓wipeE, ↓vSeq, ↓vPar, ↓vPar3, ↓vSet, ↓vSetO, ↓vAsg, ↓vAug, ↓vAppend, ↓vExt, ↓vUnp, ↓vFz, ↓vRet, ↓vRetN, ↓vDrop, ↓vIfS, ↓vNext, ↓vBrk, ↓vCnt, ↓vNever, ↓vForS, ↓vC, ↓vVar, ↓vTup, ↓vOf, ↓vBin, ↓vBinL, ↓vBinR, ↓vUn, ↓vCall, ↓vCallO, ↓vCallIO, ↓vCallSC, ↓vLookA, ↓vB, ↓vTru, ↓vTruO, ↓vAnd, ↓vOr, ↓vNot, ↓vAndV, ↓vOrV, ↓vNotV, ↓vIf, ↓vChain, ↓vNil, ↓vCons, ↓vSl, ↓vSlL, ↓vP0, ↓vP1, ↓vRevT, ↓vRevL, ↓vRevLL, ↓vBits, ↓vPop, ↓vLc, ↓vTurn, ↓vYes, ↓gN, ↓gT, ↓gsC, ↓gs0, ↓gSet, ↓wL, ↓wT, ↓wR1, ↓wR2, ↓d2, ↓d20, ↓dAdd, ↓dMul, ↓dEq, ↓dNe, ↓dIsN, ↓dIsB, ↓dNotB, ↓dNotN, ↓isN, ↓dNeg, ↓dIx, ↓dInI, ↓dSl, ↓truD, ↓cLen, ↓cAbs, ↓cMax2, ↓cMin2, ↓cInt, ↓cTup, ↓cLst, ↓sv, ↓List.getD_cons_zero, ↓List.getD_cons_succ, ↓List.set_cons_zero, ↓List.set_cons_succ, ↓vxSeq, ↓vxIf, ↓vxRaise, ↓vxRet, ↓vxAsg, ↓vxCall, ↓vReason, ↓vEqS, ↓vIsi, ↓wR3, ↓wZip, ↓vSetDk, ↓vDkIn, ↓vDkPut, ↓vParE, ↓gL, ↓vxDrop, ↓cSrt, ↓cSum, ↓cMinD, ↓cAnyI, ↓vLenSet, ↓vLc2, back]
    refine ⟨x, rfl, h1, by rw [h2]; decide, ?_⟩
    simp only [h2, decide_true, Bool.not_true, ↓vSeq, ↓vPar, ↓vPar3, ↓vSet, ↓vSetO, ↓vAsg, ↓vAug, ↓vAppend, ↓vExt, ↓vUnp, ↓vFz, ↓vRet, ↓vRetN, ↓vDrop, ↓vIfS, ↓vNext, ↓vBrk, ↓vCnt, ↓vNever, ↓vForS, ↓vC, ↓vVar, ↓vTup, ↓vOf, ↓vBin, ↓vBinL, ↓vBinR, ↓vUn, ↓vCall, ↓vCallO, ↓vCallIO, ↓vCallSC, ↓vLookA, ↓vB, ↓vTru, ↓vTruO, ↓vAnd, ↓vOr, ↓vNot, ↓vAndV, ↓vOrV, ↓vNotV, ↓vIf, ↓vChain, ↓vNil, ↓vCons, ↓vSl, ↓vSlL, ↓vP0, ↓vP1, ↓vRevT, ↓vRevL, ↓vRevLL, ↓vBits, ↓vPop, ↓vLc, ↓vTurn, ↓vYes, ↓gN, ↓gT, ↓gsC, ↓gs0, ↓gSet, ↓wL, ↓wT, ↓wR1, ↓wR2, ↓d2, ↓d20, ↓dAdd, ↓dMul, ↓dEq, ↓dNe, ↓dIsN, ↓dIsB, ↓dNotB, ↓dNotN, ↓isN, ↓dNeg, ↓dIx, ↓dInI, ↓dSl, ↓truD, ↓cLen, ↓cAbs, ↓cMax2, ↓cMin2, ↓cInt, ↓cTup, ↓cLst, ↓sv, ↓List.getD_cons_zero, ↓List.getD_cons_succ, ↓List.set_cons_zero, ↓List.set_cons_succ, ↓vxSeq, ↓vxIf, ↓vxRaise, ↓vxRet, ↓vxAsg, ↓vxCall, ↓vReason, ↓vEqS, ↓vIsi, ↓wR3, ↓wZip, ↓vSetDk, ↓vDkIn, ↓vDkPut, ↓vParE, ↓gL, ↓vxDrop, ↓cSrt, ↓cSum, ↓cMinD, ↓cAnyI, ↓vLenSet, ↓vLc2]
    exact ih (fun z hz => hx z (List.mem_cons_of_mem _ hz)) h
theorem comp_l5 (Q : List D → Ev → Prop) (u : Qn) (hu : Wh u ∧ nm u = 1) (x0 x1 x2 x3 x4 x5 x6 x7 x8 x9 x10 x11 x12 x15 x16 x17 x18 x19 x21 x22 : SV) : ∀ (ks : List Qn), (∀ k ∈ ks, mul u k ∈ units24) → Q [] [x0, x1, x2, x3, x4, x5, x6, x7, x8, x9, x10, x11, x12, .fr (.list (units24.map qD)), .fr (qD u), x15, x16, x17, x18, x19, .un, x21, x22] → vComp rd_law_c5_g rd_law_c5_t rd_law_c5_e [20] Q (ks.map qD) [x0, x1, x2, x3, x4, x5, x6, x7, x8, x9, x10, x11, x12, .fr (.list (units24.map qD)), .fr (qD u), x15, x16, x17, x18, x19, .un, x21, x22] [] := by
  intro xs
  induction xs with
  | nil => intro _ h; simpa [vComp] using h
  | cons x xs ih =>
    intro hx h
    rw [List.map_cons]
    show vTurn _ _ _ _ _ _ _ _
    have hm := hx x List.mem_cons_self
    generalize hL : units24.map qD = L at ih h ⊢
    simp only [↓vTurn, ↓rd_law_c5_g, ↓rd_law_c5_t, ↓rd_law_c5_e, ↓wipeE, ↓vSeq, ↓vPar, ↓vPar3, ↓vSet, ↓vSetO, ↓vAsg, ↓vAug, ↓vAppend, ↓vExt, ↓vUnp, ↓vFz, ↓vRet, ↓vRetN, ↓vDrop, ↓vIfS, ↓vNext, ↓vBrk, ↓vCnt, ↓vNever, ↓vForS, ↓vC, ↓vVar, ↓vTup, ↓vOf, ↓vBin, ↓vBinL, ↓vBinR, ↓vUn, ↓vCall, ↓vCallO, ↓vCallIO, ↓vCallSC, ↓vLookA, ↓vB, ↓vTru, ↓vTruO, ↓vAnd, ↓vOr, ↓vNot, ↓vAndV, ↓vOrV, ↓vNotV, ↓vIf, ↓vChain, ↓vNil, ↓vCons, ↓vSl, ↓vSlL, ↓vP0, ↓vP1, ↓vRevT, ↓vRevL, ↓vRevLL, ↓vBits, ↓vPop, ↓vLc, ↓vTurn, ↓vYes, ↓gN, ↓gT, ↓gsC, ↓gs0, ↓gSet, ↓wL, ↓wT, ↓wR1, ↓wR2, ↓d2, ↓d20, ↓dAdd, ↓dMul, ↓dEq, ↓dNe, ↓dIsN, ↓dIsB, ↓dNotB, ↓dNotN, ↓isN, ↓dNeg, ↓dIx, ↓dInI, ↓dSl, ↓truD, ↓cLen, ↓cAbs, ↓cMax2, ↓cMin2, ↓cInt, ↓cTup, ↓cLst, ↓sv, ↓List.getD_cons_zero, ↓List.getD_cons_succ, ↓List.set_cons_zero, ↓List.set_cons_succ, ↓vxSeq, ↓vxIf, ↓vxRaise, ↓vxRet, ↓vxAsg, ↓vxCall, ↓vReason, ↓vEqS, ↓vIsi, ↓wR3, ↓wZip, ↓vSetDk, ↓vDkIn, ↓vDkPut, ↓vParE, ↓gL, ↓vxDrop, ↓cSrt, ↓cSum, ↓cMinD, ↓cAnyI, ↓vLenSet, ↓vLc2, back]
    refine ⟨u, x, rfl, hu.1, by rw [hu.2]; decide, ⟨qD_sh _, by rw [← hL]; exact rows_sh _⟩, ?_⟩
    have e : (L.any fun z => PyData.eqv z (qD (mul u x))) = true := by
      rw [← hL, List.any_map]
      exact List.any_eq_true.mpr ⟨_, hm, by show PyData.eqv _ _ = true; rw [qD_eqv]; simp⟩
    simp only [if_true, e, Bool.not_true]
    exact ih (fun z hz => hx z (List.mem_cons_of_mem _ hz)) h
theorem loop_l4 (Z : VEnds) (x0 x1 x2 x3 x4 x5 x6 x7 x8 x9 x10 x11 x12 x15 x16 x17 x18 x19 x21 x22 : SV) : ∀ (us : List Qn), (∀ u ∈ us, (Wh u ∧ nm u = 1) ∧ ∀ k ∈ units24, mul u k ∈ units24) → ∀ s14 : SV, (s14 = .un ∨ ∃ d, s14 = .fr d) → (∀ s, Z.nx [x0, x1, x2, x3, x4, x5, x6, x7, x8, x9, x10, x11, x12, .fr (.list (units24.map qD)), s, x15, x16, x17, x18, x19, .un, x21, x22]) →
    vFor rd_law_f4g rd_law_f4b Z (us.map qD) [x0, x1, x2, x3, x4, x5, x6, x7, x8, x9, x10, x11, x12, .fr (.list (units24.map qD)), s14, x15, x16, x17, x18, x19, .un, x21, x22] := by
  intro us
  induction us with
  | nil => intro _ s14 _ h; have := h s14; simpa [vFor_nil] using this
  | cons u us ih =>
    intro hu s14 hs h
    rw [List.map_cons, vFor_cons]
    generalize hW : vFor rd_law_f4g rd_law_f4b Z (us.map qD) = W
    obtain ⟨h1, h2⟩ := hu u List.mem_cons_self
    simp only [↓rd_law_f4g, ↓rd_law_f4b, ↓vSeq, ↓vPar, ↓vPar3, ↓vSet, ↓vSetO, ↓vAsg, ↓vAug, ↓vAppend, ↓vExt, ↓vUnp, ↓vFz, ↓vRet, ↓vRetN, ↓vDrop, ↓vIfS, ↓vNext, ↓vBrk, ↓vCnt, ↓vNever, ↓vForS, ↓vC, ↓vVar, ↓vTup, ↓vOf, ↓vBin, ↓vBinL, ↓vBinR, ↓vUn, ↓vCall, ↓vCallO, ↓vCallIO, ↓vCallSC, ↓vLookA, ↓vB, ↓vTru, ↓vTruO, ↓vAnd, ↓vOr, ↓vNot, ↓vAndV, ↓vOrV, ↓vNotV, ↓vIf, ↓vChain, ↓vNil, ↓vCons, ↓vSl, ↓vSlL, ↓vP0, ↓vP1, ↓vRevT, ↓vRevL, ↓vRevLL, ↓vBits, ↓vPop, ↓vLc, ↓vTurn, ↓vYes, ↓gN, ↓gT, ↓gsC, ↓gs0, ↓gSet, ↓wL, ↓wT, ↓wR1, ↓wR2, ↓d2, ↓d20, ↓dAdd, ↓dMul, ↓dEq, ↓dNe, ↓dIsN, ↓dIsB, ↓dNotB, ↓dNotN, ↓isN, ↓dNeg, ↓dIx, ↓dInI, ↓dSl, ↓truD, ↓cLen, ↓cAbs, ↓cMax2, ↓cMin2, ↓cInt, ↓cTup, ↓cLst, ↓sv, ↓List.getD_cons_zero, ↓List.getD_cons_succ, ↓List.set_cons_zero, ↓List.set_cons_succ, ↓vxSeq, ↓vxIf, ↓vxRaise, ↓vxRet, ↓vxAsg, ↓vxCall, ↓vReason, ↓vEqS, ↓vIsi, ↓wR3, ↓wZip, ↓vSetDk, ↓vDkIn, ↓vDkPut, ↓vParE, ↓gL, ↓vxDrop, ↓cSrt, ↓cSum, ↓cMinD, ↓cAnyI, ↓vLenSet, ↓vLc2]
    refine ⟨by rw [List.length_map, sizeLine_eq]; decide, fun i hi => ?_, comp_l5 _ u h1 _ _ _ _ _ _ _ _ _ _ _ _ _ _ _ _ _ _ _ _ units24 h2 ?_⟩
    · obtain rfl : i = 20 := by simpa using hi
      exact id
    simp only [↓vSeq, ↓vPar, ↓vPar3, ↓vSet, ↓vSetO, ↓vAsg, ↓vAug, ↓vAppend, ↓vExt, ↓vUnp, ↓vFz, ↓vRet, ↓vRetN, ↓vDrop, ↓vIfS, ↓vNext, ↓vBrk, ↓vCnt, ↓vNever, ↓vForS, ↓vC, ↓vVar, ↓vTup, ↓vOf, ↓vBin, ↓vBinL, ↓vBinR, ↓vUn, ↓vCall, ↓vCallO, ↓vCallIO, ↓vCallSC, ↓vLookA, ↓vB, ↓vTru, ↓vTruO, ↓vAnd, ↓vOr, ↓vNot, ↓vAndV, ↓vOrV, ↓vNotV, ↓vIf, ↓vChain, ↓vNil, ↓vCons, ↓vSl, ↓vSlL, ↓vP0, ↓vP1, ↓vRevT, ↓vRevL, ↓vRevLL, ↓vBits, ↓vPop, ↓vLc, ↓vTurn, ↓vYes, ↓gN, ↓gT, ↓gsC, ↓gs0, ↓gSet, ↓wL, ↓wT, ↓wR1, ↓wR2, ↓d2, ↓d20, ↓dAdd, ↓dMul, ↓dEq, ↓dNe, ↓dIsN, ↓dIsB, ↓dNotB, ↓dNotN, ↓isN, ↓dNeg, ↓dIx, ↓dInI, ↓dSl, ↓truD, ↓cLen, ↓cAbs, ↓cMax2, ↓cMin2, ↓cInt, ↓cTup, ↓cLst, ↓sv, ↓List.getD_cons_zero, ↓List.getD_cons_succ, ↓List.set_cons_zero, ↓List.set_cons_succ, ↓vxSeq, ↓vxIf, ↓vxRaise, ↓vxRet, ↓vxAsg, ↓vxCall, ↓vReason, ↓vEqS, ↓vIsi, ↓wR3, ↓wZip, ↓vSetDk, ↓vDkIn, ↓vDkPut, ↓vParE, ↓gL, ↓vxDrop, ↓cSrt, ↓cSum, ↓cMinD, ↓cAnyI, ↓vLenSet, ↓vLc2, nil_eqv, nil_sh, Bool.not_true, true_and]
    rw [← hW]
    exact ih (fun v hv => hu v (List.mem_cons_of_mem _ hv)) _ (.inr ⟨_, rfl⟩) h
theorem L8 (x : Qn) (hx : Wh x) (nx : nm x < 1000) (gs : List Int) (hd : digsOk gs) (at_ : Int) (h0 : 0 ≤ at_) (h1 : at_ < gs.length) (x0 x3 x4 x5 x6 x7 x8 x9 x10 x11 x12 x13 x15 x16 x17 x18 x19 : SV) :
    rd_law_k6_8 { nx := fun _ => False, rt := fun d _ => d = .bool true } [x0, .ow [.list (gs.map .int), .int at_], .fr (qD x), x3, x4, x5, x6, x7, x8, x9, x10, x11, x12, x13, .un, x15, x16, x17, x18, x19, .un, .un, .un] := by
  simp only [↓rd_law_k6_8, ↓vSeq, ↓vPar, ↓vPar3, ↓vSet, ↓vSetO, ↓vAsg, ↓vAug, ↓vAppend, ↓vExt, ↓vUnp, ↓vFz, ↓vRet, ↓vRetN, ↓vDrop, ↓vIfS, ↓vNext, ↓vBrk, ↓vCnt, ↓vNever, ↓vForS, ↓vC, ↓vVar, ↓vTup, ↓vOf, ↓vBin, ↓vBinL, ↓vBinR, ↓vUn, ↓vCall, ↓vCallO, ↓vCallIO, ↓vCallSC, ↓vLookA, ↓vB, ↓vTru, ↓vTruO, ↓vAnd, ↓vOr, ↓vNot, ↓vAndV, ↓vOrV, ↓vNotV, ↓vIf, ↓vChain, ↓vNil, ↓vCons, ↓vSl, ↓vSlL, ↓vP0, ↓vP1, ↓vRevT, ↓vRevL, ↓vRevLL, ↓vBits, ↓vPop, ↓vLc, ↓vTurn, ↓vYes, ↓gN, ↓gT, ↓gsC, ↓gs0, ↓gSet, ↓wL, ↓wT, ↓wR1, ↓wR2, ↓d2, ↓d20, ↓dAdd, ↓dMul, ↓dEq, ↓dNe, ↓dIsN, ↓dIsB, ↓dNotB, ↓dNotN, ↓isN, ↓dNeg, ↓dIx, ↓dInI, ↓dSl, ↓truD, ↓cLen, ↓cAbs, ↓cMax2, ↓cMin2, ↓cInt, ↓cTup, ↓cLst, ↓sv, ↓List.getD_cons_zero, ↓List.getD_cons_succ, ↓List.set_cons_zero, ↓List.set_cons_succ, ↓vxSeq, ↓vxIf, ↓vxRaise, ↓vxRet, ↓vxAsg, ↓vxCall, ↓vReason, ↓vEqS, ↓vIsi, ↓wR3, ↓wZip, ↓vSetDk, ↓vDkIn, ↓vDkPut, ↓vParE, ↓gL, ↓vxDrop, ↓cSrt, ↓cSum, ↓cMinD, ↓cAnyI, ↓vLenSet, ↓vLc2]
  refine ⟨rfl, ?_⟩
  have l24 : units24.length = 24 := rfl
  simp only [↓rd_law_k6_9, ↓vSeq, ↓vPar, ↓vPar3, ↓vSet, ↓vSetO, ↓vAsg, ↓vAug, ↓vAppend, ↓vExt, ↓vUnp, ↓vFz, ↓vRet, ↓vRetN, ↓vDrop, ↓vIfS, ↓vNext, ↓vBrk, ↓vCnt, ↓vNever, ↓vForS, ↓vC, ↓vVar, ↓vTup, ↓vOf, ↓vBin, ↓vBinL, ↓vBinR, ↓vUn, ↓vCall, ↓vCallO, ↓vCallIO, ↓vCallSC, ↓vLookA, ↓vB, ↓vTru, ↓vTruO, ↓vAnd, ↓vOr, ↓vNot, ↓vAndV, ↓vOrV, ↓vNotV, ↓vIf, ↓vChain, ↓vNil, ↓vCons, ↓vSl, ↓vSlL, ↓vP0, ↓vP1, ↓vRevT, ↓vRevL, ↓vRevLL, ↓vBits, ↓vPop, ↓vLc, ↓vTurn, ↓vYes, ↓gN, ↓gT, ↓gsC, ↓gs0, ↓gSet, ↓wL, ↓wT, ↓wR1, ↓wR2, ↓d2, ↓d20, ↓dAdd, ↓dMul, ↓dEq, ↓dNe, ↓dIsN, ↓dIsB, ↓dNotB, ↓dNotN, ↓isN, ↓dNeg, ↓dIx, ↓dInI, ↓dSl, ↓truD, ↓cLen, ↓cAbs, ↓cMax2, ↓cMin2, ↓cInt, ↓cTup, ↓cLst, ↓sv, ↓List.getD_cons_zero, ↓List.getD_cons_succ, ↓List.set_cons_zero, ↓List.set_cons_succ, ↓vxSeq, ↓vxIf, ↓vxRaise, ↓vxRet, ↓vxAsg, ↓vxCall, ↓vReason, ↓vEqS, ↓vIsi, ↓wR3, ↓wZip, ↓vSetDk, ↓vDkIn, ↓vDkPut, ↓vParE, ↓gL, ↓vxDrop, ↓cSrt, ↓cSum, ↓cMinD, ↓cAnyI, ↓vLenSet, ↓vLc2, List.length_map, l24]
  have c0 : decide (((24 : Nat) : Int) = 24) = true := by decide
  simp only [c0, Bool.not_true]
  refine .inr ⟨units24.map rowQ, 4, by rw [List.map_map]; rfl, by decide, by decide, ?_⟩
  have e : ordB false (sortL (units24.map rowQ)) = units24.map rowQ := by decide +kernel
  have er : (units24.map rowQ).map rowD = units24.map qD := by rw [List.map_map]; rfl
  have u1 : ∀ u ∈ units24, Wh u ∧ nm u = 1 := by decide
  have u2 : ∀ u ∈ units24.take 6, (Wh u ∧ nm u = 1) ∧ ∀ k ∈ units24, mul u k ∈ units24 := by decide +kernel
  rw [e, er]
  simp only [rows_sh, rows_eqv, Bool.not_true, true_and]
  refine ⟨by rw [sizeLine_eq]; decide, fun i hi => ?_, comp_l3 _ _ _ _ _ _ _ _ _ _ _ _ _ _ _ _ _ _ _ _ _ _ _ units24 u1 ?_⟩
  · obtain rfl : i = 14 := by simpa using hi
    exact id
  simp only [↓rd_law_k6_10, ↓vSeq, ↓vPar, ↓vPar3, ↓vSet, ↓vSetO, ↓vAsg, ↓vAug, ↓vAppend, ↓vExt, ↓vUnp, ↓vFz, ↓vRet, ↓vRetN, ↓vDrop, ↓vIfS, ↓vNext, ↓vBrk, ↓vCnt, ↓vNever, ↓vForS, ↓vC, ↓vVar, ↓vTup, ↓vOf, ↓vBin, ↓vBinL, ↓vBinR, ↓vUn, ↓vCall, ↓vCallO, ↓vCallIO, ↓vCallSC, ↓vLookA, ↓vB, ↓vTru, ↓vTruO, ↓vAnd, ↓vOr, ↓vNot, ↓vAndV, ↓vOrV, ↓vNotV, ↓vIf, ↓vChain, ↓vNil, ↓vCons, ↓vSl, ↓vSlL, ↓vP0, ↓vP1, ↓vRevT, ↓vRevL, ↓vRevLL, ↓vBits, ↓vPop, ↓vLc, ↓vTurn, ↓vYes, ↓gN, ↓gT, ↓gsC, ↓gs0, ↓gSet, ↓wL, ↓wT, ↓wR1, ↓wR2, ↓d2, ↓d20, ↓dAdd, ↓dMul, ↓dEq, ↓dNe, ↓dIsN, ↓dIsB, ↓dNotB, ↓dNotN, ↓isN, ↓dNeg, ↓dIx, ↓dInI, ↓dSl, ↓truD, ↓cLen, ↓cAbs, ↓cMax2, ↓cMin2, ↓cInt, ↓cTup, ↓cLst, ↓sv, ↓List.getD_cons_zero, ↓List.getD_cons_succ, ↓List.set_cons_zero, ↓List.set_cons_succ, ↓vxSeq, ↓vxIf, ↓vxRaise, ↓vxRet, ↓vxAsg, ↓vxCall, ↓vReason, ↓vEqS, ↓vIsi, ↓wR3, ↓wZip, ↓vSetDk, ↓vDkIn, ↓vDkPut, ↓vParE, ↓gL, ↓vxDrop, ↓cSrt, ↓cSum, ↓cMinD, ↓cAnyI, ↓vLenSet, ↓vLc2, nil_eqv, nil_sh, Bool.not_true, true_and]
  rw [cut_take (by decide), ← List.map_take]
  refine loop_l4 _ _ _ _ _ _ _ _ _ _ _ _ _ _ _ _ _ _ _ _ _ _ u2 _ (.inl rfl) fun s => ?_
  exact L11 x hx nx gs hd at_ h0 h1 _ _ _ _ _ _ _ _ _ _ _ _ _ _ _ _ _ _ _
end VL

set_option Elab.async false
set_option linter.all false
set_option maxRecDepth 1000000
set_option maxHeartbeats 8000000
set_option pp.deepTerms false
set_option pp.deepTerms.threshold 6
namespace NQ
theorem mul_zeroR (x : Qn) : mul x zero = zero := by refine ext ?_ ?_ ?_ ?_ <;> simp [mul, P, zero]
theorem sub_self (x : Qn) : sub x x = zero := by refine ext ?_ ?_ ?_ ?_ <;> simp [sub, zero]
theorem nm_bd {q : Qn} {B : Int} (h1 : -B ≤ q.a ∧ q.a ≤ B) (h2 : -B ≤ q.b ∧ q.b ≤ B) (h3 : -B ≤ q.c ∧ q.c ≤ B) (h4 : -B ≤ q.d ∧ q.d ≤ B) : nm q ≤ B * B := by
  have key : ∀ z : Int, -B ≤ z → z ≤ B → z * z ≤ B * B := fun z a b => by
    rcases Int.lt_or_le z 0 with c | c
    · have := Int.mul_le_mul (show -z ≤ B by omega) (show -z ≤ B by omega) (by omega) (by omega)
      have e : -z * -z = z * z := by grind
      omega
    · exact Int.mul_le_mul b b c (by omega)
  have := key _ h1.1 h1.2; have := key _ h2.1 h2.2; have := key _ h3.1 h3.2; have := key _ h4.1 h4.2
  unfold nm sq; omega
end NQ
namespace VL
open PySem PySem.Spec PyProof.Rows L2 HD
open NQ (Qn Wh mul conj nm RD Near)
theorem q_depth (q : Qn) : PyData.depth (qD q) ≤ 1 := by
  show PyData.depthAll _ + 1 ≤ 1
  have := depth_ints (rowQ q)
  unfold rowQ at this
  omega
theorem pair_sh (x y : Qn) : SeqAt.shaped (.tuple [qD x, qD y]) = true := shaped_pl (rows_pl [x, y]) (by
  show PyData.depthAll _ + 1 ≤ 64
  have : PyData.depthAll [qD x, qD y] ≤ 1 := depthAll_le.mpr fun z hz => by
    simp only [List.mem_cons, List.not_mem_nil, or_false] at hz
    rcases hz with rfl | rfl <;> exact q_depth _
  omega)
theorem zz_eqv : PyData.eqv (qD NQ.zero) (.tuple [.int 0, .int 0, .int 0, .int 0]) = true := (qD_eqv NQ.zero NQ.zero).trans (decide_eq_true rfl)
theorem qD_inj {x y : Qn} (h : qD x = qD y) : x = y := by
  have := qD_eqv x y
  rw [h, qD_eqv] at this
  simpa using this
theorem pair_eqv (x y x' y' : Qn) : PyData.eqv (.tuple [qD x, qD y]) (.tuple [qD x', qD y']) = decide (x = x' ∧ y = y') := by
  have h := pl_eqv (.tuple [qD x, qD y]) (.tuple [qD x', qD y']) (rows_pl [x, y]) (rows_pl [x', y'])
  by_cases e : x = x' ∧ y = y'
  · rw [decide_eq_true e]
    exact h.mpr (by rw [e.1, e.2])
  · rw [decide_eq_false e, ← Bool.not_eq_true]
    exact fun z => e (by
      have := h.mp z
      simp only [PyData.tuple.injEq, List.cons.injEq, and_true] at this
      exact ⟨qD_inj this.1, qD_inj this.2⟩)

theorem loop_l2 (Z : VEnds) (g : Qn) (hg : Wh g) (bg : nm g ≤ lim) (g0 : g ≠ NQ.zero) (x0 x1 x2 x3 x4 x5 x6 x7 x8 x9 x10 x13 x14 x15 x16 x17 x18 x19 x20 x21 x22 : SV) : ∀ (ls : List Qn), (∀ l ∈ ls, Wh l ∧ nm l ≤ lim ∧ RD g l) → ∀ s : SV, (∀ s, Z.nx [x0, x1, x2, x3, x4, x5, x6, x7, x8, x9, x10, .fr (qD g), s, x13, x14, x15, x16, x17, x18, x19, x20, x21, x22]) →
    vFor rd_law_f2g rd_law_f2b Z (ls.map qD) [x0, x1, x2, x3, x4, x5, x6, x7, x8, x9, x10, .fr (qD g), s, x13, x14, x15, x16, x17, x18, x19, x20, x21, x22] := by
  intro ls
  induction ls with
  | nil => intro _ s h; have := h s; simpa [vFor_nil] using this
  | cons l ls ih =>
    intro hl s h
    rw [List.map_cons, vFor_cons]
    generalize hW : vFor rd_law_f2g rd_law_f2b Z (ls.map qD) = W
    obtain ⟨h1, h2, r, hr, er⟩ := hl l List.mem_cons_self
    have k1 : ∀ a b : D, atI [a, b] 1 = some b := fun a b => rfl
    simp only [↓rd_law_f2g, ↓rd_law_f2b, ↓vSeq, ↓vPar, ↓vPar3, ↓vSet, ↓vSetO, ↓vAsg, ↓vAug, ↓vAppend, ↓vExt, ↓vUnp, ↓vFz, ↓vRet, ↓vRetN, ↓vDrop, ↓vIfS, ↓vNext, ↓vBrk, ↓vCnt, ↓vNever, ↓vForS, ↓vC, ↓vVar, ↓vTup, ↓vOf, ↓vBin, ↓vBinL, ↓vBinR, ↓vUn, ↓vCall, ↓vCallO, ↓vCallIO, ↓vCallSC, ↓vLookA, ↓vB, ↓vTru, ↓vTruO, ↓vAnd, ↓vOr, ↓vNot, ↓vAndV, ↓vOrV, ↓vNotV, ↓vIf, ↓vChain, ↓vNil, ↓vCons, ↓vSl, ↓vSlL, ↓vP0, ↓vP1, ↓vRevT, ↓vRevL, ↓vRevLL, ↓vBits, ↓vPop, ↓vLc, ↓vTurn, ↓vYes, ↓gN, ↓gT, ↓gsC, ↓gs0, ↓gSet, ↓wL, ↓wT, ↓wR1, ↓wR2, ↓d2, ↓d20, ↓dAdd, ↓dMul, ↓dEq, ↓dNe, ↓dIsN, ↓dIsB, ↓dNotB, ↓dNotN, ↓isN, ↓dNeg, ↓dIx, ↓dInI, ↓dSl, ↓truD, ↓cLen, ↓cAbs, ↓cMax2, ↓cMin2, ↓cInt, ↓cTup, ↓cLst, ↓sv, ↓List.getD_cons_zero, ↓List.getD_cons_succ, ↓List.set_cons_zero, ↓List.set_cons_succ, ↓vxSeq, ↓vxIf, ↓vxRaise, ↓vxRet, ↓vxAsg, ↓vxCall, ↓vReason, ↓vEqS, ↓vIsi, ↓wR3, ↓wZip, ↓vSetDk, ↓vDkIn, ↓vDkPut, ↓vParE, ↓gL, ↓vxDrop, ↓cSrt, ↓cSum, ↓cMinD, ↓cAnyI, ↓vLenSet, ↓vLc2]
    refine ⟨l, g, rfl, h1, h2, hg, bg, g0, fun t ht _ ex => ?_⟩
    have e0 : NQ.sub l (mul t g) = NQ.zero := by rw [ex r hr er, ← er, NQ.sub_self]
    simp only [e0, ↓vSeq, ↓vPar, ↓vPar3, ↓vSet, ↓vSetO, ↓vAsg, ↓vAug, ↓vAppend, ↓vExt, ↓vUnp, ↓vFz, ↓vRet, ↓vRetN, ↓vDrop, ↓vIfS, ↓vNext, ↓vBrk, ↓vCnt, ↓vNever, ↓vForS, ↓vC, ↓vVar, ↓vTup, ↓vOf, ↓vBin, ↓vBinL, ↓vBinR, ↓vUn, ↓vCall, ↓vCallO, ↓vCallIO, ↓vCallSC, ↓vLookA, ↓vB, ↓vTru, ↓vTruO, ↓vAnd, ↓vOr, ↓vNot, ↓vAndV, ↓vOrV, ↓vNotV, ↓vIf, ↓vChain, ↓vNil, ↓vCons, ↓vSl, ↓vSlL, ↓vP0, ↓vP1, ↓vRevT, ↓vRevL, ↓vRevLL, ↓vBits, ↓vPop, ↓vLc, ↓vTurn, ↓vYes, ↓gN, ↓gT, ↓gsC, ↓gs0, ↓gSet, ↓wL, ↓wT, ↓wR1, ↓wR2, ↓d2, ↓d20, ↓dAdd, ↓dMul, ↓dEq, ↓dNe, ↓dIsN, ↓dIsB, ↓dNotB, ↓dNotN, ↓isN, ↓dNeg, ↓dIx, ↓dInI, ↓dSl, ↓truD, ↓cLen, ↓cAbs, ↓cMax2, ↓cMin2, ↓cInt, ↓cTup, ↓cLst, ↓sv, ↓List.getD_cons_zero, ↓List.getD_cons_succ, ↓List.set_cons_zero, ↓List.set_cons_succ, ↓vxSeq, ↓vxIf, ↓vxRaise, ↓vxRet, ↓vxAsg, ↓vxCall, ↓vReason, ↓vEqS, ↓vIsi, ↓wR3, ↓wZip, ↓vSetDk, ↓vDkIn, ↓vDkPut, ↓vParE, ↓gL, ↓vxDrop, ↓cSrt, ↓cSum, ↓cMinD, ↓cAnyI, ↓vLenSet, ↓vLc2, k1]
    refine ⟨⟨qD_sh _, qD_sh NQ.zero⟩, ?_⟩
    simp only [zz_eqv, Bool.not_true]
    rw [← hW]
    exact ih (fun v hv => hl v (List.mem_cons_of_mem _ hv)) _ h
theorem L6 (x y : Qn) (hx : Wh x) (nx : nm x < 1000) (hy : Wh y) (ny : nm y < 1000) (gs : List Int) (hd : digsOk gs) (at_ : Int) (h0 : 0 ≤ at_) (h1 : at_ + 6 ≤ gs.length) (x0 x4 x5 x6 x7 x8 x9 x10 x11 x12 x13 x15 x16 x17 x18 x19 : SV) :
    rd_law_k6_6 { nx := fun _ => False, rt := fun d _ => d = .bool true } [x0, .ow [.list (gs.map .int), .int at_], .fr (qD x), .fr (qD y), x4, x5, x6, x7, x8, x9, x10, x11, x12, x13, .un, x15, x16, x17, x18, x19, .un, .un, .un] := by
  have lp : lim = 67108864 := rfl
  have lb : big = 18014398509481984 := rfl
  have go : ∀ x0 x3 x4 x5 x6 x7 x8 x9 x10 x11 x12 x13 x15 x16 x17 x18 x19 : SV, rd_law_k6_8 { nx := fun _ => False, rt := fun d _ => d = .bool true } [x0, .ow [.list (gs.map .int), .int (at_ + 5)], .fr (qD x), x3, x4, x5, x6, x7, x8, x9, x10, x11, x12, x13, .un, x15, x16, x17, x18, x19, .un, .un, .un] := fun x0 x3 x4 x5 x6 x7 x8 x9 x10 x11 x12 x13 x15 x16 x17 x18 x19 => L8 x hx nx gs hd (at_ + 5) (by omega) (by omega) x0 x3 x4 x5 x6 x7 x8 x9 x10 x11 x12 x13 x15 x16 x17 x18 x19
  simp only [↓rd_law_k6_6, ↓vSeq, ↓vPar, ↓vPar3, ↓vSet, ↓vSetO, ↓vAsg, ↓vAug, ↓vAppend, ↓vExt, ↓vUnp, ↓vFz, ↓vRet, ↓vRetN, ↓vDrop, ↓vIfS, ↓vNext, ↓vBrk, ↓vCnt, ↓vNever, ↓vForS, ↓vC, ↓vVar, ↓vTup, ↓vOf, ↓vBin, ↓vBinL, ↓vBinR, ↓vUn, ↓vCall, ↓vCallO, ↓vCallIO, ↓vCallSC, ↓vLookA, ↓vB, ↓vTru, ↓vTruO, ↓vAnd, ↓vOr, ↓vNot, ↓vAndV, ↓vOrV, ↓vNotV, ↓vIf, ↓vChain, ↓vNil, ↓vCons, ↓vSl, ↓vSlL, ↓vP0, ↓vP1, ↓vRevT, ↓vRevL, ↓vRevLL, ↓vBits, ↓vPop, ↓vLc, ↓vTurn, ↓vYes, ↓gN, ↓gT, ↓gsC, ↓gs0, ↓gSet, ↓wL, ↓wT, ↓wR1, ↓wR2, ↓d2, ↓d20, ↓dAdd, ↓dMul, ↓dEq, ↓dNe, ↓dIsN, ↓dIsB, ↓dNotB, ↓dNotN, ↓isN, ↓dNeg, ↓dIx, ↓dInI, ↓dSl, ↓truD, ↓cLen, ↓cAbs, ↓cMax2, ↓cMin2, ↓cInt, ↓cTup, ↓cLst, ↓sv, ↓List.getD_cons_zero, ↓List.getD_cons_succ, ↓List.set_cons_zero, ↓List.set_cons_succ, ↓vxSeq, ↓vxIf, ↓vxRaise, ↓vxRet, ↓vxAsg, ↓vxCall, ↓vReason, ↓vEqS, ↓vIsi, ↓wR3, ↓wZip, ↓vSetDk, ↓vDkIn, ↓vDkPut, ↓vParE, ↓gL, ↓vxDrop, ↓cSrt, ↓cSum, ↓cMinD, ↓cAnyI, ↓vLenSet, ↓vLc2]
  refine ⟨gs, at_, 3, rfl, rfl, by omega, by omega, hd, h0, by omega, fun z hz z1 z2 z3 z4 => ?_⟩
  have nz := NQ.nm_bd (q := z) (B := 7) ⟨by omega, by omega⟩ ⟨by omega, by omega⟩ ⟨by omega, by omega⟩ ⟨by omega, by omega⟩
  simp only [↓rd_law_k6_7, ↓vSeq, ↓vPar, ↓vPar3, ↓vSet, ↓vSetO, ↓vAsg, ↓vAug, ↓vAppend, ↓vExt, ↓vUnp, ↓vFz, ↓vRet, ↓vRetN, ↓vDrop, ↓vIfS, ↓vNext, ↓vBrk, ↓vCnt, ↓vNever, ↓vForS, ↓vC, ↓vVar, ↓vTup, ↓vOf, ↓vBin, ↓vBinL, ↓vBinR, ↓vUn, ↓vCall, ↓vCallO, ↓vCallIO, ↓vCallSC, ↓vLookA, ↓vB, ↓vTru, ↓vTruO, ↓vAnd, ↓vOr, ↓vNot, ↓vAndV, ↓vOrV, ↓vNotV, ↓vIf, ↓vChain, ↓vNil, ↓vCons, ↓vSl, ↓vSlL, ↓vP0, ↓vP1, ↓vRevT, ↓vRevL, ↓vRevLL, ↓vBits, ↓vPop, ↓vLc, ↓vTurn, ↓vYes, ↓gN, ↓gT, ↓gsC, ↓gs0, ↓gSet, ↓wL, ↓wT, ↓wR1, ↓wR2, ↓d2, ↓d20, ↓dAdd, ↓dMul, ↓dEq, ↓dNe, ↓dIsN, ↓dIsB, ↓dNotB, ↓dNotN, ↓isN, ↓dNeg, ↓dIx, ↓dInI, ↓dSl, ↓truD, ↓cLen, ↓cAbs, ↓cMax2, ↓cMin2, ↓cInt, ↓cTup, ↓cLst, ↓sv, ↓List.getD_cons_zero, ↓List.getD_cons_succ, ↓List.set_cons_zero, ↓List.set_cons_succ, ↓vxSeq, ↓vxIf, ↓vxRaise, ↓vxRet, ↓vxAsg, ↓vxCall, ↓vReason, ↓vEqS, ↓vIsi, ↓wR3, ↓wZip, ↓vSetDk, ↓vDkIn, ↓vDkPut, ↓vParE, ↓gL, ↓vxDrop, ↓cSrt, ↓cSum, ↓cMinD, ↓cAnyI, ↓vLenSet, ↓vLc2]
  refine ⟨⟨qD_sh z, qD_sh NQ.zero⟩, ?_⟩
  show (match !PyData.eqv (qD z) (qD NQ.zero) with | true => _ | false => _)
  rw [qD_eqv]
  by_cases hz0 : z = NQ.zero
  · simp only [decide_eq_true hz0, Bool.not_true]
    exact go _ _ _ _ _ _ _ _ _ _ _ _ _ _ _ _ _
  simp only [decide_eq_false hz0, Bool.not_false]
  refine ⟨x, z, rfl, hx, by omega, y, z, rfl, hy, by omega, ?_⟩
  simp only [↓rd_law_k3_1, ↓vSeq, ↓vPar, ↓vPar3, ↓vSet, ↓vSetO, ↓vAsg, ↓vAug, ↓vAppend, ↓vExt, ↓vUnp, ↓vFz, ↓vRet, ↓vRetN, ↓vDrop, ↓vIfS, ↓vNext, ↓vBrk, ↓vCnt, ↓vNever, ↓vForS, ↓vC, ↓vVar, ↓vTup, ↓vOf, ↓vBin, ↓vBinL, ↓vBinR, ↓vUn, ↓vCall, ↓vCallO, ↓vCallIO, ↓vCallSC, ↓vLookA, ↓vB, ↓vTru, ↓vTruO, ↓vAnd, ↓vOr, ↓vNot, ↓vAndV, ↓vOrV, ↓vNotV, ↓vIf, ↓vChain, ↓vNil, ↓vCons, ↓vSl, ↓vSlL, ↓vP0, ↓vP1, ↓vRevT, ↓vRevL, ↓vRevLL, ↓vBits, ↓vPop, ↓vLc, ↓vTurn, ↓vYes, ↓gN, ↓gT, ↓gsC, ↓gs0, ↓gSet, ↓wL, ↓wT, ↓wR1, ↓wR2, ↓d2, ↓d20, ↓dAdd, ↓dMul, ↓dEq, ↓dNe, ↓dIsN, ↓dIsB, ↓dNotB, ↓dNotN, ↓isN, ↓dNeg, ↓dIx, ↓dInI, ↓dSl, ↓truD, ↓cLen, ↓cAbs, ↓cMax2, ↓cMin2, ↓cInt, ↓cTup, ↓cLst, ↓sv, ↓List.getD_cons_zero, ↓List.getD_cons_succ, ↓List.set_cons_zero, ↓List.set_cons_succ, ↓vxSeq, ↓vxIf, ↓vxRaise, ↓vxRet, ↓vxAsg, ↓vxCall, ↓vReason, ↓vEqS, ↓vIsi, ↓wR3, ↓wZip, ↓vSetDk, ↓vDkIn, ↓vDkPut, ↓vParE, ↓gL, ↓vxDrop, ↓cSrt, ↓cSum, ↓cMinD, ↓cAnyI, ↓vLenSet, ↓vLc2]
  have prod : ∀ w, Wh w → nm w < 1000 → Wh (mul w z) ∧ nm (mul w z) ≤ lim := fun w hw nw => by
    refine ⟨NQ.wh_mul hw hz, ?_⟩
    rw [NQ.nm_mul hw hz]
    have := Int.mul_le_mul (show nm w ≤ 1000 by omega) (show nm z ≤ 49 by omega) (NQ.nm0 z) (by omega)
    omega
  obtain ⟨l1, l2⟩ := prod x hx nx
  obtain ⟨r1, r2⟩ := prod y hy ny
  refine ⟨mul x z, mul y z, rfl, l1, l2, r1, r2, fun g u v hg hu hv eg rl rr bg => ?_⟩
  have rz : RD z g := by rw [eg]; exact NQ.RD.comb hz hu hv ⟨x, hx, rfl⟩ ⟨y, hy, rfl⟩
  simp only [↓rd_law_k3_2, ↓vSeq, ↓vPar, ↓vPar3, ↓vSet, ↓vSetO, ↓vAsg, ↓vAug, ↓vAppend, ↓vExt, ↓vUnp, ↓vFz, ↓vRet, ↓vRetN, ↓vDrop, ↓vIfS, ↓vNext, ↓vBrk, ↓vCnt, ↓vNever, ↓vForS, ↓vC, ↓vVar, ↓vTup, ↓vOf, ↓vBin, ↓vBinL, ↓vBinR, ↓vUn, ↓vCall, ↓vCallO, ↓vCallIO, ↓vCallSC, ↓vLookA, ↓vB, ↓vTru, ↓vTruO, ↓vAnd, ↓vOr, ↓vNot, ↓vAndV, ↓vOrV, ↓vNotV, ↓vIf, ↓vChain, ↓vNil, ↓vCons, ↓vSl, ↓vSlL, ↓vP0, ↓vP1, ↓vRevT, ↓vRevL, ↓vRevLL, ↓vBits, ↓vPop, ↓vLc, ↓vTurn, ↓vYes, ↓gN, ↓gT, ↓gsC, ↓gs0, ↓gSet, ↓wL, ↓wT, ↓wR1, ↓wR2, ↓d2, ↓d20, ↓dAdd, ↓dMul, ↓dEq, ↓dNe, ↓dIsN, ↓dIsB, ↓dNotB, ↓dNotN, ↓isN, ↓dNeg, ↓dIx, ↓dInI, ↓dSl, ↓truD, ↓cLen, ↓cAbs, ↓cMax2, ↓cMin2, ↓cInt, ↓cTup, ↓cLst, ↓sv, ↓List.getD_cons_zero, ↓List.getD_cons_succ, ↓List.set_cons_zero, ↓List.set_cons_succ, ↓vxSeq, ↓vxIf, ↓vxRaise, ↓vxRet, ↓vxAsg, ↓vxCall, ↓vReason, ↓vEqS, ↓vIsi, ↓wR3, ↓wZip, ↓vSetDk, ↓vDkIn, ↓vDkPut, ↓vParE, ↓gL, ↓vxDrop, ↓cSrt, ↓cSum, ↓cMinD, ↓cAnyI, ↓vLenSet, ↓vLc2]
  refine ⟨⟨pair_sh _ _, pair_sh NQ.zero NQ.zero⟩, ?_⟩
  show (match !PyData.eqv (.tuple [qD (mul x z), qD (mul y z)]) (.tuple [qD NQ.zero, qD NQ.zero]) with | true => _ | false => _)
  rw [pair_eqv]
  by_cases hc : mul x z = NQ.zero ∧ mul y z = NQ.zero
  · simp only [decide_eq_true hc, Bool.not_true]
    exact go _ _ _ _ _ _ _ _ _ _ _ _ _ _ _ _ _
  simp only [decide_eq_false hc, Bool.not_false]
  have g0 : g ≠ NQ.zero := fun e => hc (by
    obtain ⟨r, _, er⟩ := rl
    obtain ⟨s, _, es⟩ := rr
    rw [e, NQ.mul_zeroR] at er es
    exact ⟨er, es⟩)
  refine loop_l2 _ g hg bg g0 _ _ _ _ _ _ _ _ _ _ _ _ _ _ _ _ _ _ _ _ _ [mul x z, mul y z] (fun l hl => ?_) _ fun s => ?_
  · simp only [List.mem_cons, List.not_mem_nil, or_false] at hl
    rcases hl with rfl | rfl
    · exact ⟨l1, l2, rl⟩
    · exact ⟨r1, r2, rr⟩
  have k1 : ∀ a b : D, atI [a, b] 1 = some b := fun a b => rfl
  simp only [↓rd_law_k2_1, ↓vSeq, ↓vPar, ↓vPar3, ↓vSet, ↓vSetO, ↓vAsg, ↓vAug, ↓vAppend, ↓vExt, ↓vUnp, ↓vFz, ↓vRet, ↓vRetN, ↓vDrop, ↓vIfS, ↓vNext, ↓vBrk, ↓vCnt, ↓vNever, ↓vForS, ↓vC, ↓vVar, ↓vTup, ↓vOf, ↓vBin, ↓vBinL, ↓vBinR, ↓vUn, ↓vCall, ↓vCallO, ↓vCallIO, ↓vCallSC, ↓vLookA, ↓vB, ↓vTru, ↓vTruO, ↓vAnd, ↓vOr, ↓vNot, ↓vAndV, ↓vOrV, ↓vNotV, ↓vIf, ↓vChain, ↓vNil, ↓vCons, ↓vSl, ↓vSlL, ↓vP0, ↓vP1, ↓vRevT, ↓vRevL, ↓vRevLL, ↓vBits, ↓vPop, ↓vLc, ↓vTurn, ↓vYes, ↓gN, ↓gT, ↓gsC, ↓gs0, ↓gSet, ↓wL, ↓wT, ↓wR1, ↓wR2, ↓d2, ↓d20, ↓dAdd, ↓dMul, ↓dEq, ↓dNe, ↓dIsN, ↓dIsB, ↓dNotB, ↓dNotN, ↓isN, ↓dNeg, ↓dIx, ↓dInI, ↓dSl, ↓truD, ↓cLen, ↓cAbs, ↓cMax2, ↓cMin2, ↓cInt, ↓cTup, ↓cLst, ↓sv, ↓List.getD_cons_zero, ↓List.getD_cons_succ, ↓List.set_cons_zero, ↓List.set_cons_succ, ↓vxSeq, ↓vxIf, ↓vxRaise, ↓vxRet, ↓vxAsg, ↓vxCall, ↓vReason, ↓vEqS, ↓vIsi, ↓wR3, ↓wZip, ↓vSetDk, ↓vDkIn, ↓vDkPut, ↓vParE, ↓gL, ↓vxDrop, ↓cSrt, ↓cSum, ↓cMinD, ↓cAnyI, ↓vLenSet, ↓vLc2]
  refine ⟨g, z, rfl, hg, bg, hz, by omega, hz0, fun t ht _ ex => ?_⟩
  obtain ⟨r, hr, er⟩ := rz
  have e0 : NQ.sub g (mul t z) = NQ.zero := by rw [ex r hr er, ← er, NQ.sub_self]
  simp only [e0, ↓vSeq, ↓vPar, ↓vPar3, ↓vSet, ↓vSetO, ↓vAsg, ↓vAug, ↓vAppend, ↓vExt, ↓vUnp, ↓vFz, ↓vRet, ↓vRetN, ↓vDrop, ↓vIfS, ↓vNext, ↓vBrk, ↓vCnt, ↓vNever, ↓vForS, ↓vC, ↓vVar, ↓vTup, ↓vOf, ↓vBin, ↓vBinL, ↓vBinR, ↓vUn, ↓vCall, ↓vCallO, ↓vCallIO, ↓vCallSC, ↓vLookA, ↓vB, ↓vTru, ↓vTruO, ↓vAnd, ↓vOr, ↓vNot, ↓vAndV, ↓vOrV, ↓vNotV, ↓vIf, ↓vChain, ↓vNil, ↓vCons, ↓vSl, ↓vSlL, ↓vP0, ↓vP1, ↓vRevT, ↓vRevL, ↓vRevLL, ↓vBits, ↓vPop, ↓vLc, ↓vTurn, ↓vYes, ↓gN, ↓gT, ↓gsC, ↓gs0, ↓gSet, ↓wL, ↓wT, ↓wR1, ↓wR2, ↓d2, ↓d20, ↓dAdd, ↓dMul, ↓dEq, ↓dNe, ↓dIsN, ↓dIsB, ↓dNotB, ↓dNotN, ↓isN, ↓dNeg, ↓dIx, ↓dInI, ↓dSl, ↓truD, ↓cLen, ↓cAbs, ↓cMax2, ↓cMin2, ↓cInt, ↓cTup, ↓cLst, ↓sv, ↓List.getD_cons_zero, ↓List.getD_cons_succ, ↓List.set_cons_zero, ↓List.set_cons_succ, ↓vxSeq, ↓vxIf, ↓vxRaise, ↓vxRet, ↓vxAsg, ↓vxCall, ↓vReason, ↓vEqS, ↓vIsi, ↓wR3, ↓wZip, ↓vSetDk, ↓vDkIn, ↓vDkPut, ↓vParE, ↓gL, ↓vxDrop, ↓cSrt, ↓cSum, ↓cMinD, ↓cAnyI, ↓vLenSet, ↓vLc2, k1]
  refine ⟨⟨qD_sh _, qD_sh NQ.zero⟩, ?_⟩
  simp only [zz_eqv, Bool.not_true]
  exact go _ _ _ _ _ _ _ _ _ _ _ _ _ _ _ _ _
end VL

set_option Elab.async false
set_option linter.all false
set_option maxRecDepth 1000000
set_option maxHeartbeats 8000000
set_option pp.deepTerms false
set_option pp.deepTerms.threshold 6
namespace VL
open PySem PySem.Spec PyProof.Rows L2 HD
open NQ (Qn Wh mul conj nm RD Near)

theorem comp_l1 (Q : List D → Ev → Prop) (b r : Qn) (x0 x1 x2 x3 x4 x5 x8 x9 x10 x11 x12 x13 x14 x15 x16 x17 x18 x19 x21 x22 : SV) (h : Q [.int (b.a + r.a), .int (b.b + r.b), .int (b.c + r.c), .int (b.d + r.d)] [x0, x1, x2, x3, x4, x5, .fr (qD r), .fr (qD b), x8, x9, x10, x11, x12, x13, x14, x15, x16, x17, x18, x19, .un, x21, x22]) :
    vComp rd_law_c1_g rd_law_c1_t rd_law_c1_e [20] Q [.int 0, .int 1, .int 2, .int 3] [x0, x1, x2, x3, x4, x5, .fr (qD r), .fr (qD b), x8, x9, x10, x11, x12, x13, x14, x15, x16, x17, x18, x19, .un, x21, x22] [] := by
  have k0 : ∀ a b c d : D, atI [a, b, c, d] 0 = some a := fun a b c d => rfl
  have k1 : ∀ a b c d : D, atI [a, b, c, d] 1 = some b := fun a b c d => rfl
  have k2 : ∀ a b c d : D, atI [a, b, c, d] 2 = some c := fun a b c d => rfl
  have k3 : ∀ a b c d : D, atI [a, b, c, d] 3 = some d := fun a b c d => rfl
  simp only [↓vComp, ↓vTurn, ↓rd_law_c1_g, ↓rd_law_c1_t, ↓rd_law_c1_e, ↓wipeE, ↓vSeq, ↓vPar, ↓vPar3, ↓vSet, ↓vSetO, ↓vAsg, ↓vAug, ↓vAppend, ↓vExt, ↓vUnp, ↓vFz, ↓vRet, ↓vRetN, ↓vDrop, ↓vIfS, ↓vNext, ↓vBrk, ↓vCnt, ↓vNever, ↓vForS, ↓vC, ↓vVar, ↓vTup, ↓vOf, ↓vBin, ↓vBinL, ↓vBinR, ↓vUn, ↓vCall, ↓vCallO, ↓vCallIO, ↓vCallSC, ↓vLookA, ↓vB, ↓vTru, ↓vTruO, ↓vAnd, ↓vOr, ↓vNot, ↓vAndV, ↓vOrV, ↓vNotV, ↓vIf, ↓vChain, ↓vNil, ↓vCons, ↓vSl, ↓vSlL, ↓vP0, ↓vP1, ↓vRevT, ↓vRevL, ↓vRevLL, ↓vBits, ↓vPop, ↓vLc, ↓vTurn, ↓vYes, ↓gN, ↓gT, ↓gsC, ↓gs0, ↓gSet, ↓wL, ↓wT, ↓wR1, ↓wR2, ↓d2, ↓d20, ↓dAdd, ↓dMul, ↓dEq, ↓dNe, ↓dIsN, ↓dIsB, ↓dNotB, ↓dNotN, ↓isN, ↓dNeg, ↓dIx, ↓dInI, ↓dSl, ↓truD, ↓cLen, ↓cAbs, ↓cMax2, ↓cMin2, ↓cInt, ↓cTup, ↓cLst, ↓sv, ↓List.getD_cons_zero, ↓List.getD_cons_succ, ↓List.set_cons_zero, ↓List.set_cons_succ, ↓vxSeq, ↓vxIf, ↓vxRaise, ↓vxRet, ↓vxAsg, ↓vxCall, ↓vReason, ↓vEqS, ↓vIsi, ↓wR3, ↓wZip, ↓vSetDk, ↓vDkIn, ↓vDkPut, ↓vParE, ↓gL, ↓vxDrop, ↓cSrt, ↓cSum, ↓cMinD, ↓cAnyI, ↓vLenSet, ↓vLc2, back, qD, tI, List.map_cons, List.map_nil, k0, k1, k2, k3, List.nil_append, List.cons_append]
  exact h
theorem hq_law (ns : List Int) : rd_law { nx := fun _ => False, rt := fun d _ => d = .bool true } (evS ["script", "box", "one", "other", "both", "quotient", "rest", "back", "third", "left", "right", "found", "some", "units", "unit", "row", "whole", "norms", "even", "p", "k", "n", "number"] ns []) := by
  show rd_law _ [.rw ns, .un, .un, .un, .un, .un, .un, .un, .un, .un, .un, .un, .un, .un, .un, .un, .un, .un, .un, .un, .un, .un, .un]
  have lp : lim = 67108864 := rfl
  have lb : big = 18014398509481984 := rfl
  simp only [↓rd_law, ↓vSeq, ↓vPar, ↓vPar3, ↓vSet, ↓vSetO, ↓vAsg, ↓vAug, ↓vAppend, ↓vExt, ↓vUnp, ↓vFz, ↓vRet, ↓vRetN, ↓vDrop, ↓vIfS, ↓vNext, ↓vBrk, ↓vCnt, ↓vNever, ↓vForS, ↓vC, ↓vVar, ↓vTup, ↓vOf, ↓vBin, ↓vBinL, ↓vBinR, ↓vUn, ↓vCall, ↓vCallO, ↓vCallIO, ↓vCallSC, ↓vLookA, ↓vB, ↓vTru, ↓vTruO, ↓vAnd, ↓vOr, ↓vNot, ↓vAndV, ↓vOrV, ↓vNotV, ↓vIf, ↓vChain, ↓vNil, ↓vCons, ↓vSl, ↓vSlL, ↓vP0, ↓vP1, ↓vRevT, ↓vRevL, ↓vRevLL, ↓vBits, ↓vPop, ↓vLc, ↓vTurn, ↓vYes, ↓gN, ↓gT, ↓gsC, ↓gs0, ↓gSet, ↓wL, ↓wT, ↓wR1, ↓wR2, ↓d2, ↓d20, ↓dAdd, ↓dMul, ↓dEq, ↓dNe, ↓dIsN, ↓dIsB, ↓dNotB, ↓dNotN, ↓isN, ↓dNeg, ↓dIx, ↓dInI, ↓dSl, ↓truD, ↓cLen, ↓cAbs, ↓cMax2, ↓cMin2, ↓cInt, ↓cTup, ↓cLst, ↓sv, ↓List.getD_cons_zero, ↓List.getD_cons_succ, ↓List.set_cons_zero, ↓List.set_cons_succ, ↓vxSeq, ↓vxIf, ↓vxRaise, ↓vxRet, ↓vxAsg, ↓vxCall, ↓vReason, ↓vEqS, ↓vIsi, ↓wR3, ↓wZip, ↓vSetDk, ↓vDkIn, ↓vDkPut, ↓vParE, ↓gL, ↓vxDrop, ↓cSrt, ↓cSum, ↓cMinD, ↓cAnyI, ↓vLenSet, ↓vLc2]
  refine ⟨0, 63, rfl, by omega, by omega, by omega, fun gs hg hl => ?_⟩
  simp only [↓rd_law_k6_1, ↓vSeq, ↓vPar, ↓vPar3, ↓vSet, ↓vSetO, ↓vAsg, ↓vAug, ↓vAppend, ↓vExt, ↓vUnp, ↓vFz, ↓vRet, ↓vRetN, ↓vDrop, ↓vIfS, ↓vNext, ↓vBrk, ↓vCnt, ↓vNever, ↓vForS, ↓vC, ↓vVar, ↓vTup, ↓vOf, ↓vBin, ↓vBinL, ↓vBinR, ↓vUn, ↓vCall, ↓vCallO, ↓vCallIO, ↓vCallSC, ↓vLookA, ↓vB, ↓vTru, ↓vTruO, ↓vAnd, ↓vOr, ↓vNot, ↓vAndV, ↓vOrV, ↓vNotV, ↓vIf, ↓vChain, ↓vNil, ↓vCons, ↓vSl, ↓vSlL, ↓vP0, ↓vP1, ↓vRevT, ↓vRevL, ↓vRevLL, ↓vBits, ↓vPop, ↓vLc, ↓vTurn, ↓vYes, ↓gN, ↓gT, ↓gsC, ↓gs0, ↓gSet, ↓wL, ↓wT, ↓wR1, ↓wR2, ↓d2, ↓d20, ↓dAdd, ↓dMul, ↓dEq, ↓dNe, ↓dIsN, ↓dIsB, ↓dNotB, ↓dNotN, ↓isN, ↓dNeg, ↓dIx, ↓dInI, ↓dSl, ↓truD, ↓cLen, ↓cAbs, ↓cMax2, ↓cMin2, ↓cInt, ↓cTup, ↓cLst, ↓sv, ↓List.getD_cons_zero, ↓List.getD_cons_succ, ↓List.set_cons_zero, ↓List.set_cons_succ, ↓vxSeq, ↓vxIf, ↓vxRaise, ↓vxRet, ↓vxAsg, ↓vxCall, ↓vReason, ↓vEqS, ↓vIsi, ↓wR3, ↓wZip, ↓vSetDk, ↓vDkIn, ↓vDkPut, ↓vParE, ↓gL, ↓vxDrop, ↓cSrt, ↓cSum, ↓cMinD, ↓cAnyI, ↓vLenSet, ↓vLc2]
  refine ⟨gs, 0, 6, rfl, rfl, by omega, by omega, hg, by omega, by omega, fun x hx x1 x2 x3 x4 => ?_⟩
  simp only [↓vSeq, ↓vPar, ↓vPar3, ↓vSet, ↓vSetO, ↓vAsg, ↓vAug, ↓vAppend, ↓vExt, ↓vUnp, ↓vFz, ↓vRet, ↓vRetN, ↓vDrop, ↓vIfS, ↓vNext, ↓vBrk, ↓vCnt, ↓vNever, ↓vForS, ↓vC, ↓vVar, ↓vTup, ↓vOf, ↓vBin, ↓vBinL, ↓vBinR, ↓vUn, ↓vCall, ↓vCallO, ↓vCallIO, ↓vCallSC, ↓vLookA, ↓vB, ↓vTru, ↓vTruO, ↓vAnd, ↓vOr, ↓vNot, ↓vAndV, ↓vOrV, ↓vNotV, ↓vIf, ↓vChain, ↓vNil, ↓vCons, ↓vSl, ↓vSlL, ↓vP0, ↓vP1, ↓vRevT, ↓vRevL, ↓vRevLL, ↓vBits, ↓vPop, ↓vLc, ↓vTurn, ↓vYes, ↓gN, ↓gT, ↓gsC, ↓gs0, ↓gSet, ↓wL, ↓wT, ↓wR1, ↓wR2, ↓d2, ↓d20, ↓dAdd, ↓dMul, ↓dEq, ↓dNe, ↓dIsN, ↓dIsB, ↓dNotB, ↓dNotN, ↓isN, ↓dNeg, ↓dIx, ↓dInI, ↓dSl, ↓truD, ↓cLen, ↓cAbs, ↓cMax2, ↓cMin2, ↓cInt, ↓cTup, ↓cLst, ↓sv, ↓List.getD_cons_zero, ↓List.getD_cons_succ, ↓List.set_cons_zero, ↓List.set_cons_succ, ↓vxSeq, ↓vxIf, ↓vxRaise, ↓vxRet, ↓vxAsg, ↓vxCall, ↓vReason, ↓vEqS, ↓vIsi, ↓wR3, ↓wZip, ↓vSetDk, ↓vDkIn, ↓vDkPut, ↓vParE, ↓gL, ↓vxDrop, ↓cSrt, ↓cSum, ↓cMinD, ↓cAnyI, ↓vLenSet, ↓vLc2]
  refine ⟨gs, 0 + 5, 4, rfl, rfl, by omega, by omega, hg, by omega, by omega, fun y hy y1 y2 y3 y4 => ?_⟩
  have nx := NQ.nm_bd (q := x) (B := 13) ⟨by omega, by omega⟩ ⟨by omega, by omega⟩ ⟨by omega, by omega⟩ ⟨by omega, by omega⟩
  have ny := NQ.nm_bd (q := y) (B := 9) ⟨by omega, by omega⟩ ⟨by omega, by omega⟩ ⟨by omega, by omega⟩ ⟨by omega, by omega⟩
  have go : ∀ x4 x5 x6 x7 x8 x9 x10 x11 x12 x13 x15 x16 x17 x18 x19 : SV, rd_law_k6_6 { nx := fun _ => False, rt := fun d _ => d = .bool true } [.rw ns, .ow [.list (gs.map .int), .int (0 + 5 + 5)], .fr (qD x), .fr (qD y), x4, x5, x6, x7, x8, x9, x10, x11, x12, x13, .un, x15, x16, x17, x18, x19, .un, .un, .un] := fun x4 x5 x6 x7 x8 x9 x10 x11 x12 x13 x15 x16 x17 x18 x19 => L6 x y hx (by omega) hy (by omega) gs hg (0 + 5 + 5) (by omega) (by omega) (.rw ns) x4 x5 x6 x7 x8 x9 x10 x11 x12 x13 x15 x16 x17 x18 x19
  simp only [↓vSeq, ↓vPar, ↓vPar3, ↓vSet, ↓vSetO, ↓vAsg, ↓vAug, ↓vAppend, ↓vExt, ↓vUnp, ↓vFz, ↓vRet, ↓vRetN, ↓vDrop, ↓vIfS, ↓vNext, ↓vBrk, ↓vCnt, ↓vNever, ↓vForS, ↓vC, ↓vVar, ↓vTup, ↓vOf, ↓vBin, ↓vBinL, ↓vBinR, ↓vUn, ↓vCall, ↓vCallO, ↓vCallIO, ↓vCallSC, ↓vLookA, ↓vB, ↓vTru, ↓vTruO, ↓vAnd, ↓vOr, ↓vNot, ↓vAndV, ↓vOrV, ↓vNotV, ↓vIf, ↓vChain, ↓vNil, ↓vCons, ↓vSl, ↓vSlL, ↓vP0, ↓vP1, ↓vRevT, ↓vRevL, ↓vRevLL, ↓vBits, ↓vPop, ↓vLc, ↓vTurn, ↓vYes, ↓gN, ↓gT, ↓gsC, ↓gs0, ↓gSet, ↓wL, ↓wT, ↓wR1, ↓wR2, ↓d2, ↓d20, ↓dAdd, ↓dMul, ↓dEq, ↓dNe, ↓dIsN, ↓dIsB, ↓dNotB, ↓dNotN, ↓isN, ↓dNeg, ↓dIx, ↓dInI, ↓dSl, ↓truD, ↓cLen, ↓cAbs, ↓cMax2, ↓cMin2, ↓cInt, ↓cTup, ↓cLst, ↓sv, ↓List.getD_cons_zero, ↓List.getD_cons_succ, ↓List.set_cons_zero, ↓List.set_cons_succ, ↓vxSeq, ↓vxIf, ↓vxRaise, ↓vxRet, ↓vxAsg, ↓vxCall, ↓vReason, ↓vEqS, ↓vIsi, ↓wR3, ↓wZip, ↓vSetDk, ↓vDkIn, ↓vDkPut, ↓vParE, ↓gL, ↓vxDrop, ↓cSrt, ↓cSum, ↓cMinD, ↓cAnyI, ↓vLenSet, ↓vLc2]
  refine ⟨rfl, ?_⟩
  simp only [↓rd_law_k6_2, ↓vSeq, ↓vPar, ↓vPar3, ↓vSet, ↓vSetO, ↓vAsg, ↓vAug, ↓vAppend, ↓vExt, ↓vUnp, ↓vFz, ↓vRet, ↓vRetN, ↓vDrop, ↓vIfS, ↓vNext, ↓vBrk, ↓vCnt, ↓vNever, ↓vForS, ↓vC, ↓vVar, ↓vTup, ↓vOf, ↓vBin, ↓vBinL, ↓vBinR, ↓vUn, ↓vCall, ↓vCallO, ↓vCallIO, ↓vCallSC, ↓vLookA, ↓vB, ↓vTru, ↓vTruO, ↓vAnd, ↓vOr, ↓vNot, ↓vAndV, ↓vOrV, ↓vNotV, ↓vIf, ↓vChain, ↓vNil, ↓vCons, ↓vSl, ↓vSlL, ↓vP0, ↓vP1, ↓vRevT, ↓vRevL, ↓vRevLL, ↓vBits, ↓vPop, ↓vLc, ↓vTurn, ↓vYes, ↓gN, ↓gT, ↓gsC, ↓gs0, ↓gSet, ↓wL, ↓wT, ↓wR1, ↓wR2, ↓d2, ↓d20, ↓dAdd, ↓dMul, ↓dEq, ↓dNe, ↓dIsN, ↓dIsB, ↓dNotB, ↓dNotN, ↓isN, ↓dNeg, ↓dIx, ↓dInI, ↓dSl, ↓truD, ↓cLen, ↓cAbs, ↓cMax2, ↓cMin2, ↓cInt, ↓cTup, ↓cLst, ↓sv, ↓List.getD_cons_zero, ↓List.getD_cons_succ, ↓List.set_cons_zero, ↓List.set_cons_succ, ↓vxSeq, ↓vxIf, ↓vxRaise, ↓vxRet, ↓vxAsg, ↓vxCall, ↓vReason, ↓vEqS, ↓vIsi, ↓wR3, ↓wZip, ↓vSetDk, ↓vDkIn, ↓vDkPut, ↓vParE, ↓gL, ↓vxDrop, ↓cSrt, ↓cSum, ↓cMinD, ↓cAnyI, ↓vLenSet, ↓vLc2]
  refine ⟨x, y, rfl, hx, by omega, hy, by omega, ?_⟩
  have pw := NQ.wh_mul hx hy
  have pn := NQ.nm_mul hx hy
  have pb : nm x * nm y ≤ 13 * 13 * (9 * 9) := Int.mul_le_mul nx ny (NQ.nm0 y) (by omega)
  simp only [↓rd_law_k6_3, ↓vSeq, ↓vPar, ↓vPar3, ↓vSet, ↓vSetO, ↓vAsg, ↓vAug, ↓vAppend, ↓vExt, ↓vUnp, ↓vFz, ↓vRet, ↓vRetN, ↓vDrop, ↓vIfS, ↓vNext, ↓vBrk, ↓vCnt, ↓vNever, ↓vForS, ↓vC, ↓vVar, ↓vTup, ↓vOf, ↓vBin, ↓vBinL, ↓vBinR, ↓vUn, ↓vCall, ↓vCallO, ↓vCallIO, ↓vCallSC, ↓vLookA, ↓vB, ↓vTru, ↓vTruO, ↓vAnd, ↓vOr, ↓vNot, ↓vAndV, ↓vOrV, ↓vNotV, ↓vIf, ↓vChain, ↓vNil, ↓vCons, ↓vSl, ↓vSlL, ↓vP0, ↓vP1, ↓vRevT, ↓vRevL, ↓vRevLL, ↓vBits, ↓vPop, ↓vLc, ↓vTurn, ↓vYes, ↓gN, ↓gT, ↓gsC, ↓gs0, ↓gSet, ↓wL, ↓wT, ↓wR1, ↓wR2, ↓d2, ↓d20, ↓dAdd, ↓dMul, ↓dEq, ↓dNe, ↓dIsN, ↓dIsB, ↓dNotB, ↓dNotN, ↓isN, ↓dNeg, ↓dIx, ↓dInI, ↓dSl, ↓truD, ↓cLen, ↓cAbs, ↓cMax2, ↓cMin2, ↓cInt, ↓cTup, ↓cLst, ↓sv, ↓List.getD_cons_zero, ↓List.getD_cons_succ, ↓List.set_cons_zero, ↓List.set_cons_succ, ↓vxSeq, ↓vxIf, ↓vxRaise, ↓vxRet, ↓vxAsg, ↓vxCall, ↓vReason, ↓vEqS, ↓vIsi, ↓wR3, ↓wZip, ↓vSetDk, ↓vDkIn, ↓vDkPut, ↓vParE, ↓gL, ↓vxDrop, ↓cSrt, ↓cSum, ↓cMinD, ↓cAnyI, ↓vLenSet, ↓vLc2]
  refine ⟨x, y, rfl, hx, by omega, ⟨qD_sh _, qD_sh _⟩, ?_⟩
  rw [qD_eqv]
  simp only [decide_true, Bool.not_true]
  have x0 := NQ.nm0 x
  have y0 := NQ.nm0 y
  refine ⟨mul x y, rfl, pw, by omega, x, rfl, hx, by omega, y, rfl, hy, by omega, ?_⟩
  simp only [↓vSeq, ↓vPar, ↓vPar3, ↓vSet, ↓vSetO, ↓vAsg, ↓vAug, ↓vAppend, ↓vExt, ↓vUnp, ↓vFz, ↓vRet, ↓vRetN, ↓vDrop, ↓vIfS, ↓vNext, ↓vBrk, ↓vCnt, ↓vNever, ↓vForS, ↓vC, ↓vVar, ↓vTup, ↓vOf, ↓vBin, ↓vBinL, ↓vBinR, ↓vUn, ↓vCall, ↓vCallO, ↓vCallIO, ↓vCallSC, ↓vLookA, ↓vB, ↓vTru, ↓vTruO, ↓vAnd, ↓vOr, ↓vNot, ↓vAndV, ↓vOrV, ↓vNotV, ↓vIf, ↓vChain, ↓vNil, ↓vCons, ↓vSl, ↓vSlL, ↓vP0, ↓vP1, ↓vRevT, ↓vRevL, ↓vRevLL, ↓vBits, ↓vPop, ↓vLc, ↓vTurn, ↓vYes, ↓gN, ↓gT, ↓gsC, ↓gs0, ↓gSet, ↓wL, ↓wT, ↓wR1, ↓wR2, ↓d2, ↓d20, ↓dAdd, ↓dMul, ↓dEq, ↓dNe, ↓dIsN, ↓dIsB, ↓dNotB, ↓dNotN, ↓isN, ↓dNeg, ↓dIx, ↓dInI, ↓dSl, ↓truD, ↓cLen, ↓cAbs, ↓cMax2, ↓cMin2, ↓cInt, ↓cTup, ↓cLst, ↓sv, ↓List.getD_cons_zero, ↓List.getD_cons_succ, ↓List.set_cons_zero, ↓List.set_cons_succ, ↓vxSeq, ↓vxIf, ↓vxRaise, ↓vxRet, ↓vxAsg, ↓vxCall, ↓vReason, ↓vEqS, ↓vIsi, ↓wR3, ↓wZip, ↓vSetDk, ↓vDkIn, ↓vDkPut, ↓vParE, ↓gL, ↓vxDrop, ↓cSrt, ↓cSum, ↓cMinD, ↓cAnyI, ↓vLenSet, ↓vLc2, pn, decide_true, Bool.not_true]
  refine ⟨mul_smallL ⟨by omega, by omega⟩, mul x y, rfl, ?_⟩
  simp only [decide_eq_true pw, ↓vSeq, ↓vPar, ↓vPar3, ↓vSet, ↓vSetO, ↓vAsg, ↓vAug, ↓vAppend, ↓vExt, ↓vUnp, ↓vFz, ↓vRet, ↓vRetN, ↓vDrop, ↓vIfS, ↓vNext, ↓vBrk, ↓vCnt, ↓vNever, ↓vForS, ↓vC, ↓vVar, ↓vTup, ↓vOf, ↓vBin, ↓vBinL, ↓vBinR, ↓vUn, ↓vCall, ↓vCallO, ↓vCallIO, ↓vCallSC, ↓vLookA, ↓vB, ↓vTru, ↓vTruO, ↓vAnd, ↓vOr, ↓vNot, ↓vAndV, ↓vOrV, ↓vNotV, ↓vIf, ↓vChain, ↓vNil, ↓vCons, ↓vSl, ↓vSlL, ↓vP0, ↓vP1, ↓vRevT, ↓vRevL, ↓vRevLL, ↓vBits, ↓vPop, ↓vLc, ↓vTurn, ↓vYes, ↓gN, ↓gT, ↓gsC, ↓gs0, ↓gSet, ↓wL, ↓wT, ↓wR1, ↓wR2, ↓d2, ↓d20, ↓dAdd, ↓dMul, ↓dEq, ↓dNe, ↓dIsN, ↓dIsB, ↓dNotB, ↓dNotN, ↓isN, ↓dNeg, ↓dIx, ↓dInI, ↓dSl, ↓truD, ↓cLen, ↓cAbs, ↓cMax2, ↓cMin2, ↓cInt, ↓cTup, ↓cLst, ↓sv, ↓List.getD_cons_zero, ↓List.getD_cons_succ, ↓List.set_cons_zero, ↓List.set_cons_succ, ↓vxSeq, ↓vxIf, ↓vxRaise, ↓vxRet, ↓vxAsg, ↓vxCall, ↓vReason, ↓vEqS, ↓vIsi, ↓wR3, ↓wZip, ↓vSetDk, ↓vDkIn, ↓vDkPut, ↓vParE, ↓gL, ↓vxDrop, ↓cSrt, ↓cSum, ↓cMinD, ↓cAnyI, ↓vLenSet, ↓vLc2, decide_true, Bool.not_true]
  simp only [↓rd_law_k6_4, ↓vSeq, ↓vPar, ↓vPar3, ↓vSet, ↓vSetO, ↓vAsg, ↓vAug, ↓vAppend, ↓vExt, ↓vUnp, ↓vFz, ↓vRet, ↓vRetN, ↓vDrop, ↓vIfS, ↓vNext, ↓vBrk, ↓vCnt, ↓vNever, ↓vForS, ↓vC, ↓vVar, ↓vTup, ↓vOf, ↓vBin, ↓vBinL, ↓vBinR, ↓vUn, ↓vCall, ↓vCallO, ↓vCallIO, ↓vCallSC, ↓vLookA, ↓vB, ↓vTru, ↓vTruO, ↓vAnd, ↓vOr, ↓vNot, ↓vAndV, ↓vOrV, ↓vNotV, ↓vIf, ↓vChain, ↓vNil, ↓vCons, ↓vSl, ↓vSlL, ↓vP0, ↓vP1, ↓vRevT, ↓vRevL, ↓vRevLL, ↓vBits, ↓vPop, ↓vLc, ↓vTurn, ↓vYes, ↓gN, ↓gT, ↓gsC, ↓gs0, ↓gSet, ↓wL, ↓wT, ↓wR1, ↓wR2, ↓d2, ↓d20, ↓dAdd, ↓dMul, ↓dEq, ↓dNe, ↓dIsN, ↓dIsB, ↓dNotB, ↓dNotN, ↓isN, ↓dNeg, ↓dIx, ↓dInI, ↓dSl, ↓truD, ↓cLen, ↓cAbs, ↓cMax2, ↓cMin2, ↓cInt, ↓cTup, ↓cLst, ↓sv, ↓List.getD_cons_zero, ↓List.getD_cons_succ, ↓List.set_cons_zero, ↓List.set_cons_succ, ↓vxSeq, ↓vxIf, ↓vxRaise, ↓vxRet, ↓vxAsg, ↓vxCall, ↓vReason, ↓vEqS, ↓vIsi, ↓wR3, ↓wZip, ↓vSetDk, ↓vDkIn, ↓vDkPut, ↓vParE, ↓gL, ↓vxDrop, ↓cSrt, ↓cSum, ↓cMinD, ↓cAnyI, ↓vLenSet, ↓vLc2]
  refine ⟨x, rfl, x, conj x, rfl, hx, by omega, NQ.wh_conj hx, by rw [NQ.nm_conj]; omega, x, rfl, hx, by omega, ?_⟩
  rw [NQ.mul_conj hx]
  simp only [↓vSeq, ↓vPar, ↓vPar3, ↓vSet, ↓vSetO, ↓vAsg, ↓vAug, ↓vAppend, ↓vExt, ↓vUnp, ↓vFz, ↓vRet, ↓vRetN, ↓vDrop, ↓vIfS, ↓vNext, ↓vBrk, ↓vCnt, ↓vNever, ↓vForS, ↓vC, ↓vVar, ↓vTup, ↓vOf, ↓vBin, ↓vBinL, ↓vBinR, ↓vUn, ↓vCall, ↓vCallO, ↓vCallIO, ↓vCallSC, ↓vLookA, ↓vB, ↓vTru, ↓vTruO, ↓vAnd, ↓vOr, ↓vNot, ↓vAndV, ↓vOrV, ↓vNotV, ↓vIf, ↓vChain, ↓vNil, ↓vCons, ↓vSl, ↓vSlL, ↓vP0, ↓vP1, ↓vRevT, ↓vRevL, ↓vRevLL, ↓vBits, ↓vPop, ↓vLc, ↓vTurn, ↓vYes, ↓gN, ↓gT, ↓gsC, ↓gs0, ↓gSet, ↓wL, ↓wT, ↓wR1, ↓wR2, ↓d2, ↓d20, ↓dAdd, ↓dMul, ↓dEq, ↓dNe, ↓dIsN, ↓dIsB, ↓dNotB, ↓dNotN, ↓isN, ↓dNeg, ↓dIx, ↓dInI, ↓dSl, ↓truD, ↓cLen, ↓cAbs, ↓cMax2, ↓cMin2, ↓cInt, ↓cTup, ↓cLst, ↓sv, ↓List.getD_cons_zero, ↓List.getD_cons_succ, ↓List.set_cons_zero, ↓List.set_cons_succ, ↓vxSeq, ↓vxIf, ↓vxRaise, ↓vxRet, ↓vxAsg, ↓vxCall, ↓vReason, ↓vEqS, ↓vIsi, ↓wR3, ↓wZip, ↓vSetDk, ↓vDkIn, ↓vDkPut, ↓vParE, ↓gL, ↓vxDrop, ↓cSrt, ↓cSum, ↓cMinD, ↓cAnyI, ↓vLenSet, ↓vLc2]
  refine ⟨mul_smallL ⟨by omega, by omega⟩, ⟨qD_sh _, qD_sh (NQ.rq (nm x))⟩, ?_⟩
  show (match !PyData.eqv (qD (NQ.rq (nm x))) (qD (NQ.rq (nm x))) with | true => _ | false => _)
  rw [qD_eqv]
  simp only [decide_true, Bool.not_true, ↓rd_law_k6_5, ↓vSeq, ↓vPar, ↓vPar3, ↓vSet, ↓vSetO, ↓vAsg, ↓vAug, ↓vAppend, ↓vExt, ↓vUnp, ↓vFz, ↓vRet, ↓vRetN, ↓vDrop, ↓vIfS, ↓vNext, ↓vBrk, ↓vCnt, ↓vNever, ↓vForS, ↓vC, ↓vVar, ↓vTup, ↓vOf, ↓vBin, ↓vBinL, ↓vBinR, ↓vUn, ↓vCall, ↓vCallO, ↓vCallIO, ↓vCallSC, ↓vLookA, ↓vB, ↓vTru, ↓vTruO, ↓vAnd, ↓vOr, ↓vNot, ↓vAndV, ↓vOrV, ↓vNotV, ↓vIf, ↓vChain, ↓vNil, ↓vCons, ↓vSl, ↓vSlL, ↓vP0, ↓vP1, ↓vRevT, ↓vRevL, ↓vRevLL, ↓vBits, ↓vPop, ↓vLc, ↓vTurn, ↓vYes, ↓gN, ↓gT, ↓gsC, ↓gs0, ↓gSet, ↓wL, ↓wT, ↓wR1, ↓wR2, ↓d2, ↓d20, ↓dAdd, ↓dMul, ↓dEq, ↓dNe, ↓dIsN, ↓dIsB, ↓dNotB, ↓dNotN, ↓isN, ↓dNeg, ↓dIx, ↓dInI, ↓dSl, ↓truD, ↓cLen, ↓cAbs, ↓cMax2, ↓cMin2, ↓cInt, ↓cTup, ↓cLst, ↓sv, ↓List.getD_cons_zero, ↓List.getD_cons_succ, ↓List.set_cons_zero, ↓List.set_cons_succ, ↓vxSeq, ↓vxIf, ↓vxRaise, ↓vxRet, ↓vxAsg, ↓vxCall, ↓vReason, ↓vEqS, ↓vIsi, ↓wR3, ↓wZip, ↓vSetDk, ↓vDkIn, ↓vDkPut, ↓vParE, ↓gL, ↓vxDrop, ↓cSrt, ↓cSum, ↓cMinD, ↓cAnyI, ↓vLenSet, ↓vLc2]
  refine ⟨⟨qD_sh y, qD_sh NQ.zero⟩, ?_⟩
  show (match !PyData.eqv (qD y) (qD NQ.zero) with | true => _ | false => _)
  rw [qD_eqv]
  by_cases hz0 : y = NQ.zero
  · simp only [decide_eq_true hz0, Bool.not_true]
    exact go _ _ _ _ _ _ _ _ _ _ _ _ _ _ _
  simp only [decide_eq_false hz0, Bool.not_false]
  refine ⟨x, y, rfl, hx, by omega, hy, by omega, hz0, fun t ht r1 _ => ?_⟩
  have qb := NQ.quot_le hx hy ht (L := 200) (by omega) (by omega) (NQ.nm_pos hy hz0) r1
  simp only [↓vSeq, ↓vPar, ↓vPar3, ↓vSet, ↓vSetO, ↓vAsg, ↓vAug, ↓vAppend, ↓vExt, ↓vUnp, ↓vFz, ↓vRet, ↓vRetN, ↓vDrop, ↓vIfS, ↓vNext, ↓vBrk, ↓vCnt, ↓vNever, ↓vForS, ↓vC, ↓vVar, ↓vTup, ↓vOf, ↓vBin, ↓vBinL, ↓vBinR, ↓vUn, ↓vCall, ↓vCallO, ↓vCallIO, ↓vCallSC, ↓vLookA, ↓vB, ↓vTru, ↓vTruO, ↓vAnd, ↓vOr, ↓vNot, ↓vAndV, ↓vOrV, ↓vNotV, ↓vIf, ↓vChain, ↓vNil, ↓vCons, ↓vSl, ↓vSlL, ↓vP0, ↓vP1, ↓vRevT, ↓vRevL, ↓vRevLL, ↓vBits, ↓vPop, ↓vLc, ↓vTurn, ↓vYes, ↓gN, ↓gT, ↓gsC, ↓gs0, ↓gSet, ↓wL, ↓wT, ↓wR1, ↓wR2, ↓d2, ↓d20, ↓dAdd, ↓dMul, ↓dEq, ↓dNe, ↓dIsN, ↓dIsB, ↓dNotB, ↓dNotN, ↓isN, ↓dNeg, ↓dIx, ↓dInI, ↓dSl, ↓truD, ↓cLen, ↓cAbs, ↓cMax2, ↓cMin2, ↓cInt, ↓cTup, ↓cLst, ↓sv, ↓List.getD_cons_zero, ↓List.getD_cons_succ, ↓List.set_cons_zero, ↓List.set_cons_succ, ↓vxSeq, ↓vxIf, ↓vxRaise, ↓vxRet, ↓vxAsg, ↓vxCall, ↓vReason, ↓vEqS, ↓vIsi, ↓wR3, ↓wZip, ↓vSetDk, ↓vDkIn, ↓vDkPut, ↓vParE, ↓gL, ↓vxDrop, ↓cSrt, ↓cSum, ↓cMinD, ↓cAnyI, ↓vLenSet, ↓vLc2]
  refine ⟨rfl, ?_⟩
  simp only [↓rd_law_k1_1, ↓vSeq, ↓vPar, ↓vPar3, ↓vSet, ↓vSetO, ↓vAsg, ↓vAug, ↓vAppend, ↓vExt, ↓vUnp, ↓vFz, ↓vRet, ↓vRetN, ↓vDrop, ↓vIfS, ↓vNext, ↓vBrk, ↓vCnt, ↓vNever, ↓vForS, ↓vC, ↓vVar, ↓vTup, ↓vOf, ↓vBin, ↓vBinL, ↓vBinR, ↓vUn, ↓vCall, ↓vCallO, ↓vCallIO, ↓vCallSC, ↓vLookA, ↓vB, ↓vTru, ↓vTruO, ↓vAnd, ↓vOr, ↓vNot, ↓vAndV, ↓vOrV, ↓vNotV, ↓vIf, ↓vChain, ↓vNil, ↓vCons, ↓vSl, ↓vSlL, ↓vP0, ↓vP1, ↓vRevT, ↓vRevL, ↓vRevLL, ↓vBits, ↓vPop, ↓vLc, ↓vTurn, ↓vYes, ↓gN, ↓gT, ↓gsC, ↓gs0, ↓gSet, ↓wL, ↓wT, ↓wR1, ↓wR2, ↓d2, ↓d20, ↓dAdd, ↓dMul, ↓dEq, ↓dNe, ↓dIsN, ↓dIsB, ↓dNotB, ↓dNotN, ↓isN, ↓dNeg, ↓dIx, ↓dInI, ↓dSl, ↓truD, ↓cLen, ↓cAbs, ↓cMax2, ↓cMin2, ↓cInt, ↓cTup, ↓cLst, ↓sv, ↓List.getD_cons_zero, ↓List.getD_cons_succ, ↓List.set_cons_zero, ↓List.set_cons_succ, ↓vxSeq, ↓vxIf, ↓vxRaise, ↓vxRet, ↓vxAsg, ↓vxCall, ↓vReason, ↓vEqS, ↓vIsi, ↓wR3, ↓wZip, ↓vSetDk, ↓vDkIn, ↓vDkPut, ↓vParE, ↓gL, ↓vxDrop, ↓cSrt, ↓cSum, ↓cMinD, ↓cAnyI, ↓vLenSet, ↓vLc2]
  refine ⟨t, y, rfl, ht, by omega, ?_⟩
  have r4 : rngD 0 (Int.toNat 4) = [.int 0, .int 1, .int 2, .int 3] := rfl
  simp only [↓rd_law_k1_2, ↓vSeq, ↓vPar, ↓vPar3, ↓vSet, ↓vSetO, ↓vAsg, ↓vAug, ↓vAppend, ↓vExt, ↓vUnp, ↓vFz, ↓vRet, ↓vRetN, ↓vDrop, ↓vIfS, ↓vNext, ↓vBrk, ↓vCnt, ↓vNever, ↓vForS, ↓vC, ↓vVar, ↓vTup, ↓vOf, ↓vBin, ↓vBinL, ↓vBinR, ↓vUn, ↓vCall, ↓vCallO, ↓vCallIO, ↓vCallSC, ↓vLookA, ↓vB, ↓vTru, ↓vTruO, ↓vAnd, ↓vOr, ↓vNot, ↓vAndV, ↓vOrV, ↓vNotV, ↓vIf, ↓vChain, ↓vNil, ↓vCons, ↓vSl, ↓vSlL, ↓vP0, ↓vP1, ↓vRevT, ↓vRevL, ↓vRevLL, ↓vBits, ↓vPop, ↓vLc, ↓vTurn, ↓vYes, ↓gN, ↓gT, ↓gsC, ↓gs0, ↓gSet, ↓wL, ↓wT, ↓wR1, ↓wR2, ↓d2, ↓d20, ↓dAdd, ↓dMul, ↓dEq, ↓dNe, ↓dIsN, ↓dIsB, ↓dNotB, ↓dNotN, ↓isN, ↓dNeg, ↓dIx, ↓dInI, ↓dSl, ↓truD, ↓cLen, ↓cAbs, ↓cMax2, ↓cMin2, ↓cInt, ↓cTup, ↓cLst, ↓sv, ↓List.getD_cons_zero, ↓List.getD_cons_succ, ↓List.set_cons_zero, ↓List.set_cons_succ, ↓vxSeq, ↓vxIf, ↓vxRaise, ↓vxRet, ↓vxAsg, ↓vxCall, ↓vReason, ↓vEqS, ↓vIsi, ↓wR3, ↓wZip, ↓vSetDk, ↓vDkIn, ↓vDkPut, ↓vParE, ↓gL, ↓vxDrop, ↓cSrt, ↓cSum, ↓cMinD, ↓cAnyI, ↓vLenSet, ↓vLc2, r4]
  refine ⟨by decide, by rw [sizeLine_eq]; decide, fun i hi => ?_, comp_l1 _ (mul t y) (NQ.sub x (mul t y)) _ _ _ _ _ _ _ _ _ _ _ _ _ _ _ _ _ _ _ _ ?_⟩
  · obtain rfl : i = 20 := by simpa using hi
    exact id
  have ad : ∀ u v : Qn, u.a + (NQ.sub v u).a = v.a ∧ u.b + (NQ.sub v u).b = v.b ∧ u.c + (NQ.sub v u).c = v.c ∧ u.d + (NQ.sub v u).d = v.d := fun u v => by
    simp only [NQ.sub]; omega
  obtain ⟨a1, a2, a3, a4⟩ := ad (mul t y) x
  rw [a1, a2, a3, a4]
  simp only [↓vSeq, ↓vPar, ↓vPar3, ↓vSet, ↓vSetO, ↓vAsg, ↓vAug, ↓vAppend, ↓vExt, ↓vUnp, ↓vFz, ↓vRet, ↓vRetN, ↓vDrop, ↓vIfS, ↓vNext, ↓vBrk, ↓vCnt, ↓vNever, ↓vForS, ↓vC, ↓vVar, ↓vTup, ↓vOf, ↓vBin, ↓vBinL, ↓vBinR, ↓vUn, ↓vCall, ↓vCallO, ↓vCallIO, ↓vCallSC, ↓vLookA, ↓vB, ↓vTru, ↓vTruO, ↓vAnd, ↓vOr, ↓vNot, ↓vAndV, ↓vOrV, ↓vNotV, ↓vIf, ↓vChain, ↓vNil, ↓vCons, ↓vSl, ↓vSlL, ↓vP0, ↓vP1, ↓vRevT, ↓vRevL, ↓vRevLL, ↓vBits, ↓vPop, ↓vLc, ↓vTurn, ↓vYes, ↓gN, ↓gT, ↓gsC, ↓gs0, ↓gSet, ↓wL, ↓wT, ↓wR1, ↓wR2, ↓d2, ↓d20, ↓dAdd, ↓dMul, ↓dEq, ↓dNe, ↓dIsN, ↓dIsB, ↓dNotB, ↓dNotN, ↓isN, ↓dNeg, ↓dIx, ↓dInI, ↓dSl, ↓truD, ↓cLen, ↓cAbs, ↓cMax2, ↓cMin2, ↓cInt, ↓cTup, ↓cLst, ↓sv, ↓List.getD_cons_zero, ↓List.getD_cons_succ, ↓List.set_cons_zero, ↓List.set_cons_succ, ↓vxSeq, ↓vxIf, ↓vxRaise, ↓vxRet, ↓vxAsg, ↓vxCall, ↓vReason, ↓vEqS, ↓vIsi, ↓wR3, ↓wZip, ↓vSetDk, ↓vDkIn, ↓vDkPut, ↓vParE, ↓gL, ↓vxDrop, ↓cSrt, ↓cSum, ↓cMinD, ↓cAnyI, ↓vLenSet, ↓vLc2]
  refine ⟨⟨qD_sh x, qD_sh x⟩, ?_⟩
  have ex : PyData.eqv (.tuple [.int x.a, .int x.b, .int x.c, .int x.d]) (qD x) = true := (qD_eqv x x).trans (decide_eq_true rfl)
  simp only [ex, Bool.not_true]
  have wr := NQ.wh_sub hx (NQ.wh_mul ht hy)
  have cl : decide (nm y ≤ nm (NQ.sub x (mul t y))) = false := decide_eq_false (by omega)
  refine ⟨_, rfl, wr, by omega, y, rfl, hy, by omega, ?_⟩
  simp only [↓vSeq, ↓vPar, ↓vPar3, ↓vSet, ↓vSetO, ↓vAsg, ↓vAug, ↓vAppend, ↓vExt, ↓vUnp, ↓vFz, ↓vRet, ↓vRetN, ↓vDrop, ↓vIfS, ↓vNext, ↓vBrk, ↓vCnt, ↓vNever, ↓vForS, ↓vC, ↓vVar, ↓vTup, ↓vOf, ↓vBin, ↓vBinL, ↓vBinR, ↓vUn, ↓vCall, ↓vCallO, ↓vCallIO, ↓vCallSC, ↓vLookA, ↓vB, ↓vTru, ↓vTruO, ↓vAnd, ↓vOr, ↓vNot, ↓vAndV, ↓vOrV, ↓vNotV, ↓vIf, ↓vChain, ↓vNil, ↓vCons, ↓vSl, ↓vSlL, ↓vP0, ↓vP1, ↓vRevT, ↓vRevL, ↓vRevLL, ↓vBits, ↓vPop, ↓vLc, ↓vTurn, ↓vYes, ↓gN, ↓gT, ↓gsC, ↓gs0, ↓gSet, ↓wL, ↓wT, ↓wR1, ↓wR2, ↓d2, ↓d20, ↓dAdd, ↓dMul, ↓dEq, ↓dNe, ↓dIsN, ↓dIsB, ↓dNotB, ↓dNotN, ↓isN, ↓dNeg, ↓dIx, ↓dInI, ↓dSl, ↓truD, ↓cLen, ↓cAbs, ↓cMax2, ↓cMin2, ↓cInt, ↓cTup, ↓cLst, ↓sv, ↓List.getD_cons_zero, ↓List.getD_cons_succ, ↓List.set_cons_zero, ↓List.set_cons_succ, ↓vxSeq, ↓vxIf, ↓vxRaise, ↓vxRet, ↓vxAsg, ↓vxCall, ↓vReason, ↓vEqS, ↓vIsi, ↓wR3, ↓wZip, ↓vSetDk, ↓vDkIn, ↓vDkPut, ↓vParE, ↓gL, ↓vxDrop, ↓cSrt, ↓cSum, ↓cMinD, ↓cAnyI, ↓vLenSet, ↓vLc2, cl]
  exact go _ _ _ _ _ _ _ _ _ _ _ _ _ _ _
end VL

set_option Elab.async false
set_option linter.all false
set_option maxRecDepth 100000
set_option maxHeartbeats 0
namespace VL
open PySem PySem.Spec PyProof.Rows L2 LamX HD
theorem sc_cell : FnScope ["script", "k"] ["script", "k"] (defScope s__law_cell) := ⟨rfl, rfl, rfl, by decide +kernel, rfl, by decide +kernel, by decide +kernel⟩
theorem ok_cell {P : Program} {w : World} {K : PySem.W.Frag} {mg : Str → Option Value} {base : Heap} {f : Addr} {fd : FuncData} (F : FnP K "_law_cell" s__law_cell f fd) (m : mg "_law_cell" = some (.ref f)) (Zm : ZZ K mg) : Cal P w K mg base 1 "_law_cell" ["script", "k"] (LFsc K sp__law_cell) f fd :=
  ⟨fn_cell (F.ok sc_cell (fun vs H Q E h => by obtain ⟨l, ns, j, rfl, _⟩ := h; rfl) fun cdv A outer s H vs Q E hr h => ⟨tCell K, PSs.nox (pss_cell rfl rfl (.inl rfl) (.inl rfl) rfl Zm.z_len), cell_run h⟩), F.bindsN fun _ _ _ _ _ _ us hl => match us, hl with | [_, _], _ => rfl, F.kp, m⟩
theorem hl__law_digits (ns : List Int) (ds : List D) (Q : D → Prop) (h : sp__law_digits ns ds Q) : ds.length + 1 = 3 := by unfold sp__law_digits at h; grind
theorem hl__law_draw (xs ds : List D) (Q : List D → D → Prop) (h : sp__law_draw xs ds Q) : ds.length + 1 = 2 := by unfold sp__law_draw at h; grind
theorem hl__law_four (xs ds : List D) (Q : List D → D → Prop) (h : sp__law_four xs ds Q) : ds.length + 1 = 2 := by unfold sp__law_four at h; grind
theorem hl_is_whole (ds : List D) (Q : D → Prop) (h : sp_is_whole ds Q) : ds.length = 1 := by unfold sp_is_whole at h; grind
theorem hl_is_row (ds : List D) (Q : D → Prop) (h : sp_is_row ds Q) : ds.length = 1 := by unfold sp_is_row at h; grind
theorem hl_is_whole_quaternion (ds : List D) (Q : D → Prop) (h : sp_is_whole_quaternion ds Q) : ds.length = 1 := by unfold sp_is_whole_quaternion at h; grind
theorem hl_check_quaternion (ds : List D) (Q : D → Prop) (h : sp_check_quaternion ds Q) : ds.length = 1 := by unfold sp_check_quaternion at h; grind
theorem hl_times_four (ds : List D) (Q : D → Prop) (h : sp_times_four ds Q) : ds.length = 2 := by unfold sp_times_four at h; grind
theorem hl_norm_four (ds : List D) (Q : D → Prop) (h : sp_norm_four ds Q) : ds.length = 1 := by unfold sp_norm_four at h; grind
theorem hl__law_norm_four (ds : List D) (Q : D → Prop) (h : sp__law_norm_four ds Q) : ds.length = 1 := by unfold sp__law_norm_four at h; grind
theorem hl__law_times_four (ds : List D) (Q : D → Prop) (h : sp__law_times_four ds Q) : ds.length = 2 := by unfold sp__law_times_four at h; grind
theorem hl_turned_four (ds : List D) (Q : D → Prop) (h : sp_turned_four ds Q) : ds.length = 1 := by unfold sp_turned_four at h; grind
theorem hl_nearest_four (ds : List D) (Q : D → Prop) (h : sp_nearest_four ds Q) : ds.length = 2 := by unfold sp_nearest_four at h; grind
theorem hl_less_four (ds : List D) (Q : D → Prop) (h : sp_less_four ds Q) : ds.length = 2 := by unfold sp_less_four at h; grind
theorem hl_divided_four (ds : List D) (Q : D → Prop) (h : sp_divided_four ds Q) : ds.length = 2 := by unfold sp_divided_four at h; grind
theorem hl_common_four (ds : List D) (Q : D → Prop) (h : sp_common_four ds Q) : ds.length = 2 := by unfold sp_common_four at h; grind
theorem hl_units_four (ds : List D) (Q : D → Prop) (h : sp_units_four ds Q) : ds.length = 0 := by unfold sp_units_four at h; grind
theorem hl_factors_of (ds : List D) (Q : D → Prop) (h : sp_factors_of ds Q) : ds.length = 1 := by unfold sp_factors_of at h; grind
theorem hl_is_prime (ds : List D) (Q : D → Prop) (h : sp_is_prime ds Q) : ds.length = 1 := by unfold sp_is_prime at h; grind
theorem hl_check_sum (ds : List D) (Q : D → Prop) (h : sp_check_sum ds Q) : ds.length = 1 := by unfold sp_check_sum at h; grind
theorem hl_root (ds : List D) (Q : D → Prop) (h : sp_root ds Q) : ds.length = 1 := by unfold sp_root at h; grind
theorem hl_power_by (ds : List D) (Q : D → Prop) (h : sp_power_by ds Q) : ds.length = 3 := by unfold sp_power_by at h; grind
theorem hl_prime_squares (ds : List D) (Q : D → Prop) (h : sp_prime_squares ds Q) : ds.length = 1 := by unfold sp_prime_squares at h; grind
theorem hl_two_squares (ds : List D) (Q : D → Prop) (h : sp_two_squares ds Q) : ds.length = 1 := by unfold sp_two_squares at h; grind
theorem hl_three_squares (ds : List D) (Q : D → Prop) (h : sp_three_squares ds Q) : ds.length = 1 := by unfold sp_three_squares at h; grind
theorem hl_four_squares (ds : List D) (Q : D → Prop) (h : sp_four_squares ds Q) : ds.length = 1 := by unfold sp_four_squares at h; grind
theorem hl_prime_four (ds : List D) (Q : D → Prop) (h : sp_prime_four ds Q) : ds.length = 1 := by unfold sp_prime_four at h; grind
theorem hl_over_prime (ds : List D) (Q : D → Prop) (h : sp_over_prime ds Q) : ds.length = 2 := by unfold sp_over_prime at h; grind
theorem hl_factored_four (ds : List D) (Q : D → Prop) (h : sp_factored_four ds Q) : ds.length = 1 := by unfold sp_factored_four at h; grind
theorem hl__law_primes (ds : List D) (Q : D → Prop) (h : sp__law_primes ds Q) : ds.length = 1 := by unfold sp__law_primes at h; grind
theorem hl_whole_four (ds : List D) (Q : D → Prop) (h : sp_whole_four ds Q) : ds.length = 1 := by unfold sp_whole_four at h; grind
theorem hl__law_pick (xs ds : List D) (Q : List D → D → Prop) (h : sp__law_pick xs ds Q) : ds.length + 1 = 2 := by unfold sp__law_pick at h; grind
theorem hlx_check_quaternion (ds : List D) (Q : D → Prop) (Rv : Str → Prop) (h : spx_check_quaternion ds Q Rv) : ds.length = 1 := by unfold spx_check_quaternion at h; grind
theorem hlx_times_four (ds : List D) (Q : D → Prop) (Rv : Str → Prop) (h : spx_times_four ds Q Rv) : ds.length = 2 := by unfold spx_times_four at h; grind
theorem hlx_divided_four (ds : List D) (Q : D → Prop) (Rv : Str → Prop) (h : spx_divided_four ds Q Rv) : ds.length = 2 := by unfold spx_divided_four at h; grind
theorem law_ok (w : World) (mg : Str → Option Value) (h : Heap) (K : PySem.W.Frag) (KX : K.In h) (G : h.Ns mainGlobals mg) (c : VX.SaysB cs fa fn mainF ini h K) : ∃ fd : FuncData, (∀ (s : Shared) (u : Value), BindsTo s fd ⟨[u], []⟩ [("script", u)]) ∧
    ∀ base : Heap, K.In base → base.Ns mainGlobals mg → TabB base mg (He.cT K VX.lawP).1 (He.cT K VX.lawP).2 → FnOk rw_.prog w K mg base C8.CX0 10 (He.fAd K VX.lawP) fd ["script"] (spLaw K (He.cT K VX.lawP).2) := by
  obtain ⟨e__law_cell, F__law_cell⟩ := He.SaysD.def_ c.t 25 (d := d__law_cell) rfl
  replace F__law_cell : FnP K "_law_cell" s__law_cell (He.fAd K ("_law_cell", none)) e__law_cell := F__law_cell
  have m__law_cell : mg "_law_cell" = some (.ref (He.fAd K ("_law_cell", none))) := He.glo_ok KX G (He.SaysD.fact c.t 27 (f := .glo "_law_cell") rfl)
  obtain ⟨e__law_reason, F__law_reason⟩ := He.SaysD.def_ c.t 30 (d := d__law_reason) rfl
  replace F__law_reason : FnP K "_law_reason" s__law_reason (He.fAd K ("_law_reason", none)) e__law_reason := F__law_reason
  have m__law_reason : mg "_law_reason" = some (.ref (He.fAd K ("_law_reason", none))) := He.glo_ok KX G (He.SaysD.fact c.t 32 (f := .glo "_law_reason") rfl)
  obtain ⟨e__law_digits, F__law_digits⟩ := He.SaysD.def_ c.t 26 (d := d__law_digits) rfl
  replace F__law_digits : FnP K "_law_digits" s__law_digits (He.fAd K ("_law_digits", none)) e__law_digits := F__law_digits
  have m__law_digits : mg "_law_digits" = some (.ref (He.fAd K ("_law_digits", none))) := He.glo_ok KX G (He.SaysD.fact c.t 28 (f := .glo "_law_digits") rfl)
  obtain ⟨e__law_draw, F__law_draw⟩ := He.SaysD.def_ c.t 27 (d := d__law_draw) rfl
  replace F__law_draw : FnP K "_law_draw" s__law_draw (He.fAd K ("_law_draw", none)) e__law_draw := F__law_draw
  have m__law_draw : mg "_law_draw" = some (.ref (He.fAd K ("_law_draw", none))) := He.glo_ok KX G (He.SaysD.fact c.t 29 (f := .glo "_law_draw") rfl)
  obtain ⟨e__law_four, F__law_four⟩ := He.SaysD.def_ c.t 31 (d := d__law_four) rfl
  replace F__law_four : FnP K "_law_four" s__law_four (He.fAd K ("_law_four", none)) e__law_four := F__law_four
  have m__law_four : mg "_law_four" = some (.ref (He.fAd K ("_law_four", none))) := He.glo_ok KX G (He.SaysD.fact c.t 33 (f := .glo "_law_four") rfl)
  obtain ⟨e_is_whole, F_is_whole⟩ := He.SaysD.def_ c.t 9 (d := d_is_whole) rfl
  replace F_is_whole : FnP K "is_whole" s_is_whole (He.fAd K ("is_whole", none)) e_is_whole := F_is_whole
  have m_is_whole : mg "is_whole" = some (.ref (He.fAd K ("is_whole", none))) := He.glo_ok KX G (He.SaysD.fact c.t 11 (f := .glo "is_whole") rfl)
  obtain ⟨e_is_row, F_is_row⟩ := He.SaysD.def_ c.t 10 (d := d_is_row) rfl
  replace F_is_row : FnP K "is_row" s_is_row (He.fAd K ("is_row", none)) e_is_row := F_is_row
  have m_is_row : mg "is_row" = some (.ref (He.fAd K ("is_row", none))) := He.glo_ok KX G (He.SaysD.fact c.t 12 (f := .glo "is_row") rfl)
  obtain ⟨e_is_whole_quaternion, F_is_whole_quaternion⟩ := He.SaysD.def_ c.t 11 (d := d_is_whole_quaternion) rfl
  replace F_is_whole_quaternion : FnP K "is_whole_quaternion" s_is_whole_quaternion (He.fAd K ("is_whole_quaternion", none)) e_is_whole_quaternion := F_is_whole_quaternion
  have m_is_whole_quaternion : mg "is_whole_quaternion" = some (.ref (He.fAd K ("is_whole_quaternion", none))) := He.glo_ok KX G (He.SaysD.fact c.t 13 (f := .glo "is_whole_quaternion") rfl)
  obtain ⟨e_check_quaternion, F_check_quaternion⟩ := He.SaysD.def_ c.t 12 (d := d_check_quaternion) rfl
  replace F_check_quaternion : FnP K "check_quaternion" s_check_quaternion (He.fAd K ("check_quaternion", none)) e_check_quaternion := F_check_quaternion
  have m_check_quaternion : mg "check_quaternion" = some (.ref (He.fAd K ("check_quaternion", none))) := He.glo_ok KX G (He.SaysD.fact c.t 14 (f := .glo "check_quaternion") rfl)
  obtain ⟨e_times_four, F_times_four⟩ := He.SaysD.def_ c.t 13 (d := d_times_four) rfl
  replace F_times_four : FnP K "times_four" s_times_four (He.fAd K ("times_four", none)) e_times_four := F_times_four
  have m_times_four : mg "times_four" = some (.ref (He.fAd K ("times_four", none))) := He.glo_ok KX G (He.SaysD.fact c.t 15 (f := .glo "times_four") rfl)
  obtain ⟨e_norm_four, F_norm_four⟩ := He.SaysD.def_ c.t 15 (d := d_norm_four) rfl
  replace F_norm_four : FnP K "norm_four" s_norm_four (He.fAd K ("norm_four", none)) e_norm_four := F_norm_four
  have m_norm_four : mg "norm_four" = some (.ref (He.fAd K ("norm_four", none))) := He.glo_ok KX G (He.SaysD.fact c.t 17 (f := .glo "norm_four") rfl)
  obtain ⟨e__law_norm_four, F__law_norm_four⟩ := He.SaysD.def_ c.t 33 (d := d__law_norm_four) rfl
  replace F__law_norm_four : FnP K "_law_norm_four" s__law_norm_four (He.fAd K ("_law_norm_four", none)) e__law_norm_four := F__law_norm_four
  have m__law_norm_four : mg "_law_norm_four" = some (.ref (He.fAd K ("_law_norm_four", none))) := He.glo_ok KX G (He.SaysD.fact c.t 35 (f := .glo "_law_norm_four") rfl)
  obtain ⟨e__law_times_four, F__law_times_four⟩ := He.SaysD.def_ c.t 32 (d := d__law_times_four) rfl
  replace F__law_times_four : FnP K "_law_times_four" s__law_times_four (He.fAd K ("_law_times_four", none)) e__law_times_four := F__law_times_four
  have m__law_times_four : mg "_law_times_four" = some (.ref (He.fAd K ("_law_times_four", none))) := He.glo_ok KX G (He.SaysD.fact c.t 34 (f := .glo "_law_times_four") rfl)
  obtain ⟨e_turned_four, F_turned_four⟩ := He.SaysD.def_ c.t 14 (d := d_turned_four) rfl
  replace F_turned_four : FnP K "turned_four" s_turned_four (He.fAd K ("turned_four", none)) e_turned_four := F_turned_four
  have m_turned_four : mg "turned_four" = some (.ref (He.fAd K ("turned_four", none))) := He.glo_ok KX G (He.SaysD.fact c.t 16 (f := .glo "turned_four") rfl)
  obtain ⟨e_nearest_four, F_nearest_four⟩ := He.SaysD.def_ c.t 17 (d := d_nearest_four) rfl
  replace F_nearest_four : FnP K "nearest_four" s_nearest_four (He.fAd K ("nearest_four", none)) e_nearest_four := F_nearest_four
  have m_nearest_four : mg "nearest_four" = some (.ref (He.fAd K ("nearest_four", none))) := He.glo_ok KX G (He.SaysD.fact c.t 19 (f := .glo "nearest_four") rfl)
  obtain ⟨e_less_four, F_less_four⟩ := He.SaysD.def_ c.t 16 (d := d_less_four) rfl
  replace F_less_four : FnP K "less_four" s_less_four (He.fAd K ("less_four", none)) e_less_four := F_less_four
  have m_less_four : mg "less_four" = some (.ref (He.fAd K ("less_four", none))) := He.glo_ok KX G (He.SaysD.fact c.t 18 (f := .glo "less_four") rfl)
  obtain ⟨e_divided_four, F_divided_four⟩ := He.SaysD.def_ c.t 18 (d := d_divided_four) rfl
  replace F_divided_four : FnP K "divided_four" s_divided_four (He.fAd K ("divided_four", none)) e_divided_four := F_divided_four
  have m_divided_four : mg "divided_four" = some (.ref (He.fAd K ("divided_four", none))) := He.glo_ok KX G (He.SaysD.fact c.t 20 (f := .glo "divided_four") rfl)
  obtain ⟨e_common_four, F_common_four⟩ := He.SaysD.def_ c.t 19 (d := d_common_four) rfl
  replace F_common_four : FnP K "common_four" s_common_four (He.fAd K ("common_four", none)) e_common_four := F_common_four
  have m_common_four : mg "common_four" = some (.ref (He.fAd K ("common_four", none))) := He.glo_ok KX G (He.SaysD.fact c.t 21 (f := .glo "common_four") rfl)
  obtain ⟨e_units_four, F_units_four⟩ := He.SaysD.def_ c.t 20 (d := d_units_four) rfl
  replace F_units_four : FnP K "units_four" s_units_four (He.fAd K ("units_four", none)) e_units_four := F_units_four
  have m_units_four : mg "units_four" = some (.ref (He.fAd K ("units_four", none))) := He.glo_ok KX G (He.SaysD.fact c.t 22 (f := .glo "units_four") rfl)
  obtain ⟨e_factors_of, F_factors_of⟩ := He.SaysD.def_ c.t 1 (d := d_factors_of) rfl
  replace F_factors_of : FnP K "factors_of" s_factors_of (He.fAd K ("factors_of", none)) e_factors_of := F_factors_of
  have m_factors_of : mg "factors_of" = some (.ref (He.fAd K ("factors_of", none))) := He.glo_ok KX G (He.SaysD.fact c.t 3 (f := .glo "factors_of") rfl)
  obtain ⟨e_is_prime, F_is_prime⟩ := He.SaysD.def_ c.t 2 (d := d_is_prime) rfl
  replace F_is_prime : FnP K "is_prime" s_is_prime (He.fAd K ("is_prime", none)) e_is_prime := F_is_prime
  have m_is_prime : mg "is_prime" = some (.ref (He.fAd K ("is_prime", none))) := He.glo_ok KX G (He.SaysD.fact c.t 4 (f := .glo "is_prime") rfl)
  obtain ⟨e_check_sum, F_check_sum⟩ := He.SaysD.def_ c.t 3 (d := d_check_sum) rfl
  replace F_check_sum : FnP K "check_sum" s_check_sum (He.fAd K ("check_sum", none)) e_check_sum := F_check_sum
  have m_check_sum : mg "check_sum" = some (.ref (He.fAd K ("check_sum", none))) := He.glo_ok KX G (He.SaysD.fact c.t 5 (f := .glo "check_sum") rfl)
  obtain ⟨e_root, F_root⟩ := He.SaysD.def_ c.t 0 (d := d_root) rfl
  replace F_root : FnP K "root" s_root (He.fAd K ("root", none)) e_root := F_root
  have m_root : mg "root" = some (.ref (He.fAd K ("root", none))) := He.glo_ok KX G (He.SaysD.fact c.t 2 (f := .glo "root") rfl)
  obtain ⟨e_power_by, F_power_by⟩ := He.SaysD.def_ c.t 5 (d := d_power_by) rfl
  replace F_power_by : FnP K "power_by" s_power_by (He.fAd K ("power_by", none)) e_power_by := F_power_by
  have m_power_by : mg "power_by" = some (.ref (He.fAd K ("power_by", none))) := He.glo_ok KX G (He.SaysD.fact c.t 7 (f := .glo "power_by") rfl)
  obtain ⟨e_prime_squares, F_prime_squares⟩ := He.SaysD.def_ c.t 4 (d := d_prime_squares) rfl
  replace F_prime_squares : FnP K "prime_squares" s_prime_squares (He.fAd K ("prime_squares", none)) e_prime_squares := F_prime_squares
  have m_prime_squares : mg "prime_squares" = some (.ref (He.fAd K ("prime_squares", none))) := He.glo_ok KX G (He.SaysD.fact c.t 6 (f := .glo "prime_squares") rfl)
  obtain ⟨e_two_squares, F_two_squares⟩ := He.SaysD.def_ c.t 6 (d := d_two_squares) rfl
  replace F_two_squares : FnP K "two_squares" s_two_squares (He.fAd K ("two_squares", none)) e_two_squares := F_two_squares
  have m_two_squares : mg "two_squares" = some (.ref (He.fAd K ("two_squares", none))) := He.glo_ok KX G (He.SaysD.fact c.t 8 (f := .glo "two_squares") rfl)
  obtain ⟨e_three_squares, F_three_squares⟩ := He.SaysD.def_ c.t 7 (d := d_three_squares) rfl
  replace F_three_squares : FnP K "three_squares" s_three_squares (He.fAd K ("three_squares", none)) e_three_squares := F_three_squares
  have m_three_squares : mg "three_squares" = some (.ref (He.fAd K ("three_squares", none))) := He.glo_ok KX G (He.SaysD.fact c.t 9 (f := .glo "three_squares") rfl)
  obtain ⟨e_four_squares, F_four_squares⟩ := He.SaysD.def_ c.t 8 (d := d_four_squares) rfl
  replace F_four_squares : FnP K "four_squares" s_four_squares (He.fAd K ("four_squares", none)) e_four_squares := F_four_squares
  have m_four_squares : mg "four_squares" = some (.ref (He.fAd K ("four_squares", none))) := He.glo_ok KX G (He.SaysD.fact c.t 10 (f := .glo "four_squares") rfl)
  obtain ⟨e_prime_four, F_prime_four⟩ := He.SaysD.def_ c.t 22 (d := d_prime_four) rfl
  replace F_prime_four : FnP K "prime_four" s_prime_four (He.fAd K ("prime_four", none)) e_prime_four := F_prime_four
  have m_prime_four : mg "prime_four" = some (.ref (He.fAd K ("prime_four", none))) := He.glo_ok KX G (He.SaysD.fact c.t 24 (f := .glo "prime_four") rfl)
  obtain ⟨e_over_prime, F_over_prime⟩ := He.SaysD.def_ c.t 21 (d := d_over_prime) rfl
  replace F_over_prime : FnP K "over_prime" s_over_prime (He.fAd K ("over_prime", none)) e_over_prime := F_over_prime
  have m_over_prime : mg "over_prime" = some (.ref (He.fAd K ("over_prime", none))) := He.glo_ok KX G (He.SaysD.fact c.t 23 (f := .glo "over_prime") rfl)
  obtain ⟨e_factored_four, F_factored_four⟩ := He.SaysD.def_ c.t 23 (d := d_factored_four) rfl
  replace F_factored_four : FnP K "factored_four" s_factored_four (He.fAd K ("factored_four", none)) e_factored_four := F_factored_four
  have m_factored_four : mg "factored_four" = some (.ref (He.fAd K ("factored_four", none))) := He.glo_ok KX G (He.SaysD.fact c.t 25 (f := .glo "factored_four") rfl)
  obtain ⟨e__law_primes, F__law_primes⟩ := He.SaysD.def_ c.t 29 (d := d__law_primes) rfl
  replace F__law_primes : FnP K "_law_primes" s__law_primes (He.fAd K ("_law_primes", none)) e__law_primes := F__law_primes
  have m__law_primes : mg "_law_primes" = some (.ref (He.fAd K ("_law_primes", none))) := He.glo_ok KX G (He.SaysD.fact c.t 31 (f := .glo "_law_primes") rfl)
  obtain ⟨e_whole_four, F_whole_four⟩ := He.SaysD.def_ c.t 24 (d := d_whole_four) rfl
  replace F_whole_four : FnP K "whole_four" s_whole_four (He.fAd K ("whole_four", none)) e_whole_four := F_whole_four
  have m_whole_four : mg "whole_four" = some (.ref (He.fAd K ("whole_four", none))) := He.glo_ok KX G (He.SaysD.fact c.t 26 (f := .glo "whole_four") rfl)
  obtain ⟨e__law_pick, F__law_pick⟩ := He.SaysD.def_ c.t 28 (d := d__law_pick) rfl
  replace F__law_pick : FnP K "_law_pick" s__law_pick (He.fAd K ("_law_pick", none)) e__law_pick := F__law_pick
  have m__law_pick : mg "_law_pick" = some (.ref (He.fAd K ("_law_pick", none))) := He.glo_ok KX G (He.SaysD.fact c.t 30 (f := .glo "_law_pick") rfl)
  obtain ⟨e_law, F_law⟩ := He.SaysD.def_ c.t 34 (d := d_law) rfl
  replace F_law : FnP K "law" s_law (He.fAd K ("law", none)) e_law := F_law
  have m_law : mg "law" = some (.ref (He.fAd K ("law", none))) := He.glo_ok KX G (He.SaysD.fact c.t 36 (f := .glo "law") rfl)
  have m_Bad : mg "BadTable" = some (.ref (VX.C_ K)) := He.glo_ok KX G (He.SaysD.fact c.t 1 (f := .glo "BadTable") rfl)
  have Zm : ZZ K mg := ⟨He.free_ok KX G (He.SaysD.fact c.t 38 (f := .free "abs") rfl), He.free_ok KX G (He.SaysD.fact c.t 39 (f := .free "all") rfl), He.free_ok KX G (He.SaysD.fact c.t 40 (f := .free "any") rfl), He.free_ok KX G (He.SaysD.fact c.t 42 (f := .free "int") rfl), He.free_ok KX G (He.SaysD.fact c.t 43 (f := .free "isinstance") rfl), He.free_ok KX G (He.SaysD.fact c.t 44 (f := .free "len") rfl), He.free_ok KX G (He.SaysD.fact c.t 45 (f := .free "max") rfl), He.free_ok KX G (He.SaysD.fact c.t 46 (f := .free "min") rfl), He.free_ok KX G (He.SaysD.fact c.t 47 (f := .free "range") rfl), He.free_ok KX G (He.SaysD.fact c.t 48 (f := .free "set") rfl), He.free_ok KX G (He.SaysD.fact c.t 49 (f := .free "sorted") rfl), He.free_ok KX G (He.SaysD.fact c.t 50 (f := .free "sum") rfl), He.free_ok KX G (He.SaysD.fact c.t 52 (f := .free "tuple") rfl), He.free_ok KX G (He.SaysD.fact c.t 53 (f := .free "zip") rfl), He.free_ok KX G (He.SaysD.fact c.t 41 (f := .free "bool") rfl), VX.cons_ok KX G c.con (List.mem_of_getElem? (i := 0) rfl)⟩
  have Bd : Bad rw_.prog K mg ini := ⟨c.s, ini_ok, m_Bad⟩
  refine ⟨e_law, fun s u => FunD.bindsA (ps := ["script"]) F_law (fun _ _ _ _ _ _ us hl => match us, hl with | [_], _ => rfl) s [u] rfl, fun base KB GB TB => ?_⟩
  have C__law_cell := ok_cell (P := rw_.prog) (w := w) (base := base) F__law_cell m__law_cell Zm
  have C__law_digits := ok__law_digits (P := rw_.prog) (w := w) (base := base) F__law_digits m__law_digits Zm C__law_cell hl__law_digits hq__law_digits
  have C__law_draw := ok__law_draw (P := rw_.prog) (w := w) (base := base) F__law_draw m__law_draw Zm  hl__law_draw hq__law_draw
  have C__law_four := ok__law_four (P := rw_.prog) (w := w) (base := base) F__law_four m__law_four Zm C__law_draw hl__law_four hq__law_four
  have C_is_whole := ok_is_whole (P := rw_.prog) (w := w) (base := base) F_is_whole m_is_whole Zm  hl_is_whole hq_is_whole
  have C_is_row := ok_is_row (P := rw_.prog) (w := w) (base := base) F_is_row m_is_row Zm C_is_whole hl_is_row hq_is_row
  have C_is_whole_quaternion := ok_is_whole_quaternion (P := rw_.prog) (w := w) (base := base) F_is_whole_quaternion m_is_whole_quaternion Zm C_is_row hl_is_whole_quaternion hq_is_whole_quaternion
  have C_check_quaternion := ok_check_quaternion (P := rw_.prog) (w := w) (base := base) F_check_quaternion m_check_quaternion Zm C_is_whole_quaternion hl_check_quaternion hq_check_quaternion
  have C_times_four := ok_times_four (P := rw_.prog) (w := w) (base := base) F_times_four m_times_four Zm C_check_quaternion hl_times_four hq_times_four
  have C_norm_four := ok_norm_four (P := rw_.prog) (w := w) (base := base) F_norm_four m_norm_four Zm C_check_quaternion hl_norm_four hq_norm_four
  have C__law_norm_four := ok__law_norm_four (P := rw_.prog) (w := w) (base := base) F__law_norm_four m__law_norm_four Zm  hl__law_norm_four hq__law_norm_four
  have C__law_times_four := ok__law_times_four (P := rw_.prog) (w := w) (base := base) F__law_times_four m__law_times_four Zm  hl__law_times_four hq__law_times_four
  have C_turned_four := ok_turned_four (P := rw_.prog) (w := w) (base := base) F_turned_four m_turned_four Zm  hl_turned_four hq_turned_four
  have C_nearest_four := ok_nearest_four (P := rw_.prog) (w := w) (base := base) F_nearest_four m_nearest_four Zm  hl_nearest_four hq_nearest_four
  have C_less_four := ok_less_four (P := rw_.prog) (w := w) (base := base) F_less_four m_less_four Zm  hl_less_four hq_less_four
  have C_divided_four := ok_divided_four (P := rw_.prog) (w := w) (base := base) F_divided_four m_divided_four Zm C_check_quaternion C_norm_four C_nearest_four C_times_four C_turned_four C_less_four hl_divided_four hq_divided_four
  have C_common_four := ok_common_four (P := rw_.prog) (w := w) (base := base) F_common_four m_common_four Zm C_check_quaternion C_divided_four hl_common_four hq_common_four
  have C_units_four := ok_units_four (P := rw_.prog) (w := w) (base := base) F_units_four m_units_four Zm  hl_units_four hq_units_four
  have C_factors_of := ok_factors_of (P := rw_.prog) (w := w) (base := base) F_factors_of m_factors_of Zm  hl_factors_of hq_factors_of
  have C_is_prime := ok_is_prime (P := rw_.prog) (w := w) (base := base) F_is_prime m_is_prime Zm C_factors_of hl_is_prime hq_is_prime
  have C_check_sum := ok_check_sum (P := rw_.prog) (w := w) (base := base) F_check_sum m_check_sum Zm  hl_check_sum hq_check_sum
  have C_root := ok_root (P := rw_.prog) (w := w) (base := base) F_root m_root Zm  hl_root hq_root
  have C_power_by := ok_power_by (P := rw_.prog) (w := w) (base := base) F_power_by m_power_by Zm  hl_power_by hq_power_by
  have C_prime_squares := ok_prime_squares (P := rw_.prog) (w := w) (base := base) F_prime_squares m_prime_squares Zm C_power_by hl_prime_squares hq_prime_squares
  have C_two_squares := ok_two_squares (P := rw_.prog) (w := w) (base := base) F_two_squares m_two_squares Zm C_check_sum C_factors_of C_prime_squares hl_two_squares hq_two_squares
  have C_three_squares := ok_three_squares (P := rw_.prog) (w := w) (base := base) F_three_squares m_three_squares Zm C_check_sum C_root C_two_squares hl_three_squares hq_three_squares
  have C_four_squares := ok_four_squares (P := rw_.prog) (w := w) (base := base) F_four_squares m_four_squares Zm C_check_sum C_three_squares hl_four_squares hq_four_squares
  have C_prime_four := ok_prime_four (P := rw_.prog) (w := w) (base := base) F_prime_four m_prime_four Zm C_four_squares hl_prime_four hq_prime_four
  have C_over_prime := ok_over_prime (P := rw_.prog) (w := w) (base := base) F_over_prime m_over_prime Zm C_norm_four C_is_prime C_is_whole_quaternion C_prime_four C_common_four C_times_four C_turned_four hl_over_prime hq_over_prime
  have C_factored_four := ok_factored_four (P := rw_.prog) (w := w) (base := base) F_factored_four m_factored_four Zm C_norm_four C_factors_of C_over_prime hl_factored_four hq_factored_four
  have C__law_primes := ok__law_primes (P := rw_.prog) (w := w) (base := base) F__law_primes m__law_primes Zm  hl__law_primes hq__law_primes
  have C_whole_four := ok_whole_four (P := rw_.prog) (w := w) (base := base) F_whole_four m_whole_four Zm C_check_quaternion C_units_four C_times_four hl_whole_four hq_whole_four
  have C__law_pick := ok__law_pick (P := rw_.prog) (w := w) (base := base) F__law_pick m__law_pick Zm C__law_draw hl__law_pick hq__law_pick
  have X_check_quaternion := okx_check_quaternion (P := rw_.prog) (w := w) (base := base) F_check_quaternion m_check_quaternion Zm Bd C_is_whole_quaternion hlx_check_quaternion hqx_check_quaternion
  have X_times_four := okx_times_four (P := rw_.prog) (w := w) (base := base) F_times_four m_times_four Zm Bd X_check_quaternion hlx_times_four hqx_times_four
  have X_divided_four := okx_divided_four (P := rw_.prog) (w := w) (base := base) F_divided_four m_divided_four Zm Bd C_check_quaternion C_norm_four C_nearest_four C_times_four C_turned_four C_less_four hlx_divided_four hqx_divided_four
  have Zr : Rsn rw_.prog K mg base ini s__law_reason (He.cT K VX.lawP).1 (He.cT K VX.lawP).2 := {
    bad := Bd
    fn := ⟨_, _, F__law_reason, m__law_reason⟩
    TB := TB
    sc := ⟨rfl, rfl, rfl, by decide +kernel, rfl, by decide +kernel, by decide +kernel⟩
    ge := rfl
    ke := rfl
    kc := rfl
    body := ⟨_, _, _, _, _, _, _, _, _, _, _, _, rfl, fun _ => rfl⟩
    bind := fun fd g F => F.bindsN fun _ _ _ _ _ _ us hl => match us, hl with | [_], _ => rfl }
  exact ok_law F_law (fun oc od osl c1 lk e => (He.codeOf_eq lk e).symm) Zm Zr C__law_digits C__law_four C_times_four C_is_whole_quaternion C_norm_four C__law_norm_four C__law_times_four C_turned_four C_divided_four C_common_four C_units_four C_factored_four C__law_primes C_whole_four C__law_pick C_prime_four X_times_four X_divided_four hq_law
end VL
open PySem PySem.W PySem.Calls PyProof.Rows
theorem PySem.Challenge.cw_allgrids_k42_quaternions_divided_holds : PySem.Challenge.rw_allgrids_k42_quaternions_divided.Holds := by
  w_on; o_law
  refine HandSHeadRun.head_any (r := OpenLaw.row HD.rw_) (q := view (OpenLaw.row HD.rw_).prog [43]) (H := HD.hk) (ob := HD.ob) (M := 3000) (loose := HD.loose) (d := HandSHeadRun.topDef (OpenLaw.row HD.rw_).prog 43) (kwd := []) HD.ob_eq
    (by kernel_rfl) (fun s => by kernel_rfl) HD.run (by kernel_rfl) (by kernel_rfl) (by kernel_rfl) (by rfl) (by first | assumption | decide +kernel) (by decide +kernel) ⟨rfl, rfl, rfl, rfl, rfl, by decide +kernel⟩ ?hw ?hc
  case hw => w_witness2
  case hc =>
    refine VX.walk_B (l := HD.rw_) (n := 63) (k := 10) rfl (by decide) (by kernel_rfl) ⟨rfl, by decide, by decide⟩ (by kernel_rfl) ?hg (fun w mg h K KX G c => VL.law_ok w mg h K KX G c)
    exact List.mem_of_getElem? (i := 36) rfl

