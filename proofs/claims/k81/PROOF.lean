import PyProof.Rows.All
import Wide.All
import OpenK.AllK
import Wide.FinOn
import HandS.ForMost
import HandS.Walk
import HandS.Conv
import HandS.Style
import HandS.RevRange
import HandS.Wide
import HandS.Deep
import HandS.Replace
import HandS.StrMore
import KE.GoesNew
import HandS.SortInts
import PyProof.Rows.SortStr
import PyProof.Rows.SortKeyStr
import HandS.IsInst
import HandS.Text
import KE.SortData
import KE.DataMinMax
import HandS.SortKw
import HandS.More
import KE.GoesEnum
import HandS.Exc
import HandS.ExcOwn
import HandS.ExcInit
import HandS.ExcField
import HandS.WordsExc
import KE.KExcIs
import HandS.ExcIs
import PySem.Challenge.RW_backletters_k81_whole_texts_least_of_the
set_option Elab.async false
set_option linter.all false
section
set_option maxRecDepth 100000
/-! DK: a data layer over HandS. Values are trees of data (PyData); a def's body runs as a plain function on a row of slots; what runs so is what the reading says. -/
namespace DK
open PySem L2
/-- the exception that an except suite holds: its address, its dict, its field -/
abbrev XI := Option (Addr × Addr × Str)
variable {κ : XI}

abbrev D := PyData
abbrev Own1 := Nat → Option Addr

def kD : Key → D
  | .inl i => .int i
  | .inr x => .str x

mutual
/-- the value v is the datum x in the heap H, all its objects outside Av -/
inductive Rep (Av : Addr → Prop) (H : Hp) : V → D → Prop
  | non : Rep Av H .non .none
  | bl (b : Bool) : Rep Av H (.bl b) (.bool b)
  | int (i : Int) : Rep Av H (.int i) (.int i)
  | str (x : Str) : Rep Av H (.str x) (.str x)
  | lst {a : Addr} {vs : List V} {xs : List D} : ¬ Av a → H a = some (.lst vs) → Reps Av H vs xs → Rep Av H (.ref a) (.list xs)
  | tup {a : Addr} {vs : List V} {xs : List D} : ¬ Av a → H a = some (.tup vs) → Reps Av H vs xs → Rep Av H (.ref a) (.tuple xs)
  | dct {a : Addr} {kvs : List (Key × V)} {es : List (D × D)} : ¬ Av a → H a = some (.dK kvs) → RepKs Av H kvs es → Rep Av H (.ref a) (.dict es)
inductive Reps (Av : Addr → Prop) (H : Hp) : List V → List D → Prop
  | nil : Reps Av H [] []
  | cons {v : V} {vs : List V} {x : D} {xs : List D} : Rep Av H v x → Reps Av H vs xs → Reps Av H (v :: vs) (x :: xs)
inductive RepKs (Av : Addr → Prop) (H : Hp) : List (Key × V) → List (D × D) → Prop
  | nil : RepKs Av H [] []
  | cons {k : Key} {v : V} {kvs : List (Key × V)} {x : D} {es : List (D × D)} : Rep Av H v x → RepKs Av H kvs es → RepKs Av H ((k, v) :: kvs) ((kD k, x) :: es)
end

section
variable {Av Av' : Addr → Prop} {H H' : Hp}
mutual
theorem Rep.tr (t : ∀ a o, ¬ Av a → H a = some o → ¬ Av' a ∧ H' a = some o) : ∀ {v : V} {x : D}, Rep Av H v x → Rep Av' H' v x
  | _, _, .non => .non
  | _, _, .bl b => .bl b
  | _, _, .int i => .int i
  | _, _, .str x => .str x
  | _, _, .lst n h r => .lst (t _ _ n h).1 (t _ _ n h).2 (Reps.tr t r)
  | _, _, .tup n h r => .tup (t _ _ n h).1 (t _ _ n h).2 (Reps.tr t r)
  | _, _, .dct n h r => .dct (t _ _ n h).1 (t _ _ n h).2 (RepKs.tr t r)
theorem Reps.tr (t : ∀ a o, ¬ Av a → H a = some o → ¬ Av' a ∧ H' a = some o) : ∀ {v : List V} {x : List D}, Reps Av H v x → Reps Av' H' v x
  | _, _, .nil => .nil
  | _, _, .cons r rs => .cons (Rep.tr t r) (Reps.tr t rs)
theorem RepKs.tr (t : ∀ a o, ¬ Av a → H a = some o → ¬ Av' a ∧ H' a = some o) : ∀ {v : List (Key × V)} {x : List (D × D)}, RepKs Av H v x → RepKs Av' H' v x
  | _, _, .nil => .nil
  | _, _, .cons r rs => .cons (Rep.tr t r) (RepKs.tr t rs)
end
theorem Reps.len : ∀ {vs : List V} {xs : List D}, Reps Av H vs xs → vs.length = xs.length
  | _, _, .nil => rfl
  | _, _, .cons _ r => by rw [List.length_cons, List.length_cons, Reps.len r]
theorem RepKs.len : ∀ {vs : List (Key × V)} {xs : List (D × D)}, RepKs Av H vs xs → vs.length = xs.length
  | _, _, .nil => rfl
  | _, _, .cons _ r => by rw [List.length_cons, List.length_cons, RepKs.len r]
theorem Reps.get : ∀ {vs : List V} {xs : List D} {i : Nat} {x : D}, Reps Av H vs xs → xs[i]? = some x → ∃ v, vs[i]? = some v ∧ Rep Av H v x
  | _, _, _, _, .nil, e => by simp at e
  | _, _, 0, _, .cons r _, e => by simp at e; subst e; exact ⟨_, rfl, r⟩
  | _, _, i + 1, x, .cons _ t, e => by
    obtain ⟨u, h1, h2⟩ := Reps.get (i := i) (x := x) t (by simpa using e)
    exact ⟨u, by simpa using h1, h2⟩
theorem Reps.getV : ∀ {vs : List V} {xs : List D} {i : Nat} {v : V}, Reps Av H vs xs → vs[i]? = some v → ∃ x, xs[i]? = some x ∧ Rep Av H v x
  | _, _, _, _, .nil, e => by simp at e
  | _, _, 0, _, .cons r _, e => by simp at e; subst e; exact ⟨_, rfl, r⟩
  | _, _, i + 1, x, .cons _ t, e => by
    obtain ⟨u, h1, h2⟩ := Reps.getV (i := i) (v := x) t (by simpa using e)
    exact ⟨u, by simpa using h1, h2⟩
theorem Reps.append : ∀ {vs ws : List V} {xs ys : List D}, Reps Av H vs xs → Reps Av H ws ys → Reps Av H (vs ++ ws) (xs ++ ys)
  | _, _, _, _, .nil, s => s
  | _, _, _, _, .cons r t, s => .cons r (Reps.append t s)
theorem Reps.snoc {vs : List V} {xs : List D} {v : V} {x : D} (r : Reps Av H vs xs) (q : Rep Av H v x) : Reps Av H (vs ++ [v]) (xs ++ [x]) := r.append (.cons q .nil)
theorem Reps.take : ∀ {vs : List V} {xs : List D} (n : Nat), Reps Av H vs xs → Reps Av H (vs.take n) (xs.take n)
  | _, _, 0, _ => .nil
  | _, _, _ + 1, .nil => .nil
  | _, _, n + 1, .cons r t => .cons r (Reps.take n t)
theorem Reps.drop : ∀ {vs : List V} {xs : List D} (n : Nat), Reps Av H vs xs → Reps Av H (vs.drop n) (xs.drop n)
  | _, _, 0, r => r
  | _, _, _ + 1, .nil => .nil
  | _, _, n + 1, .cons _ t => Reps.drop n t
theorem Reps.set {v : V} {x : D} (q : Rep Av H v x) : ∀ {vs : List V} {xs : List D} (i : Nat), Reps Av H vs xs → Reps Av H (vs.set i v) (xs.set i x)
  | _, _, _, .nil => .nil
  | _, _, 0, .cons _ t => .cons q t
  | _, _, i + 1, .cons r t => .cons r (Reps.set q i t)
theorem Reps.rev : ∀ {vs : List V} {xs : List D}, Reps Av H vs xs → Reps Av H vs.reverse xs.reverse
  | _, _, .nil => .nil
  | _, _, .cons r t => by
    rw [List.reverse_cons, List.reverse_cons]
    exact (Reps.rev t).snoc r
theorem Reps.ints : ∀ {vs : List V} {ns : List Int}, Reps Av H vs (ns.map .int) → vs = ns.map V.int
  | _, [], .nil => rfl
  | _, n :: ns, .cons r t => by
    cases r
    rw [List.map_cons, Reps.ints t]
theorem Reps.bools : ∀ {vs : List V} {ns : List Bool}, Reps Av H vs (ns.map .bool) → vs = ns.map V.bl
  | _, [], .nil => rfl
  | _, n :: ns, .cons r t => by
    cases r
    rw [List.map_cons, Reps.bools t]
theorem Reps.strs : ∀ {vs : List V} {ns : List Str}, Reps Av H vs (ns.map .str) → vs = ns.map V.str
  | _, [], .nil => rfl
  | _, n :: ns, .cons r t => by
    cases r
    rw [List.map_cons, Reps.strs t]
theorem Reps.of_ints : ∀ (ns : List Int), Reps Av H (ns.map V.int) (ns.map .int)
  | [] => .nil
  | n :: ns => .cons (.int n) (Reps.of_ints ns)
theorem Reps.of_strs : ∀ (ns : List Str), Reps Av H (ns.map V.str) (ns.map .str)
  | [] => .nil
  | n :: ns => .cons (.str n) (Reps.of_strs ns)
end

/-- what stays: a longer heap -/
def Ex (H H' : Hp) : Prop := ∀ a o, H a = some o → H' a = some o
theorem Ex.refl (H : Hp) : Ex H H := fun _ _ h => h
theorem Ex.trans {H H1 H2 : Hp} (a : Ex H H1) (b : Ex H1 H2) : Ex H H2 := fun x o h => b x o (a x o h)
theorem Ex.new {H : Hp} {p : Addr} {o : HO} (h : H p = none) : Ex H (upd H p o) := fun a u e => by
  rw [upd_ne (ne_of_none e h)]
  exact e
theorem Rep.ex {Av : Addr → Prop} {H H' : Hp} {v : V} {x : D} (r : Rep Av H v x) (e : Ex H H') : Rep Av H' v x := r.tr fun a o n h => ⟨n, e a o h⟩
theorem Reps.ex {Av : Addr → Prop} {H H' : Hp} {v : List V} {x : List D} (r : Reps Av H v x) (e : Ex H H') : Reps Av H' v x := r.tr fun a o n h => ⟨n, e a o h⟩
theorem RepKs.ex {Av : Addr → Prop} {H H' : Hp} {v : List (Key × V)} {x : List (D × D)} (r : RepKs Av H v x) (e : Ex H H') : RepKs Av H' v x := r.tr fun a o n h => ⟨n, e a o h⟩

/-- what an owned object holds -/
def Own (Av : Addr → Prop) (H : Hp) (a : Addr) : D → Prop
  | .list xs => ∃ vs, H a = some (.lst vs) ∧ Reps Av H vs xs
  | .dict es => ∃ kvs, H a = some (.dK kvs) ∧ RepKs Av H kvs es
  | _ => False
theorem Own.tr {Av Av' : Addr → Prop} {H H' : Hp} {p : Addr} (t : ∀ a o, ¬ Av a → H a = some o → ¬ Av' a ∧ H' a = some o) (k : H' p = H p) : ∀ {x : D}, Own Av H p x → Own Av' H' p x
  | .list xs, ⟨vs, h, r⟩ => ⟨vs, by rw [k]; exact h, r.tr t⟩
  | .dict es, ⟨vs, h, r⟩ => ⟨vs, by rw [k]; exact h, r.tr t⟩
  | .none, h => h.elim
  | .bool _, h => h.elim
  | .int _, h => h.elim
  | .str _, h => h.elim
  | .tuple _, h => h.elim
/-- a value as it may be looked at: a datum, or an owned object -/
def Vw (Av : Addr → Prop) (H : Hp) (v : V) (x : D) : Prop := Rep Av H v x ∨ ∃ a, v = .ref a ∧ Own Av H a x

/-- the feed's state -/
structure FS where
  ns : List Int
  i : Int
  b : Int
  c : Int
  deriving DecidableEq
def Feed (Av : Addr → Prop) (H : Hp) (a : Addr) (fs : FS) : Prop := ∃ l, H a = some (.lst [.ref l, .int fs.i, .int fs.b, .int fs.c]) ∧ ¬ Av l ∧ H l = some (.lst (fs.ns.map V.int))
inductive Slot where
  | un
  | fz (x : D)
  | ow (x : D)
  | fd (fs : FS)
  | xc (x : D)
def RepSlot (κ : XI) (Av : Addr → Prop) (H : Hp) (ov : Option (Option V)) (oa : Option Addr) : Slot → Prop
  | .un => oa = none
  | .fz x => oa = none ∧ ∃ v, ov = some (some v) ∧ Rep Av H v x
  | .ow x => ∃ a, oa = some a ∧ ov = some (some (.ref a)) ∧ Own Av H a x
  | .fd fs => ∃ a, oa = some a ∧ ov = some (some (.ref a)) ∧ Feed Av H a fs
  | .xc x => oa = none ∧ ∃ a dd f v, κ = some (a, dd, f) ∧ ov = some (some (.ref a)) ∧ H dd = some (.xd [(f, v)]) ∧ ¬ Av dd ∧ Rep Av H v x

structure Cc (κ : XI) where
  O : Addr → Prop
  H0 : Hp
  fa : Option Addr
  pin : Option Addr
def Av (c : Cc κ) (own : Own1) : Addr → Prop := fun a => c.O a ∨ ∃ i, own i = some a
structure RepS (c : Cc κ) (σ : L2.St) (H : Hp) (d : List Slot) (own : Own1) : Prop where
  len : σ.length = d.length
  slot : ∀ i s, d[i]? = some s → RepSlot κ (Av c own) H σ[i]? (own i) s
  inj : ∀ i j a, own i = some a → own j = some a → i = j
  out : ∀ i a, own i = some a → i < d.length
  new : ∀ i a, own i = some a → c.H0 a = none ∨ c.fa = some a
  nO : ∀ i a, own i = some a → ¬ c.O a
  keep : ∀ a o, c.H0 a = some o → c.fa ≠ some a → H a = some o
  dom : ∀ a, c.O a → ∃ o, H a = some o
  pin : ∀ a, c.pin = some a → own 0 = some a ∧ ∃ fs, d[0]? = some (.fd fs)
/-- the heap without what is owned -/
noncomputable def hide (own : Own1) (H : Hp) : Hp := fun a => open Classical in if ∃ i, own i = some a then none else H a
theorem hide_own {own : Own1} {H : Hp} {a : Addr} {i : Nat} (h : own i = some a) : hide own H a = none := by
  unfold hide
  rw [if_pos ⟨i, h⟩]
theorem hide_not {own : Own1} {H : Hp} {a : Addr} (h : ¬ ∃ i, own i = some a) : hide own H a = H a := by
  unfold hide
  rw [if_neg h]
theorem of_hide {own : Own1} {H : Hp} {a : Addr} {o : HO} (h : hide own H a = some o) : H a = some o ∧ ¬ ∃ i, own i = some a := by
  unfold hide at h
  split at h
  · cases h
  · exact ⟨h, by assumption⟩
noncomputable def Cc.at (c : Cc κ) (own : Own1) (H : Hp) : Cc κ := ⟨c.O, hide own H, none, c.pin⟩
theorem Av_at {c : Cc κ} {own own' : Own1} {H : Hp} : Av (c.at own H) own' = Av c own' := rfl

section
variable {c : Cc κ} {σ σ' : L2.St} {H H' : Hp} {d d' : List Slot} {own own' : Own1}
theorem RepS.enter (R : RepS c σ H d own) : RepS (c.at own H) σ H d own :=
  ⟨R.len, R.slot, R.inj, R.out, fun i a h => .inl (hide_own h), R.nO, fun a o h _ => (of_hide h).1, R.dom, R.pin⟩
theorem RepS.leaveO {O' : Addr → Prop} (R : RepS c σ H d own) (S : RepS (κ := κ) ⟨O', hide own H, none, c.pin⟩ σ' H' d' own') : RepS (κ := κ) ⟨O', c.H0, c.fa, c.pin⟩ σ' H' d' own' := by
  refine ⟨S.len, S.slot, S.inj, S.out, fun i a h => ?_, S.nO, fun a o h n => ?_, S.dom, S.pin⟩
  · rcases S.new i a h with q | q
    · by_cases e : ∃ i, own i = some a
      · obtain ⟨j, e⟩ := e
        exact R.new j a e
      · have q' : hide own H a = none := q
        rw [hide_not e] at q'
        by_cases z : c.fa = some a
        · exact .inr z
        · left
          cases hz : c.H0 a with
          | none => rfl
          | some o =>
            rw [R.keep a o hz z] at q'
            cases q'
    · cases q
  · refine S.keep a o ?_ (by intro q; cases q)
    show hide own H a = some o
    rw [hide_not]
    · exact R.keep a o h n
    · rintro ⟨i, e⟩
      rcases R.new i a e with q | q
      · rw [h] at q; cases q
      · exact n q
theorem RepS.leave (R : RepS c σ H d own) (S : RepS (c.at own H) σ' H' d' own') : RepS c σ' H' d' own' := R.leaveO S
/-- what held ahead holds behind -/
theorem RepS.tr (S : RepS (c.at own H) σ' H' d' own') : ∀ a o, ¬ Av c own a → H a = some o → ¬ Av c own' a ∧ H' a = some o := fun a o n h => by
  have e : ¬ ∃ i, own i = some a := fun q => n (.inr q)
  have h0 : hide own H a = some o := by rw [hide_not e]; exact h
  refine ⟨?_, S.keep a o h0 (by intro q; cases q)⟩
  rintro (q | ⟨i, q⟩)
  · exact n (.inl q)
  · rcases S.new i a q with z | z
    · have z' : hide own H a = none := z
      rw [h0] at z'; cases z'
    · cases z
theorem RepS.carry (S : RepS (c.at own H) σ' H' d' own') {v : V} {x : D} (r : Rep (Av c own) H v x) : Rep (Av c own') H' v x := r.tr S.tr
theorem RepS.carrys (S : RepS (c.at own H) σ' H' d' own') {v : List V} {x : List D} (r : Reps (Av c own) H v x) : Reps (Av c own') H' v x := r.tr S.tr
theorem RepS.domA (R : RepS c σ H d own) : ∀ a, Av c own a → ∃ o, H a = some o := by
  rintro a (q | ⟨i, q⟩)
  · exact R.dom a q
  · have hi := R.out i a q
    have s := R.slot i d[i] (List.getElem?_eq_getElem hi)
    cases e : d[i] with
    | un => rw [e] at s; rw [show own i = none from s] at q; cases q
    | fz x => rw [e] at s; rw [s.1] at q; cases q
    | ow x =>
      rw [e] at s
      obtain ⟨b, e1, _, e3⟩ := s
      rw [q] at e1; cases e1
      cases x <;> first | exact e3.elim | exact ⟨_, e3.choose_spec.1⟩
    | fd fs =>
      rw [e] at s
      obtain ⟨b, e1, _, l, e3, _⟩ := s
      rw [q] at e1; cases e1
      exact ⟨_, e3⟩
    | xc x =>
      rw [e] at s
      rw [s.1] at q
      cases q
/-- the slots under another heap -/
theorem RepSlot.tr {A A' : Addr → Prop} {ov : Option (Option V)} {oa : Option Addr} (t : ∀ a o, ¬ A a → H a = some o → ¬ A' a ∧ H' a = some o) (k : ∀ a, oa = some a → H' a = H a) : ∀ {s : Slot}, RepSlot κ A H ov oa s → RepSlot κ A' H' ov oa s
  | .un, h => h
  | .fz x, ⟨h, v, e, r⟩ => ⟨h, v, e, r.tr t⟩
  | .ow x, ⟨a, h, e, r⟩ => ⟨a, h, e, r.tr t (k a h)⟩
  | .fd fs, ⟨a, h, e, l, r1, r2, r3⟩ => ⟨a, h, e, l, by rw [k a h]; exact r1, (t l _ r2 r3).1, (t l _ r2 r3).2⟩
  | .xc x, ⟨h, a, dd, f, v, e1, e2, e3, e4, r⟩ => ⟨h, a, dd, f, v, e1, e2, (t dd _ e4 e3).2, (t dd _ e4 e3).1, r.tr t⟩
/-- a new object -/
theorem RepS.alloc (R : RepS c σ H d own) {p : Addr} {o : HO} (hp : H p = none) : RepS c σ (upd H p o) d own := by
  have ne : ∀ a, Av c own a → a ≠ p := fun a q e => by
    obtain ⟨o, h⟩ := R.domA a q
    rw [e, hp] at h; cases h
  refine ⟨R.len, fun i s h => (R.slot i s h).tr (fun a o n q => ⟨n, Ex.new hp a o q⟩) fun a q => upd_ne (ne a (.inr ⟨i, q⟩)), R.inj, R.out, R.new, R.nO, fun a o h n => Ex.new hp a o (R.keep a o h n), fun a h => ?_, R.pin⟩
  obtain ⟨o', e⟩ := R.dom a h
  exact ⟨o', Ex.new hp a o' e⟩
/-- a longer heap, what is owned as it was -/
theorem RepS.ext (R : RepS c σ H d own) (e : Ex H H') : RepS c σ H' d own := by
  have ke : ∀ a, Av c own a → H' a = H a := fun a q => by
    obtain ⟨o, h⟩ := R.domA a q
    rw [h, e a o h]
  refine ⟨R.len, fun i s h => (R.slot i s h).tr (fun a o n q => ⟨n, e a o q⟩) fun a q => ke a (.inr ⟨i, q⟩), R.inj, R.out, R.new, R.nO, fun a o h n => e a o (R.keep a o h n), fun a h => ?_, R.pin⟩
  obtain ⟨o', z⟩ := R.dom a h
  exact ⟨o', e a o' z⟩
/-- with more to be left alone: what is not there yet (in the elder heap) -/
theorem RepS.more (R : RepS c σ H d own) (e : Ex H H') {O' : Addr → Prop} (h1 : ∀ a, c.O a → O' a) (h2 : ∀ a, O' a → c.O a ∨ H a = none) (h3 : ∀ a, O' a → ∃ o, H' a = some o) : RepS (κ := κ) ⟨O', c.H0, c.fa, c.pin⟩ σ H' d own := by
  have ke : ∀ a, Av c own a → H' a = H a := fun a q => by
    obtain ⟨o, h⟩ := R.domA a q
    rw [h, e a o h]
  refine ⟨R.len, fun i s h => (R.slot i s h).tr (fun a o n q => ⟨?_, e a o q⟩) fun a q => ke a (.inr ⟨i, q⟩), R.inj, R.out, R.new, fun i a q z => ?_, fun a o h n => e a o (R.keep a o h n), h3, R.pin⟩
  · rintro (z | z)
    · rcases h2 a z with z | z
      · exact n (.inl z)
      · rw [q] at z; cases z
    · exact n (.inr z)
  · rcases h2 a z with z | z
    · exact R.nO i a q z
    · obtain ⟨o, h⟩ := R.domA a (.inr ⟨i, q⟩)
      rw [h] at z; cases z
end
end DK
end
section
set_option maxRecDepth 100000
namespace DK
open PySem L2
variable {κ : XI}

abbrev ER := List Slot → Option (D × List Slot)
/-- te gives the datum that f reckons -/
def SimE (κ : XI) (te : TE) (f : ER) : Prop := ∀ (c : Cc κ) (σ : L2.St) (H : Hp) (d : List Slot) (own : Own1), RepS c σ H d own → ∀ x d', f d = some (x, d') →
  ∀ Q : VK, (∀ v H' own', RepS (c.at own H) σ H' d' own' → Rep (Av c own') H' v x → Q v H') → te σ H Q
/-- .. a new list or dict -/
def SimN (κ : XI) (te : TE) (f : ER) : Prop := ∀ (c : Cc κ) (σ : L2.St) (H : Hp) (d : List Slot) (own : Own1), RepS c σ H d own → ∀ x d', f d = some (x, d') →
  ∀ Q : VK, (∀ p H' own', RepS (κ := κ) ⟨fun a => c.O a ∨ a = p, hide own H, none, c.pin⟩ σ H' d' own' → (¬ c.O p ∧ hide own H p = none) → Own (Av (κ := κ) ⟨fun a => c.O a ∨ a = p, hide own H, none, c.pin⟩ own') H' p x → Q (.ref p) H') → te σ H Q
inductive BV where
  | v (x : D)
  | s (i : Nat)
abbrev BR := List Slot → Option (BV × List Slot)
def BVok (c : Cc κ) (σ : L2.St) (H : Hp) (own : Own1) : BV → V → Prop
  | .v x, v => Rep (Av c own) H v x
  | .s i, v => σ[i]? = some (some v)
def slotD : Option Slot → Option D
  | some (.fz x) => some x
  | some (.ow x) => some x
  | _ => none
def BV.get (d : List Slot) : BV → Option D
  | .v x => some x
  | .s i => slotD d[i]?
def SimB (κ : XI) (te : TE) (f : BR) : Prop := ∀ (c : Cc κ) (σ : L2.St) (H : Hp) (d : List Slot) (own : Own1), RepS c σ H d own → ∀ b d', f d = some (b, d') →
  ∀ Q : VK, (∀ v H' own', RepS (c.at own H) σ H' d' own' → BVok c σ H' own' b v → Q v H') → te σ H Q
abbrev AR := List Slot → Option (List D × List Slot)
abbrev ABR := List Slot → Option (List BV × List Slot)
def SimA (κ : XI) (ta : TA) (f : AR) : Prop := ∀ (c : Cc κ) (σ : L2.St) (H : Hp) (d : List Slot) (own : Own1), RepS c σ H d own → ∀ xs d', f d = some (xs, d') →
  ∀ Q : List V → Hp → Prop, (∀ vs H' own', RepS (c.at own H) σ H' d' own' → Reps (Av c own') H' vs xs → Q vs H') → ta σ H Q
inductive BVoks (c : Cc κ) (σ : L2.St) (H : Hp) (own : Own1) : List BV → List V → Prop
  | nil : BVoks c σ H own [] []
  | cons {b v bs vs} : BVok c σ H own b v → BVoks c σ H own bs vs → BVoks c σ H own (b :: bs) (v :: vs)
def SimAB (κ : XI) (ta : TA) (f : ABR) : Prop := ∀ (c : Cc κ) (σ : L2.St) (H : Hp) (d : List Slot) (own : Own1), RepS c σ H d own → ∀ xs d', f d = some (xs, d') →
  ∀ Q : List V → Hp → Prop, (∀ vs H' own', RepS (c.at own H) σ H' d' own' → BVoks c σ H' own' xs vs → Q vs H') → ta σ H Q
abbrev TR := List Slot → Option (Bool × List Slot)
def SimT (κ : XI) (tt : TT) (f : TR) : Prop := ∀ (c : Cc κ) (σ : L2.St) (H : Hp) (d : List Slot) (own : Own1), RepS c σ H d own → ∀ b d', f d = some (b, d') →
  ∀ Q : Bool → Hp → Prop, (∀ H' own', RepS (c.at own H) σ H' d' own' → Q b H') → tt σ H Q

section
variable {c : Cc κ} {σ : L2.St} {H H' H2 : Hp} {d d' d2 : List Slot} {own own' own2 : Own1}
/-- one behind the other -/
theorem RepS.then (R : RepS c σ H d own) (S : RepS (c.at own H) σ H' d' own') (T : RepS (c.at own' H') σ H2 d2 own2) : RepS (c.at own H) σ H2 d2 own2 := S.leave T
theorem BVok.carry (R : RepS c σ H d own) (S : RepS (c.at own H) σ H' d' own') : ∀ {b : BV} {v : V}, BVok c σ H own b v → BVok c σ H' own' b v
  | .v _, _, h => S.carry h
  | .s _, _, h => h
theorem slot_vw (R : RepS c σ H d own) {i : Nat} {v : V} {x : D} (h : σ[i]? = some (some v)) (e : slotD d[i]? = some x) : Vw (Av c own) H v x := by
  cases q : d[i]? with
  | none => rw [q] at e; cases e
  | some s =>
    rw [q] at e
    have z := R.slot i s q
    cases s with
    | un => cases e
    | xc x => cases e
    | fd fs => cases e
    | fz y =>
      cases e
      obtain ⟨_, w, e1, r⟩ := z
      rw [h] at e1; cases e1
      exact .inl r
    | ow y =>
      cases e
      obtain ⟨a, _, e1, r⟩ := z
      rw [h] at e1; cases e1
      exact .inr ⟨a, rfl, r⟩
theorem BVok.vw (R : RepS c σ H d own) : ∀ {b : BV} {v : V} {x : D}, BVok c σ H own b v → b.get d = some x → Vw (Av c own) H v x
  | .v y, v, x, h, e => by
    cases e
    exact .inl h
  | .s i, v, x, h, e => slot_vw R h e
end

/-! ### views -/
section
variable {A : Addr → Prop} {H : Hp} {v : V}
theorem Vw.int {i : Int} (h : Vw A H v (.int i)) : v = .int i := by
  rcases h with h | ⟨_, _, h⟩
  · cases h; rfl
  · exact h.elim
theorem Vw.bl {b : Bool} (h : Vw A H v (.bool b)) : v = .bl b := by
  rcases h with h | ⟨_, _, h⟩
  · cases h; rfl
  · exact h.elim
theorem Vw.str {x : Str} (h : Vw A H v (.str x)) : v = .str x := by
  rcases h with h | ⟨_, _, h⟩
  · cases h; rfl
  · exact h.elim
theorem Vw.non (h : Vw A H v .none) : v = .non := by
  rcases h with h | ⟨_, _, h⟩
  · cases h; rfl
  · exact h.elim
theorem Vw.lst {xs : List D} (h : Vw A H v (.list xs)) : ∃ a vs, v = .ref a ∧ H a = some (.lst vs) ∧ Reps A H vs xs := by
  rcases h with h | ⟨a, e, vs, h, r⟩
  · cases h with
    | lst n h r => exact ⟨_, _, rfl, h, r⟩
  · exact ⟨a, vs, e, h, r⟩
theorem Vw.tup {xs : List D} (h : Vw A H v (.tuple xs)) : ∃ a vs, v = .ref a ∧ H a = some (.tup vs) ∧ Reps A H vs xs := by
  rcases h with h | ⟨_, _, h⟩
  · cases h with
    | tup n h r => exact ⟨_, _, rfl, h, r⟩
  · exact h.elim
theorem Vw.dct {es : List (D × D)} (h : Vw A H v (.dict es)) : ∃ a kvs, v = .ref a ∧ H a = some (.dK kvs) ∧ RepKs A H kvs es := by
  rcases h with h | ⟨a, e, vs, h, r⟩
  · cases h with
    | dct n h r => exact ⟨_, _, rfl, h, r⟩
  · exact ⟨a, vs, e, h, r⟩
end

/-! ### names, constants -/
def setAt (own : Own1) (i : Nat) (o : Option Addr) : Own1 := fun j => if j = i then o else own j
theorem setAt_eq {own : Own1} {i : Nat} {o : Option Addr} : setAt own i o i = o := if_pos rfl
theorem setAt_ne {own : Own1} {i j : Nat} {o : Option Addr} (h : j ≠ i) : setAt own i o j = own j := if_neg h
theorem setAt_none {own : Own1} {i j : Nat} {a : Addr} (h : setAt own i none j = some a) : own j = some a ∧ j ≠ i := by
  by_cases e : j = i
  · rw [e, setAt_eq] at h; cases h
  · rw [setAt_ne e] at h; exact ⟨h, e⟩
theorem Av_drop {c : Cc κ} {own : Own1} {i : Nat} {a : Addr} (h : ¬ Av c own a) : ¬ Av c (setAt own i none) a := by
  rintro (q | ⟨j, q⟩)
  · exact h (.inl q)
  · exact h (.inr ⟨j, (setAt_none q).1⟩)

section
variable {c : Cc κ} {σ : L2.St} {H : Hp} {d : List Slot} {own : Own1}
/-- a slot takes a datum; what it owned is let go -/
def notFd : Option Slot → Bool
  | some (.fd _) => false
  | _ => true
theorem pin_ne (R : RepS c σ H d own) {i : Nat} (n : notFd d[i]? = true) {a : Addr} (h : c.pin = some a) : i ≠ 0 := fun e => by
  obtain ⟨_, fs, q⟩ := R.pin a h
  rw [e, q] at n
  cases n
theorem RepS.store (R : RepS c σ H d own) {i : Nat} {v : V} {x : D} (n0 : notFd d[i]? = true) (r : Rep (Av c own) H v x) : RepS c (σ.set i (some v)) H (d.set i (.fz x)) (setAt own i none) := by
  refine ⟨by rw [List.length_set, List.length_set, R.len], fun j s h => ?_, fun j k a h1 h2 => R.inj j k a (setAt_none h1).1 (setAt_none h2).1, fun j a h => ?_, fun j a h => R.new j a (setAt_none h).1, fun j a h => R.nO j a (setAt_none h).1, R.keep, R.dom, fun a h => ⟨(setAt_ne (Ne.symm (pin_ne R n0 h))).trans (R.pin a h).1, by rw [List.getElem?_set_ne (pin_ne R n0 h)]; exact (R.pin a h).2⟩⟩
  · by_cases e : j = i
    · subst e
      by_cases hl : j < d.length
      · rw [List.getElem?_set_self hl] at h
        cases h
        have hs : j < σ.length := by rw [R.len]; exact hl
        rw [List.getElem?_set_self hs]
        exact ⟨setAt_eq, v, rfl, r.tr fun a o n q => ⟨Av_drop n, q⟩⟩
      · rw [List.getElem?_eq_none_iff.mpr (by rw [List.length_set]; omega)] at h
        cases h
    · rw [List.getElem?_set_ne (Ne.symm e)] at h
      rw [List.getElem?_set_ne (Ne.symm e), setAt_ne e]
      exact (R.slot j s h).tr (fun a o n q => ⟨Av_drop n, q⟩) fun _ _ => rfl
  · rw [List.length_set]
    exact R.out j a (setAt_none h).1
/-- an owned slot is let go, its datum stays -/
theorem RepS.freeze (R : RepS c σ H d own) {i : Nat} {x : D} (h : d[i]? = some (.ow x)) : ∃ v, σ[i]? = some (some v) ∧ RepS c σ H (d.set i (.fz x)) (setAt own i none) ∧ Rep (Av c (setAt own i none)) H v x := by
  obtain ⟨a, e1, e2, ow⟩ := R.slot i _ h
  have n0 : notFd d[i]? = true := by rw [h]; rfl
  have na : ¬ Av c (setAt own i none) a := by
    rintro (q | ⟨j, q⟩)
    · exact R.nO i a e1 q
    · obtain ⟨q, n⟩ := setAt_none q
      exact n (R.inj j i a q e1)
  have rx : Rep (Av c (setAt own i none)) H (.ref a) x := by
    cases x with
    | list xs =>
      obtain ⟨vs, h1, r⟩ := ow
      exact .lst na h1 (r.tr fun a o n q => ⟨Av_drop n, q⟩)
    | dict es =>
      obtain ⟨vs, h1, r⟩ := ow
      exact .dct na h1 (r.tr fun a o n q => ⟨Av_drop n, q⟩)
    | _ => exact ow.elim
  refine ⟨.ref a, e2, ⟨by rw [List.length_set, R.len], fun j s hj => ?_, fun j k a h1 h2 => R.inj j k a (setAt_none h1).1 (setAt_none h2).1, fun j a h => ?_, fun j a h => R.new j a (setAt_none h).1, fun j a h => R.nO j a (setAt_none h).1, R.keep, R.dom, fun a h => ⟨(setAt_ne (Ne.symm (pin_ne R n0 h))).trans (R.pin a h).1, by rw [List.getElem?_set_ne (pin_ne R n0 h)]; exact (R.pin a h).2⟩⟩, rx⟩
  · by_cases e : j = i
    · subst e
      have hl : j < d.length := (List.getElem?_eq_some_iff.mp h).1
      rw [List.getElem?_set_self hl] at hj
      cases hj
      exact ⟨setAt_eq, _, e2, rx⟩
    · rw [List.getElem?_set_ne (Ne.symm e)] at hj
      rw [setAt_ne e]
      exact (R.slot j s hj).tr (fun a o n q => ⟨Av_drop n, q⟩) fun _ _ => rfl
  · rw [List.length_set]
    exact R.out j a (setAt_none h).1
/-- a slot takes a new object -/
theorem RepS.take {p : Addr} {O : Addr → Prop} {H0 : Hp} {fa pn : Option Addr} (R : RepS (κ := κ) ⟨fun a => O a ∨ a = p, H0, fa, pn⟩ σ H d own) {i : Nat} {x : D} (hi : i < d.length) (n0 : notFd d[i]? = true) (h0 : H0 p = none) (hO : ¬ O p) (r : Own (Av (κ := κ) ⟨fun a => O a ∨ a = p, H0, fa, pn⟩ own) H p x) :
    RepS (κ := κ) ⟨O, H0, fa, pn⟩ (σ.set i (some (.ref p))) H (d.set i (.ow x)) (setAt own i (some p)) := by
  have np : ∀ j, own j ≠ some p := fun j q => R.nO j p q (.inr rfl)
  have as : ∀ {j a}, setAt own i (some p) j = some a → (j = i ∧ a = p) ∨ (j ≠ i ∧ own j = some a) := fun {j a} h => by
    by_cases e : j = i
    · rw [e, setAt_eq] at h; exact .inl ⟨e, (Option.some.inj h).symm⟩
    · rw [setAt_ne e] at h; exact .inr ⟨e, h⟩
  have av : ∀ a, ¬ Av (κ := κ) ⟨fun a => O a ∨ a = p, H0, fa, pn⟩ own a → ¬ Av (κ := κ) ⟨O, H0, fa, pn⟩ (setAt own i (some p)) a := fun a n => by
    rintro (q | ⟨j, q⟩)
    · exact n (.inl (.inl q))
    · rcases as q with ⟨_, e⟩ | ⟨_, e⟩
      · exact n (.inl (.inr e))
      · exact n (.inr ⟨j, e⟩)
  refine ⟨by rw [List.length_set, List.length_set, R.len], fun j s h => ?_, fun j k a h1 h2 => ?_, fun j a h => ?_, fun j a h => ?_, fun j a h => ?_, R.keep, fun a h => R.dom a (.inl h), fun a h => ⟨(setAt_ne (Ne.symm (pin_ne R n0 h))).trans (R.pin a h).1, by rw [List.getElem?_set_ne (pin_ne R n0 h)]; exact (R.pin a h).2⟩⟩
  · by_cases e : j = i
    · subst e
      rw [List.getElem?_set_self hi] at h
      cases h
      have hs : j < σ.length := by rw [R.len]; exact hi
      rw [List.getElem?_set_self hs]
      exact ⟨p, setAt_eq, rfl, r.tr (fun a o n q => ⟨av a n, q⟩) rfl⟩
    · rw [List.getElem?_set_ne (Ne.symm e)] at h
      rw [List.getElem?_set_ne (Ne.symm e), setAt_ne e]
      exact (R.slot j s h).tr (fun a o n q => ⟨av a n, q⟩) fun _ _ => rfl
  · rcases as h1 with ⟨e1, e2⟩ | ⟨e1, e2⟩ <;> rcases as h2 with ⟨e3, e4⟩ | ⟨e3, e4⟩
    · rw [e1, e3]
    · rw [e2] at e4; exact absurd e4 (np k)
    · rw [e4] at e2; exact absurd e2 (np j)
    · exact R.inj j k a e2 e4
  · rw [List.length_set]
    rcases as h with ⟨e1, e2⟩ | ⟨e1, e2⟩
    · rw [e1]; exact hi
    · exact R.out j a e2
  · rcases as h with ⟨e1, e2⟩ | ⟨e1, e2⟩
    · left; rw [e2]; exact h0
    · exact R.new j a e2
  · rcases as h with ⟨e1, e2⟩ | ⟨e1, e2⟩
    · rw [e2]; exact hO
    · exact fun q => R.nO j a e2 (.inl q)
/-- an owned object is written -/
theorem RepS.write (R : RepS c σ H d own) {i : Nat} {a : Addr} {x : D} {o : HO} (n0 : notFd d[i]? = true) (hi : own i = some a) (hd : i < d.length) (hσ : σ[i]? = some (some (.ref a))) (r : Own (Av c own) (upd H a o) a x) : RepS c σ (upd H a o) (d.set i (.ow x)) own := by
  have t : ∀ b o', ¬ Av c own b → H b = some o' → ¬ Av c own b ∧ upd H a o b = some o' := fun b o' n q => ⟨n, by rw [upd_ne (fun e => n (.inr ⟨i, by rw [e]; exact hi⟩))]; exact q⟩
  refine ⟨by rw [List.length_set, R.len], fun j s h => ?_, R.inj, fun j b h => by rw [List.length_set]; exact R.out j b h, R.new, R.nO, fun b o' h n => ?_, fun b h => ?_, fun a h => ⟨(R.pin a h).1, by rw [List.getElem?_set_ne (pin_ne R n0 h)]; exact (R.pin a h).2⟩⟩
  · by_cases e : j = i
    · subst e
      rw [List.getElem?_set_self hd] at h
      cases h
      exact ⟨a, hi, hσ, r⟩
    · rw [List.getElem?_set_ne (Ne.symm e)] at h
      exact (R.slot j s h).tr t fun b q => upd_ne fun z => e (R.inj j i a (by rw [← z]; exact q) hi)
  · rcases R.new i a hi with q | q
    · rw [upd_ne (fun e => by rw [e, q] at h; cases h)]
      exact R.keep b o' h n
    · rw [upd_ne (fun e => n (by rw [e]; exact q))]
      exact R.keep b o' h n
  · rw [upd_ne (fun e => R.nO i a hi (by rw [← e]; exact h))]
    exact R.dom b h
end

def rVar (i : Nat) : ER := fun d => match d[i]? with
  | some (.fz x) => some (x, d)
  | some (.ow x) => some (x, d.set i (.fz x))
  | _ => none
theorem simVar (i : Nat) : SimE κ (tVar i) (rVar i) := fun c σ H d own R x d' h Q q => by
  unfold rVar at h
  cases e : d[i]? with
  | none => rw [e] at h; cases h
  | some s =>
    rw [e] at h
    cases s with
    | un => cases h
    | xc x => cases h
    | fd fs => cases h
    | fz y =>
      cases h
      obtain ⟨_, v, e1, r⟩ := R.slot i _ e
      exact ⟨v, e1, q v H own R.enter r⟩
    | ow y =>
      cases h
      obtain ⟨v, e1, S, r⟩ := R.enter.freeze e
      exact ⟨v, e1, q v H _ S r⟩
def rVarB (i : Nat) : BR := fun d => match d[i]? with
  | some (.fz x) => some (.s i, d)
  | some (.ow x) => some (.s i, d)
  | _ => none
theorem simVarB (i : Nat) : SimB κ (tVar i) (rVarB i) := fun c σ H d own R b d' h Q q => by
  unfold rVarB at h
  cases e : d[i]? with
  | none => rw [e] at h; cases h
  | some s =>
    rw [e] at h
    cases s with
    | un => cases h
    | xc x => cases h
    | fd fs => cases h
    | fz y =>
      cases h
      obtain ⟨_, v, e1, r⟩ := R.slot i _ e
      exact ⟨v, e1, q v H own R.enter e1⟩
    | ow y =>
      cases h
      obtain ⟨a, _, e1, r⟩ := R.slot i _ e
      exact ⟨.ref a, e1, q _ H own R.enter e1⟩
def rC (x : D) : ER := fun d => some (x, d)
theorem simInt {i : Int} : SimE κ (tC (.int i)) (rC (.int i)) := fun c σ H d own R x d' h Q q => by
  cases h
  exact q _ H own R.enter (.int i)
theorem simStr {i : Str} : SimE κ (tC (.str i)) (rC (.str i)) := fun c σ H d own R x d' h Q q => by
  cases h
  exact q _ H own R.enter (.str i)
theorem simBl {i : Bool} : SimE κ (tC (.bl i)) (rC (.bool i)) := fun c σ H d own R x d' h Q q => by
  cases h
  exact q _ H own R.enter (.bl i)
theorem simNon : SimE κ (tC .non) (rC .none) := fun c σ H d own R x d' h Q q => by
  cases h
  exact q _ H own R.enter .non
def rB (f : ER) : BR := fun d => match f d with
  | some (x, d') => some (.v x, d')
  | none => none
theorem simB {te : TE} {f : ER} (s : SimE κ te f) : SimB κ te (rB f) := fun c σ H d own R b d' h Q q => by
  unfold rB at h
  cases e : f d with
  | none => rw [e] at h; cases h
  | some p =>
    obtain ⟨x, d1⟩ := p
    rw [e] at h
    cases h
    exact s c σ H d own R x _ e Q fun v H' own' S r => q v H' own' S r

/-! ### new objects as data -/
theorem simN {te : TE} {f : ER} (s : SimN κ te f) : SimE κ te f := fun c σ H d own R x d' h Q q => by
  refine s c σ H d own R x d' h Q fun p H' own' S hp ow => ?_
  have hO : ¬ c.O p := hp.1
  have np : ¬ Av c own' p := by
    rintro (z | ⟨i, z⟩)
    · exact hO z
    · exact S.nO i p z (.inr rfl)
  have av : ∀ a, ¬ Av (κ := κ) ⟨fun a => c.O a ∨ a = p, hide own H, none, c.pin⟩ own' a → ¬ Av c own' a := fun a n => by
    rintro (z | z)
    · exact n (.inl (.inl z))
    · exact n (.inr z)
  refine q _ H' own' ⟨S.len, fun i s h => (S.slot i s h).tr (fun a o n z => ⟨av a n, z⟩) fun _ _ => rfl, S.inj, S.out, S.new, fun i a z w => S.nO i a z (.inl w), S.keep, fun a z => S.dom a (.inl z), S.pin⟩ ?_
  cases x with
  | list xs =>
    obtain ⟨vs, h1, r⟩ := ow
    exact .lst np h1 (r.tr fun a o n z => ⟨av a n, z⟩)
  | dict es =>
    obtain ⟨vs, h1, r⟩ := ow
    exact .dct np h1 (r.tr fun a o n z => ⟨av a n, z⟩)
  | _ => exact ow.elim

/-! ### arguments -/
def rNilA : AR := fun d => some ([], d)
theorem simNilA : SimA κ tNil rNilA := fun c σ H d own R x d' h Q q => by
  cases h
  exact q [] H own R.enter .nil
def rConsA (f : ER) (g : AR) : AR := fun d => match f d with
  | some (x, d1) => match g d1 with
    | some (xs, d2) => some (x :: xs, d2)
    | none => none
  | none => none
theorem simConsA {ta : TE} {tr : TA} {f : ER} {g : AR} (s : SimE κ ta f) (t : SimA κ tr g) : SimA κ (tCons ta tr) (rConsA f g) := fun c σ H d own R x d' h Q q => by
  unfold rConsA at h
  cases e : f d with
  | none => rw [e] at h; cases h
  | some p =>
    obtain ⟨x1, d1⟩ := p
    rw [e] at h
    dsimp only at h
    cases e2 : g d1 with
    | none => rw [e2] at h; cases h
    | some p2 =>
      obtain ⟨xs, d2⟩ := p2
      rw [e2] at h
      cases h
      exact s c σ H d own R x1 d1 e _ fun v H1 own1 S r => t c σ H1 d1 own1 (R.leave S) xs _ e2 _ fun vs H2 own2 T rs => q _ H2 own2 (S.leave T) (.cons (T.carry r) rs)
def rNilB : ABR := fun d => some ([], d)
theorem simNilB : SimAB κ tNil rNilB := fun c σ H d own R x d' h Q q => by
  cases h
  exact q [] H own R.enter .nil
def rConsB (f : BR) (g : ABR) : ABR := fun d => match f d with
  | some (x, d1) => match g d1 with
    | some (xs, d2) => some (x :: xs, d2)
    | none => none
  | none => none
theorem simConsB {ta : TE} {tr : TA} {f : BR} {g : ABR} (s : SimB κ ta f) (t : SimAB κ tr g) : SimAB κ (tCons ta tr) (rConsB f g) := fun c σ H d own R x d' h Q q => by
  unfold rConsB at h
  cases e : f d with
  | none => rw [e] at h; cases h
  | some p =>
    obtain ⟨x1, d1⟩ := p
    rw [e] at h
    dsimp only at h
    cases e2 : g d1 with
    | none => rw [e2] at h; cases h
    | some p2 =>
      obtain ⟨xs, d2⟩ := p2
      rw [e2] at h
      cases h
      exact s c σ H d own R x1 d1 e _ fun v H1 own1 S r => t c σ H1 d1 own1 (R.leave S) xs _ e2 _ fun vs H2 own2 T rs => q _ H2 own2 (S.leave T) (.cons (BVok.carry (R.leave S) T r) rs)
def getAll (d : List Slot) : List BV → Option (List D)
  | [] => some []
  | b :: bs => match b.get d, getAll d bs with
    | some x, some xs => some (x :: xs)
    | _, _ => none
inductive Vws (A : Addr → Prop) (H : Hp) : List V → List D → Prop
  | nil : Vws A H [] []
  | cons {v vs x xs} : Vw A H v x → Vws A H vs xs → Vws A H (v :: vs) (x :: xs)
theorem BVoks.vws {c : Cc κ} {σ : L2.St} {H : Hp} {d : List Slot} {own : Own1} (R : RepS c σ H d own) : ∀ {bs : List BV} {vs : List V} {xs : List D}, BVoks c σ H own bs vs → getAll d bs = some xs → Vws (Av c own) H vs xs
  | _, _, _, .nil, e => by
    cases e
    exact .nil
  | b :: bs, _, xs, .cons r t, e => by
    unfold getAll at e
    split at e
    · cases e
      exact .cons (r.vw R (by assumption)) (t.vws R (by assumption))
    · cases e

/-! ### operations -/
/-- what an operation on values gives: a datum over a longer heap -/
def Gives (A : Addr → Prop) (H : Hp) (z : D) (t : VK → Prop) : Prop := ∀ Q : VK, (∀ v H', Ex H H' → Rep A H' v z → Q v H') → t Q
/-- .. a new list -/
def GivesN (A : Addr → Prop) (H : Hp) (zs : List D) (t : VK → Prop) : Prop := ∀ Q : VK, (∀ p vs, H p = none → Reps A H vs zs → Q (.ref p) (upd H p (.lst vs))) → t Q
def Op2 (r : R2) (f : D → D → Option D) : Prop := ∀ (A : Addr → Prop) (H : Hp) (v w : V) (x y z : D), (∀ a, A a → ∃ o, H a = some o) → Vw A H v x → Vw A H w y → f x y = some z → Gives A H z (r v w H)
def Op2N (r : R2) (f : D → D → Option (List D)) : Prop := ∀ (A : Addr → Prop) (H : Hp) (v w : V) (x y : D) (z : List D), (∀ a, A a → ∃ o, H a = some o) → Vw A H v x → Vw A H w y → f x y = some z → GivesN A H z (r v w H)
def Op1 (r : V → Hp → VK → Prop) (f : D → Option D) : Prop := ∀ (A : Addr → Prop) (H : Hp) (v : V) (x z : D), (∀ a, A a → ∃ o, H a = some o) → Vw A H v x → f x = some z → Gives A H z (r v H)
def OpA (r : List V → Hp → VK → Prop) (f : List D → Option D) : Prop := ∀ (A : Addr → Prop) (H : Hp) (vs : List V) (xs : List D) (z : D), (∀ a, A a → ∃ o, H a = some o) → Vws A H vs xs → f xs = some z → Gives A H z (r vs H)
def OpAN (r : List V → Hp → VK → Prop) (f : List D → Option (List D)) : Prop := ∀ (A : Addr → Prop) (H : Hp) (vs : List V) (xs : List D) (z : List D), (∀ a, A a → ∃ o, H a = some o) → Vws A H vs xs → f xs = some z → GivesN A H z (r vs H)

section
variable {c : Cc κ} {σ : L2.St} {H H1 : Hp} {d d1 : List Slot} {own own1 : Own1}
/-- the end of an operation -/
theorem end_op (R : RepS c σ H d own) (S : RepS (c.at own H) σ H1 d1 own1) {z : D} {t : VK → Prop} (g : Gives (Av c own1) H1 z t) {Q : VK} (q : ∀ v H' own', RepS (c.at own H) σ H' d1 own' → Rep (Av c own') H' v z → Q v H') : t Q :=
  g Q fun v H' e r => q v H' own1 (S.ext e) r
theorem end_opN (R : RepS c σ H d own) (S : RepS (c.at own H) σ H1 d1 own1) {zs : List D} {t : VK → Prop} (g : GivesN (Av c own1) H1 zs t) {Q : VK}
    (q : ∀ p H' own', RepS (κ := κ) ⟨fun a => c.O a ∨ a = p, hide own H, none, c.pin⟩ σ H' d1 own' → (¬ c.O p ∧ hide own H p = none) → Own (Av (κ := κ) ⟨fun a => c.O a ∨ a = p, hide own H, none, c.pin⟩ own') H' p (.list zs) → Q (.ref p) H') : t Q := by
  refine g Q fun p vs hp r => q p _ own1 ?_ ?_ ⟨vs, upd_same, ?_⟩
  · refine S.more (Ex.new hp) (fun a z => .inl z) (fun a z => z.elim .inl fun e => .inr (by rw [e]; exact hp)) fun a z => ?_
    rcases z with z | z
    · obtain ⟨o, e⟩ := S.dom a z
      exact ⟨o, Ex.new hp a o e⟩
    · exact ⟨_, by rw [z]; exact upd_same⟩
  · have hO : ¬ c.O p := fun z => by
      obtain ⟨o', e'⟩ := S.dom p z
      rw [hp] at e'; cases e'
    refine ⟨hO, ?_⟩
    cases e : hide own H p with
    | none => rfl
    | some o =>
      obtain ⟨e1, e2⟩ := of_hide e
      have n : ¬ Av c own p := fun z => z.elim hO e2
      rw [(S.tr p o n e1).2] at hp
      cases hp
  · refine r.tr fun a o n h => ⟨?_, Ex.new hp a o h⟩
    rintro ((z | z) | z)
    · exact n (.inl z)
    · rw [z, hp] at h; cases h
    · exact n (.inr z)
end
end DK
end
section
set_option maxRecDepth 100000
namespace DK
open PySem L2
variable {κ : XI}

def bd {α β : Type} (o : Option (α × List Slot)) (k : α → List Slot → Option β) : Option β := match o with
  | some (x, d) => k x d
  | none => none
theorem bd_some {α β : Type} {x : α} {d : List Slot} {k : α → List Slot → Option β} : bd (some (x, d)) k = k x d := rfl
theorem of_bd {α β : Type} {o : Option (α × List Slot)} {k : α → List Slot → Option β} {z : β} (h : bd o k = some z) : ∃ x d, o = some (x, d) ∧ k x d = some z := by
  cases o with
  | none => cases h
  | some p => exact ⟨p.1, p.2, rfl, h⟩
def ob {α β : Type} (o : Option α) (k : α → Option β) : Option β := match o with
  | some x => k x
  | none => none
theorem ob_some {α β : Type} {x : α} {k : α → Option β} : ob (some x) k = k x := rfl
theorem of_ob {α β : Type} {o : Option α} {k : α → Option β} {z : β} (h : ob o k = some z) : ∃ x, o = some x ∧ k x = some z := by
  cases o with
  | none => cases h
  | some p => exact ⟨p, rfl, h⟩

/-! ### operations of two, of one, of a row -/
def rOp2 (f : D → D → Option D) (a b : BR) : ER := fun d => bd (a d) fun x d1 => bd (b d1) fun y d2 => ob (x.get d2) fun u => ob (y.get d2) fun w => ob (f u w) fun z => some (z, d2)
theorem simOp2 {r : R2} {f : D → D → Option D} {ta tb : TE} {a b : BR} (o : Op2 r f) (sa : SimB κ ta a) (sb : SimB κ tb b) : SimE κ (tOp r ta tb) (rOp2 f a b) := fun c σ H d own R x d' h Q q => by
  obtain ⟨x1, d1, e1, h⟩ := of_bd h
  obtain ⟨x2, d2, e2, h⟩ := of_bd h
  obtain ⟨u, e3, h⟩ := of_ob h
  obtain ⟨w, e4, h⟩ := of_ob h
  obtain ⟨z, e5, h⟩ := of_ob h
  cases h
  exact sa c σ H d own R x1 d1 e1 _ fun v1 H1 own1 S1 b1 => sb c σ H1 d1 own1 (R.leave S1) x2 _ e2 _ fun v2 H2 own2 S2 b2 =>
    end_op R (S1.leave S2) (o (Av c own2) H2 v1 v2 u w _ ((R.leave (S1.leave S2)).domA) ((b1.carry (R.leave S1) S2).vw (R.leave (S1.leave S2)) e3) (b2.vw (R.leave (S1.leave S2)) e4) e5) q
def rOp2N (f : D → D → Option (List D)) (a b : BR) : ER := fun d => bd (a d) fun x d1 => bd (b d1) fun y d2 => ob (x.get d2) fun u => ob (y.get d2) fun w => ob (f u w) fun z => some (.list z, d2)
theorem simOp2N {r : R2} {f : D → D → Option (List D)} {ta tb : TE} {a b : BR} (o : Op2N r f) (sa : SimB κ ta a) (sb : SimB κ tb b) : SimN κ (tOp r ta tb) (rOp2N f a b) := fun c σ H d own R x d' h Q q => by
  obtain ⟨x1, d1, e1, h⟩ := of_bd h
  obtain ⟨x2, d2, e2, h⟩ := of_bd h
  obtain ⟨u, e3, h⟩ := of_ob h
  obtain ⟨w, e4, h⟩ := of_ob h
  obtain ⟨z, e5, h⟩ := of_ob h
  cases h
  exact sa c σ H d own R x1 d1 e1 _ fun v1 H1 own1 S1 b1 => sb c σ H1 d1 own1 (R.leave S1) x2 _ e2 _ fun v2 H2 own2 S2 b2 =>
    end_opN R (S1.leave S2) (o (Av c own2) H2 v1 v2 u w _ ((R.leave (S1.leave S2)).domA) ((b1.carry (R.leave S1) S2).vw (R.leave (S1.leave S2)) e3) (b2.vw (R.leave (S1.leave S2)) e4) e5) q
def rOp1 (f : D → Option D) (a : BR) : ER := fun d => bd (a d) fun x d1 => ob (x.get d1) fun u => ob (f u) fun z => some (z, d1)
theorem simOp1 {r : V → Hp → VK → Prop} {f : D → Option D} {ta : TE} {a : BR} (o : Op1 r f) (sa : SimB κ ta a) : SimE κ (tUn r ta) (rOp1 f a) := fun c σ H d own R x d' h Q q => by
  obtain ⟨x1, d1, e1, h⟩ := of_bd h
  obtain ⟨u, e3, h⟩ := of_ob h
  obtain ⟨z, e5, h⟩ := of_ob h
  cases h
  exact sa c σ H d own R x1 _ e1 _ fun v1 H1 own1 S1 b1 => end_op R S1 (o (Av c own1) H1 v1 u _ ((R.leave S1).domA) (b1.vw (R.leave S1) e3) e5) q
def rOpA (f : List D → Option D) (a : ABR) : ER := fun d => bd (a d) fun x d1 => ob (getAll d1 x) fun u => ob (f u) fun z => some (z, d1)
theorem simCB {r : List V → Hp → VK → Prop} {f : List D → Option D} {ta : TA} {a : ABR} (o : OpA r f) (sa : SimAB κ ta a) : SimE κ (tCB r ta) (rOpA f a) := fun c σ H d own R x d' h Q q => by
  obtain ⟨x1, d1, e1, h⟩ := of_bd h
  obtain ⟨u, e3, h⟩ := of_ob h
  obtain ⟨z, e5, h⟩ := of_ob h
  cases h
  exact sa c σ H d own R x1 _ e1 _ fun v1 H1 own1 S1 b1 => end_op R S1 (o (Av c own1) H1 v1 u _ ((R.leave S1).domA) (b1.vws (R.leave S1) e3) e5) q
def rOpAN (f : List D → Option (List D)) (a : ABR) : ER := fun d => bd (a d) fun x d1 => ob (getAll d1 x) fun u => ob (f u) fun z => some (.list z, d1)
theorem simCBN {r : List V → Hp → VK → Prop} {f : List D → Option (List D)} {ta : TA} {a : ABR} (o : OpAN r f) (sa : SimAB κ ta a) : SimN κ (tCB r ta) (rOpAN f a) := fun c σ H d own R x d' h Q q => by
  obtain ⟨x1, d1, e1, h⟩ := of_bd h
  obtain ⟨u, e3, h⟩ := of_ob h
  obtain ⟨z, e5, h⟩ := of_ob h
  cases h
  exact sa c σ H d own R x1 _ e1 _ fun v1 H1 own1 S1 b1 => end_opN R S1 (o (Av c own1) H1 v1 u _ ((R.leave S1).domA) (b1.vws (R.leave S1) e3) e5) q
/-- a method that reads: o.m(args) -/
def OpM (K : PySem.W.Frag) (T : String) (r : V → List V → Hp → VK → Prop) (f : D → List D → Option D) : Prop :=
  ∀ (A : Addr → Prop) (H : Hp) (v : V) (vs : List V) (x : D) (xs : List D) (z : D), (∀ a, A a → ∃ o, H a = some o) → Vw A H v x → Vws A H vs xs → f x xs = some z → Gives A H z (r v vs H)
def OkT (T : String) : D → Bool
  | .str _ => T == "str"
  | .list _ => T == "list"
  | .dict _ => T == "dict"
  | _ => false
theorem tyV_of {K : PySem.W.Frag} {T : String} {A : Addr → Prop} {H : Hp} {v : V} {x : D} (w : Vw A H v x) (h : OkT T x = true) : tyV K T v H := by
  cases x with
  | str z =>
    rw [w.str]
    exact (eq_of_beq h : T = "str")
  | list xs =>
    obtain ⟨a, vs, rfl, e, _⟩ := w.lst
    exact .inl ⟨eq_of_beq h, vs, .inl (.inl e)⟩
  | dict xs =>
    obtain ⟨a, vs, rfl, e, _⟩ := w.dct
    exact .inr (.inr (.inl ⟨eq_of_beq h, .inl ⟨vs, e⟩⟩))
  | _ => cases h
def rOpM (T : String) (f : D → List D → Option D) (a : BR) (b : ABR) : ER := fun d => bd (a d) fun x d1 => ob (x.get d1) fun u0 => if OkT T u0 = true then bd (b d1) fun ys d2 => ob (x.get d2) fun u => ob (getAll d2 ys) fun us => ob (f u us) fun z => some (z, d2) else none
theorem simBM {K : PySem.W.Frag} {T : String} {r : V → List V → Hp → VK → Prop} {f : D → List D → Option D} {to : TE} {ta : TA} {a : BR} {b : ABR} (o : OpM K T r f) (sa : SimB κ to a) (sb : SimAB κ ta b) : SimE κ (tBM K T r to ta) (rOpM T f a b) := fun c σ H d own R x d' h Q q => by
  obtain ⟨x1, d1, e1, h⟩ := of_bd h
  obtain ⟨u0, e2, h⟩ := of_ob h
  by_cases ok : OkT T u0 = true
  · rw [if_pos ok] at h
    obtain ⟨ys, d2, e3, h⟩ := of_bd h
    obtain ⟨u, e4, h⟩ := of_ob h
    obtain ⟨us, e5, h⟩ := of_ob h
    obtain ⟨z, e6, h⟩ := of_ob h
    cases h
    exact sa c σ H d own R x1 _ e1 _ fun v1 H1 own1 S1 b1 => ⟨tyV_of (b1.vw (R.leave S1) e2) ok, sb c σ H1 d1 own1 (R.leave S1) ys _ e3 _ fun vs H2 own2 S2 b2 =>
      end_op R (S1.leave S2) (o (Av c own2) H2 v1 vs u us _ ((R.leave (S1.leave S2)).domA) ((b1.carry (R.leave S1) S2).vw (R.leave (S1.leave S2)) e4) (b2.vws (R.leave (S1.leave S2)) e5) e6) q⟩
  · rw [if_neg ok] at h
    cases h
theorem simBM0 {K : PySem.W.Frag} {T : String} {r : V → List V → Hp → VK → Prop} {f : D → List D → Option D} {to : TE} {a : BR} (o : OpM K T r f) (sa : SimB κ to a) : SimE κ (tBM0 K T r to) (rOpM T f a rNilB) := fun c σ H d own R x d' h Q q => by
  obtain ⟨x1, d1, e1, h⟩ := of_bd h
  obtain ⟨u0, e2, h⟩ := of_ob h
  by_cases ok : OkT T u0 = true
  · rw [if_pos ok] at h
    obtain ⟨ys, d2, e3, h⟩ := of_bd h
    cases e3
    obtain ⟨u, e4, h⟩ := of_ob h
    obtain ⟨us, e5, h⟩ := of_ob h
    cases e5
    obtain ⟨z, e6, h⟩ := of_ob h
    cases h
    exact sa c σ H d own R x1 _ e1 _ fun v1 H1 own1 S1 b1 => ⟨tyV_of (b1.vw (R.leave S1) e2) ok, end_op R S1 (o (Av c own1) H1 v1 [] u [] _ ((R.leave S1).domA) (b1.vw (R.leave S1) e4) .nil e6) q⟩
  · rw [if_neg ok] at h
    cases h
/-- a text's method of one argument (tM1), of none (tM0) -/
def rOpM1 (f : D → List D → Option D) (a b : BR) : ER := fun d => bd (a d) fun x d1 => ob (x.get d1) fun u0 => match u0 with
  | .str _ => bd (b d1) fun y d2 => ob (x.get d2) fun u => ob (y.get d2) fun w => ob (f u [w]) fun z => some (z, d2)
  | _ => none
theorem simM1 {r : V → List V → Hp → VK → Prop} {f : D → List D → Option D} {K : PySem.W.Frag} {T : String} {to te : TE} {a b : BR} (o : OpM K T r f) (sa : SimB κ to a) (sb : SimB κ te b) : SimE κ (tM1 r to te) (rOpM1 f a b) := fun c σ H d own R x d' h Q q => by
  obtain ⟨x1, d1, e1, h⟩ := of_bd h
  obtain ⟨u0, e2, h⟩ := of_ob h
  cases u0 with
  | str zz =>
    obtain ⟨y, d2, e3, h⟩ := of_bd h
    obtain ⟨u, e4, h⟩ := of_ob h
    obtain ⟨w, e5, h⟩ := of_ob h
    obtain ⟨z, e6, h⟩ := of_ob h
    cases h
    exact sa c σ H d own R x1 _ e1 _ fun v1 H1 own1 S1 b1 => ⟨⟨zz, (b1.vw (R.leave S1) e2).str⟩, sb c σ H1 d1 own1 (R.leave S1) y _ e3 _ fun v2 H2 own2 S2 b2 =>
      end_op R (S1.leave S2) (o (Av c own2) H2 v1 [v2] u [w] _ ((R.leave (S1.leave S2)).domA) ((b1.carry (R.leave S1) S2).vw (R.leave (S1.leave S2)) e4) (.cons (b2.vw (R.leave (S1.leave S2)) e5) .nil) e6) q⟩
  | _ => cases h

/-! ### displays -/
def rLst (a : AR) : ER := fun d => bd (a d) fun xs d1 => if xs.length ≤ sizeLine then some (.list xs, d1) else none
theorem simLst {ta : TA} {a : AR} (sa : SimA κ ta a) : SimN κ (tLst ta) (rLst a) := fun c σ H d own R x d' h Q q => by
  obtain ⟨xs, d1, e1, h⟩ := of_bd h
  by_cases l : xs.length ≤ sizeLine
  · rw [if_pos l] at h
    cases h
    exact sa c σ H d own R xs _ e1 _ fun vs H1 own1 S1 r => ⟨by rw [r.len]; exact l, end_opN R S1 (t := fun Q => ∀ p, H1 p = none → Q (.ref p) (upd H1 p (.lst vs))) (fun Q q p hp => q p vs hp r) q⟩
  · rw [if_neg l] at h
    cases h
def rTup (a : AR) : ER := fun d => bd (a d) fun xs d1 => if xs.length ≤ sizeLine then some (.tuple xs, d1) else none
theorem simTup {ta : TA} {a : AR} (sa : SimA κ ta a) : SimE κ (tTup ta) (rTup a) := fun c σ H d own R x d' h Q q => by
  obtain ⟨xs, d1, e1, h⟩ := of_bd h
  by_cases l : xs.length ≤ sizeLine
  · rw [if_pos l] at h
    cases h
    refine sa c σ H d own R xs _ e1 _ fun vs H1 own1 S1 r => ⟨by rw [r.len]; exact l, fun p hp => q _ _ own1 (S1.ext (Ex.new hp)) (.tup ?_ upd_same (r.ex (Ex.new hp)))⟩
    intro z
    obtain ⟨o, e⟩ := (R.leave S1).domA p z
    rw [hp] at e; cases e
  · rw [if_neg l] at h
    cases h

/-! ### slices -/
def OpS (r : V → Option Int → Option Int → Hp → VK → Prop) (f : D → Option Int → Option Int → Option D) : Prop :=
  ∀ (A : Addr → Prop) (H : Hp) (v : V) (x : D) (lo hi : Option Int) (z : D), (∀ a, A a → ∃ o, H a = some o) → Vw A H v x → f x lo hi = some z → Gives A H z (r v lo hi H)
def OpSN (r : V → Option Int → Option Int → Hp → VK → Prop) (f : D → Option Int → Option Int → Option (List D)) : Prop :=
  ∀ (A : Addr → Prop) (H : Hp) (v : V) (x : D) (lo hi : Option Int) (z : List D), (∀ a, A a → ∃ o, H a = some o) → Vw A H v x → f x lo hi = some z → GivesN A H z (r v lo hi H)
abbrev PR := List Slot → Option (Option Int × List Slot)
def SimP (κ : XI) (to : TO) (f : PR) : Prop := ∀ (c : Cc κ) (σ : L2.St) (H : Hp) (d : List Slot) (own : Own1), RepS c σ H d own → ∀ b d', f d = some (b, d') →
  ∀ Q : Option Int → Hp → Prop, (∀ H' own', RepS (c.at own H) σ H' d' own' → Q b H') → to σ H Q
def rNoPart : PR := fun d => some (none, d)
theorem simNoPart : SimP κ tNoPart rNoPart := fun c σ H d own R x d' h Q q => by
  cases h
  exact q H own R.enter
def rPart (a : BR) : PR := fun d => bd (a d) fun x d1 => ob (x.get d1) fun u => match u with
  | .int i => some (some i, d1)
  | _ => none
theorem simPart {te : TE} {a : BR} (sa : SimB κ te a) : SimP κ (tPart te) (rPart a) := fun c σ H d own R x d' h Q q => by
  obtain ⟨x1, d1, e1, h⟩ := of_bd h
  obtain ⟨u, e2, h⟩ := of_ob h
  cases u with
  | int i =>
    cases h
    exact sa c σ H d own R x1 _ e1 _ fun v1 H1 own1 S1 b1 => ⟨i, (b1.vw (R.leave S1) e2).int, q H1 own1 S1⟩
  | _ => cases h
def rSl (f : D → Option Int → Option Int → Option D) (a : BR) (lo hi : PR) : ER := fun d => bd (a d) fun x d1 => bd (lo d1) fun l d2 => bd (hi d2) fun u d3 => ob (x.get d3) fun w => ob (f w l u) fun z => some (z, d3)
theorem simSl {r : V → Option Int → Option Int → Hp → VK → Prop} {f : D → Option Int → Option Int → Option D} {te : TE} {tl th : TO} {a : BR} {lo hi : PR} (o : OpS r f) (sa : SimB κ te a) (sl : SimP κ tl lo) (sh : SimP κ th hi) : SimE κ (tSl r te tl th) (rSl f a lo hi) := fun c σ H d own R x d' h Q q => by
  obtain ⟨x1, d1, e1, h⟩ := of_bd h
  obtain ⟨l, d2, e2, h⟩ := of_bd h
  obtain ⟨u, d3, e3, h⟩ := of_bd h
  obtain ⟨w, e4, h⟩ := of_ob h
  obtain ⟨z, e5, h⟩ := of_ob h
  cases h
  exact sa c σ H d own R x1 _ e1 _ fun v1 H1 own1 S1 b1 => sl c σ H1 d1 own1 (R.leave S1) l _ e2 _ fun H2 own2 S2 => sh c σ H2 d2 own2 (R.leave (S1.leave S2)) u _ e3 _ fun H3 own3 S3 =>
    end_op R ((S1.leave S2).leave S3) (o (Av c own3) H3 v1 w l u _ ((R.leave ((S1.leave S2).leave S3)).domA) (((b1.carry (R.leave S1) S2).carry (R.leave (S1.leave S2)) S3).vw (R.leave ((S1.leave S2).leave S3)) e4) e5) q
def rSlN (f : D → Option Int → Option Int → Option (List D)) (a : BR) (lo hi : PR) : ER := fun d => bd (a d) fun x d1 => bd (lo d1) fun l d2 => bd (hi d2) fun u d3 => ob (x.get d3) fun w => ob (f w l u) fun z => some (.list z, d3)
theorem simSlN {r : V → Option Int → Option Int → Hp → VK → Prop} {f : D → Option Int → Option Int → Option (List D)} {te : TE} {tl th : TO} {a : BR} {lo hi : PR} (o : OpSN r f) (sa : SimB κ te a) (sl : SimP κ tl lo) (sh : SimP κ th hi) : SimN κ (tSl r te tl th) (rSlN f a lo hi) := fun c σ H d own R x d' h Q q => by
  obtain ⟨x1, d1, e1, h⟩ := of_bd h
  obtain ⟨l, d2, e2, h⟩ := of_bd h
  obtain ⟨u, d3, e3, h⟩ := of_bd h
  obtain ⟨w, e4, h⟩ := of_ob h
  obtain ⟨z, e5, h⟩ := of_ob h
  cases h
  exact sa c σ H d own R x1 _ e1 _ fun v1 H1 own1 S1 b1 => sl c σ H1 d1 own1 (R.leave S1) l _ e2 _ fun H2 own2 S2 => sh c σ H2 d2 own2 (R.leave (S1.leave S2)) u _ e3 _ fun H3 own3 S3 =>
    end_opN R ((S1.leave S2).leave S3) (o (Av c own3) H3 v1 w l u _ ((R.leave ((S1.leave S2).leave S3)).domA) (((b1.carry (R.leave S1) S2).carry (R.leave (S1.leave S2)) S3).vw (R.leave ((S1.leave S2).leave S3)) e4) e5) q

/-! ### tests, choices -/
def rT (a : BR) : TR := fun d => bd (a d) fun x d1 => ob (x.get d1) fun u => match u with
  | .bool b => some (b, d1)
  | _ => none
theorem simT {te : TE} {a : BR} (sa : SimB κ te a) : SimT κ (tTest te) (rT a) := fun c σ H d own R x d' h Q q => by
  obtain ⟨x1, d1, e1, h⟩ := of_bd h
  obtain ⟨u, e2, h⟩ := of_ob h
  cases u with
  | bool i =>
    cases h
    exact sa c σ H d own R x1 _ e1 _ fun v1 H1 own1 S1 b1 => ⟨_, (b1.vw (R.leave S1) e2).bl, q H1 own1 S1⟩
  | _ => cases h
theorem simTB {te : TE} {a : BR} (sa : SimB κ te a) : SimT κ (tB te) (rT a) := simT sa
def rAndT (a b : TR) : TR := fun d => bd (a d) fun x d1 => if x = true then b d1 else some (false, d1)
theorem simAndT {ta tb : TT} {a b : TR} (sa : SimT κ ta a) (sb : SimT κ tb b) : SimT κ (tAnd ta tb) (rAndT a b) := fun c σ H d own R x d' h Q q => by
  obtain ⟨x1, d1, e1, h⟩ := of_bd h
  refine sa c σ H d own R x1 _ e1 _ fun H1 own1 S1 => ?_
  cases x1 with
  | true => exact sb c σ H1 d1 own1 (R.leave S1) x d' h Q fun H2 own2 S2 => q H2 own2 (S1.leave S2)
  | false =>
    cases h
    exact q H1 own1 S1
def rOrT (a b : TR) : TR := fun d => bd (a d) fun x d1 => if x = true then some (true, d1) else b d1
theorem simOrT {ta tb : TT} {a b : TR} (sa : SimT κ ta a) (sb : SimT κ tb b) : SimT κ (tOr ta tb) (rOrT a b) := fun c σ H d own R x d' h Q q => by
  obtain ⟨x1, d1, e1, h⟩ := of_bd h
  refine sa c σ H d own R x1 _ e1 _ fun H1 own1 S1 => ?_
  cases x1 with
  | true =>
    cases h
    exact q H1 own1 S1
  | false => exact sb c σ H1 d1 own1 (R.leave S1) x d' h Q fun H2 own2 S2 => q H2 own2 (S1.leave S2)
def rNotT (a : TR) : TR := fun d => bd (a d) fun x d1 => some (!x, d1)
theorem simNotT {ta : TT} {a : TR} (sa : SimT κ ta a) : SimT κ (tNot ta) (rNotT a) := fun c σ H d own R x d' h Q q => by
  obtain ⟨x1, d1, e1, h⟩ := of_bd h
  cases h
  exact sa c σ H d own R x1 _ e1 _ fun H1 own1 S1 => q H1 own1 S1
def rIf (t : TR) (a b : ER) : ER := fun d => bd (t d) fun x d1 => if x = true then a d1 else b d1
theorem simIf {t : TT} {ta tb : TE} {f : TR} {a b : ER} (st : SimT κ t f) (sa : SimE κ ta a) (sb : SimE κ tb b) : SimE κ (tIf t ta tb) (rIf f a b) := fun c σ H d own R x d' h Q q => by
  obtain ⟨x1, d1, e1, h⟩ := of_bd h
  refine st c σ H d own R x1 _ e1 _ fun H1 own1 S1 => ?_
  cases x1 with
  | true => exact sa c σ H1 d1 own1 (R.leave S1) x d' h Q fun v H2 own2 S2 r => q v H2 own2 (S1.leave S2) r
  | false => exact sb c σ H1 d1 own1 (R.leave S1) x d' h Q fun v H2 own2 S2 r => q v H2 own2 (S1.leave S2) r
def isB (u : D) (k : Bool → Option (D × List Slot)) : Option (D × List Slot) := match u with
  | .bool b => k b
  | _ => none
theorem of_isB {u : D} {k : Bool → Option (D × List Slot)} {z : D × List Slot} (h : isB u k = some z) : ∃ b, u = .bool b ∧ k b = some z := by
  cases u with
  | bool b => exact ⟨b, rfl, h⟩
  | _ => cases h
def rAndV (a b : ER) : ER := fun d => bd (a d) fun x d1 => isB x fun k => if k = true then b d1 else some (.bool false, d1)
theorem simAndV {ta tb : TE} {a b : ER} (sa : SimE κ ta a) (sb : SimE κ tb b) : SimE κ (tAndV ta tb) (rAndV a b) := fun c σ H d own R x d' h Q q => by
  obtain ⟨x1, d1, e1, h⟩ := of_bd h
  obtain ⟨k, rfl, h⟩ := of_isB h
  refine sa c σ H d own R _ _ e1 _ fun v H1 own1 S1 r => ⟨k, by cases r; rfl, ?_⟩
  cases k with
  | true => exact sb c σ H1 d1 own1 (R.leave S1) x d' h Q fun v H2 own2 S2 r => q v H2 own2 (S1.leave S2) r
  | false =>
    cases h
    exact q _ H1 own1 S1 (.bl _)
def rOrV (a b : ER) : ER := fun d => bd (a d) fun x d1 => isB x fun k => if k = true then some (.bool true, d1) else b d1
theorem simOrV {ta tb : TE} {a b : ER} (sa : SimE κ ta a) (sb : SimE κ tb b) : SimE κ (tOrV ta tb) (rOrV a b) := fun c σ H d own R x d' h Q q => by
  obtain ⟨x1, d1, e1, h⟩ := of_bd h
  obtain ⟨k, rfl, h⟩ := of_isB h
  refine sa c σ H d own R _ _ e1 _ fun v H1 own1 S1 r => ⟨k, by cases r; rfl, ?_⟩
  cases k with
  | true =>
    cases h
    exact q _ H1 own1 S1 (.bl _)
  | false => exact sb c σ H1 d1 own1 (R.leave S1) x d' h Q fun v H2 own2 S2 r => q v H2 own2 (S1.leave S2) r
def rNotV (a : ER) : ER := fun d => bd (a d) fun x d1 => isB x fun k => some (.bool (!k), d1)
theorem simNotV {ta : TE} {a : ER} (sa : SimE κ ta a) : SimE κ (tNotV ta) (rNotV a) := fun c σ H d own R x d' h Q q => by
  obtain ⟨x1, d1, e1, h⟩ := of_bd h
  obtain ⟨k, rfl, h⟩ := of_isB h
  cases h
  exact sa c σ H d own R _ _ e1 _ fun v H1 own1 S1 r => ⟨k, by cases r; rfl, q _ H1 own1 S1 (.bl _)⟩
/-- a < b < c -/
def rChain (f g : D → D → Option D) (a b cc : BR) : ER := fun d => bd (a d) fun x d1 => bd (b d1) fun y d2 => ob (x.get d2) fun u => ob (y.get d2) fun w => ob (f u w) fun z => isB z fun k =>
  if k = true then bd (cc d2) fun t d3 => ob (y.get d3) fun w' => ob (t.get d3) fun s => ob (g w' s) fun z => some (z, d3) else some (.bool false, d2)
theorem simChain {r r' : R2} {f g : D → D → Option D} {ta tb tc : TE} {a b cc : BR} (o : Op2 r f) (o' : Op2 r' g) (sa : SimB κ ta a) (sb : SimB κ tb b) (sc : SimB κ tc cc) : SimE κ (tChain r r' ta tb tc) (rChain f g a b cc) := fun c σ H d own R x d' h Q q => by
  obtain ⟨x1, d1, e1, h⟩ := of_bd h
  obtain ⟨x2, d2, e2, h⟩ := of_bd h
  obtain ⟨u, e3, h⟩ := of_ob h
  obtain ⟨w, e4, h⟩ := of_ob h
  obtain ⟨z, e5, h⟩ := of_ob h
  obtain ⟨k, rfl, h⟩ := of_isB h
  refine sa c σ H d own R x1 d1 e1 _ fun v1 H1 own1 S1 b1 => sb c σ H1 d1 own1 (R.leave S1) x2 _ e2 _ fun v2 H2 own2 S2 b2 =>
    o (Av c own2) H2 v1 v2 u w _ ((R.leave (S1.leave S2)).domA) ((b1.carry (R.leave S1) S2).vw (R.leave (S1.leave S2)) e3) (b2.vw (R.leave (S1.leave S2)) e4) e5 _ fun z H3 ex r => ⟨k, by cases r; rfl, ?_⟩
  have S3 : RepS (c.at own H) σ H3 d2 own2 := (S1.leave S2).ext ex
  have R3 := R.leave S3
  cases k with
  | true =>
    obtain ⟨t, d3, e6, h⟩ := of_bd h
    obtain ⟨w', e7, h⟩ := of_ob h
    obtain ⟨s, e8, h⟩ := of_ob h
    obtain ⟨z', e9, h⟩ := of_ob h
    cases h
    have b2' : BVok c σ H3 own2 x2 v2 := by
      cases x2 with
      | v y => exact Rep.ex b2 ex
      | s i => exact b2
    exact sc c σ H3 d2 own2 R3 t _ e6 _ fun v3 H4 own4 S4 b4 => end_op R (S3.leave S4) (o' (Av c own4) H4 v2 v3 w' s _ ((R.leave (S3.leave S4)).domA) ((b2'.carry R3 S4).vw (R.leave (S3.leave S4)) e7) (b4.vw (R.leave (S3.leave S4)) e8) e9) q
  | false =>
    cases h
    exact q _ H3 own2 S3 (.bl _)
end DK
end
section
set_option maxRecDepth 100000
namespace DK
open PySem L2
variable {κ : XI}

inductive Out where
  | nx (d : List Slot)
  | rt (x : D) (d : List Slot)
  | bk (d : List Slot)
  | ct (d : List Slot)
abbrev SR := List Slot → Option Out
def Post (c : Cc κ) (De : Ends) : Out → Prop
  | .nx d' => ∀ σ' H' own', RepS c σ' H' d' own' → De.nx σ' H'
  | .rt x d' => ∀ v σ' H' own', RepS c σ' H' d' own' → Rep (Av c own') H' v x → De.rt v H'
  | .bk d' => ∀ σ' H' own', RepS c σ' H' d' own' → De.bk σ' H'
  | .ct d' => ∀ σ' H' own', RepS c σ' H' d' own' → De.ct σ' H'
def SimS (κ : XI) (ts : TS) (f : SR) : Prop := ∀ (c : Cc κ) (σ : L2.St) (H : Hp) (d : List Slot) (own : Own1), RepS c σ H d own → ∀ o, f d = some o → ∀ De : Ends, Post c De o → ts De σ H

/-! ### statements -/
def sNext : SR := fun d => some (.nx d)
theorem simNext : SimS κ tNext sNext := fun c σ H d own R o h De p => by
  cases h
  exact p σ H own R
def sSeq (a b : SR) : SR := fun d => match a d with
  | some (.nx d1) => b d1
  | o => o
theorem simSeq {t u : TS} {a b : SR} (sa : SimS κ t a) (sb : SimS κ u b) : SimS κ (tSeq t u) (sSeq a b) := fun c σ H d own R o h De p => by
  unfold sSeq at h
  cases e : a d with
  | none => rw [e] at h; cases h
  | some o1 =>
    rw [e] at h
    cases o1 with
    | nx d1 => exact sa c σ H d own R _ e _ fun σ' H' own' R' => sb c σ' H' d1 own' R' o h De p
    | rt x d1 => cases h; exact sa c σ H d own R _ e _ p
    | bk d1 => cases h; exact sa c σ H d own R _ e _ p
    | ct d1 => cases h; exact sa c σ H d own R _ e _ p
def sRet (a : ER) : SR := fun d => bd (a d) fun x d1 => some (.rt x d1)
theorem simRet {te : TE} {a : ER} (sa : SimE κ te a) : SimS κ (tRet te) (sRet a) := fun c σ H d own R o h De p => by
  obtain ⟨x, d1, e, h⟩ := of_bd h
  cases h
  exact sa c σ H d own R x _ e _ fun v H' own' S r => p v σ H' own' (R.leave S) r
def sBk : SR := fun d => some (.bk d)
theorem simBk : SimS κ tBreak sBk := fun c σ H d own R o h De p => by
  cases h
  exact p σ H own R
def sCt : SR := fun d => some (.ct d)
theorem simCt : SimS κ tCont sCt := fun c σ H d own R o h De p => by
  cases h
  exact p σ H own R
def sDrop (a : ER) : SR := fun d => bd (a d) fun _ d1 => some (.nx d1)
theorem simDrop {te : TE} {a : ER} (sa : SimE κ te a) : SimS κ (tDrop te) (sDrop a) := fun c σ H d own R o h De p => by
  obtain ⟨x, d1, e, h⟩ := of_bd h
  cases h
  exact sa c σ H d own R x _ e _ fun v H' own' S r => p σ H' own' (R.leave S)
def sIf (t : TR) (a b : SR) : SR := fun d => bd (t d) fun k d1 => if k = true then a d1 else b d1
theorem simIfS {tt : TT} {t u : TS} {f : TR} {a b : SR} (st : SimT κ tt f) (sa : SimS κ t a) (sb : SimS κ u b) : SimS κ (tIfS tt t u) (sIf f a b) := fun c σ H d own R o h De p => by
  obtain ⟨k, d1, e, h⟩ := of_bd h
  refine st c σ H d own R k _ e _ fun H1 own1 S => ?_
  cases k with
  | true => exact sa c σ H1 d1 own1 (R.leave S) o h De p
  | false => exact sb c σ H1 d1 own1 (R.leave S) o h De p

/-! ### targets -/
abbrev GR := D → List Slot → Option (List Slot)
/-- what a store leaves: the other slots -/
structure Kept (tg : List Nat) (σ σ' : L2.St) : Prop where
  len : σ'.length = σ.length
  at_ : ∀ j, j ∉ tg → σ'[j]? = σ[j]?
def SimG (κ : XI) (g : TG) (f : GR) (tg : List Nat) : Prop := ∀ (c : Cc κ) (σ : L2.St) (H : Hp) (d : List Slot) (own : Own1) (v : V) (x : D), RepS c σ H d own → Rep (Av c own) H v x → ∀ d', f x d = some d' →
  ∀ Q : L2.St → Hp → Prop, (∀ σ' own', RepS c σ' H d' own' → (∀ a, ¬ Av c own a → ¬ Av c own' a) → Kept tg σ σ' → Q σ' H) → g v σ H Q
def gN (i : Nat) : GR := fun x d => if notFd d[i]? = true then some (d.set i (.fz x)) else none
theorem simGN (i : Nat) : SimG κ (gName i) (gN i) [i] := fun c σ H d own v x R r d' h Q q => by
  unfold gN at h
  split at h
  · rename_i n0
    cases h
    exact q _ _ (R.store n0 r) (fun a n => Av_drop n) ⟨List.length_set, fun j hj => List.getElem?_set_ne (fun e => hj (by simp [e]))⟩
  · cases h
abbrev GsR := List D → List Slot → Option (List Slot)
def SimGs (κ : XI) (g : TGs) (f : GsR) (tg : List Nat) : Prop := ∀ (c : Cc κ) (σ : L2.St) (H : Hp) (d : List Slot) (own : Own1) (vs : List V) (xs : List D), RepS c σ H d own → Reps (Av c own) H vs xs → ∀ d', f xs d = some d' →
  ∀ Q : L2.St → Hp → Prop, (∀ σ' own', RepS c σ' H d' own' → (∀ a, ¬ Av c own a → ¬ Av c own' a) → Kept tg σ σ' → Q σ' H) → g vs σ H Q
def gNilR : GsR := fun xs d => match xs with
  | [] => some d
  | _ => none
theorem simGNil : SimGs κ gNil gNilR [] := fun c σ H d own vs xs R r d' h Q q => by
  cases r with
  | nil =>
    cases h
    exact ⟨rfl, q σ own R (fun _ n => n) ⟨rfl, fun _ _ => rfl⟩⟩
  | cons _ _ => cases h
def gConsR (f : GR) (g : GsR) : GsR := fun xs d => match xs with
  | x :: r => ob (f x d) fun d1 => g r d1
  | _ => none
theorem simGCons {g : TG} {u : TGs} {f : GR} {k : GsR} {tg tgs : List Nat} (s : SimG κ g f tg) (t : SimGs κ u k tgs) : SimGs κ (gCons g u) (gConsR f k) (tg ++ tgs) := fun c σ H d own vs xs R r d' h Q q => by
  cases r with
  | nil => cases h
  | cons r rs =>
    obtain ⟨d1, e, h⟩ := of_ob h
    refine ⟨_, _, rfl, s c σ H d own _ _ R r d1 e _ fun σ1 own1 R1 n1 k1 => t c σ1 H d1 own1 _ _ R1 (rs.tr fun a o n z => ⟨n1 a n, z⟩) d' h Q fun σ2 own2 R2 n2 k2 => q σ2 own2 R2 (fun a n => n2 a (n1 a n)) ⟨k2.len.trans k1.len, fun j hj => ?_⟩⟩
    rw [List.mem_append] at hj
    exact (k2.at_ j fun z => hj (.inr z)).trans (k1.at_ j fun z => hj (.inl z))
def gT (n : Nat) (g : GsR) : GR := fun x d => match x with
  | .tuple xs => if xs.length = n then g xs d else none
  | _ => none
theorem simGT {K : PySem.W.Frag} {n : Nat} {u : TGs} {k : GsR} {tg : List Nat} (t : SimGs κ u k tg) : SimG κ (gTup K n u) (gT n k) tg := fun c σ H d own v x R r d' h Q q => by
  cases r with
  | tup na e rs =>
    unfold gT at h
    dsimp only at h
    split at h
    · rename_i hl
      exact ⟨_, _, rfl, .inl (.inl e), by rw [rs.len]; exact hl, t c σ H d own _ _ R rs d' h Q q⟩
    · cases h
  | _ => cases h
def sAsg (a : ER) (g : GR) : SR := fun d => bd (a d) fun x d1 => ob (g x d1) fun d2 => some (.nx d2)
theorem simAsg {te : TE} {g : TG} {a : ER} {f : GR} {tg : List Nat} (sa : SimE κ te a) (sg : SimG κ g f tg) : SimS κ (tAsg te g) (sAsg a f) := fun c σ H d own R o h De p => by
  obtain ⟨x, d1, e, h⟩ := of_bd h
  obtain ⟨d2, e2, h⟩ := of_ob h
  cases h
  exact sa c σ H d own R x _ e _ fun v H1 own1 S r => sg c σ H1 d1 own1 v x (R.leave S) r d2 e2 _ fun σ' own' R' _ _ => p σ' H1 own' R'
/-- a name takes a new list -/
def sAsgN (i : Nat) (a : ER) : SR := fun d => bd (a d) fun x d1 => if i < d1.length ∧ notFd d1[i]? = true then some (.nx (d1.set i (.ow x))) else none
theorem simAsgN {te : TE} {i : Nat} {a : ER} (sa : SimN κ te a) : SimS κ (tAsg te (gName i)) (sAsgN i a) := fun c σ H d own R o h De p => by
  obtain ⟨x, d1, e, h⟩ := of_bd h
  by_cases hl : i < d1.length ∧ notFd d1[i]? = true
  · rw [if_pos hl] at h
    cases h
    exact sa c σ H d own R x _ e _ fun q H1 own1 S hq ow => p _ H1 _ (R.leave (S.take (O := c.O) (H0 := hide own H) (fa := none) (pn := c.pin) hl.1 hl.2 hq.2 hq.1 ow))
  · rw [if_neg hl] at h
    cases h

/-! ### loops -/
theorem later {c c' : Cc κ} {σ2 : L2.St} {H H2 : Hp} {d2 : List Slot} {own own2 : Own1} (e0 : c'.H0 = hide own H) (ef : c'.fa = none) (hO : ∀ a, c'.O a → c.O a ∨ H a = none) (R2 : RepS c' σ2 H2 d2 own2) {b : Addr} {o : HO} (n : ¬ Av c own b) (z : H b = some o) :
    ¬ Av c' own2 b ∧ H2 b = some o := by
  have hid : hide own H b = some o := by rw [hide_not fun q => n (.inr q)]; exact z
  refine ⟨?_, R2.keep b o (by rw [e0]; exact hid) (by rw [ef]; intro q; cases q)⟩
  rintro (q | ⟨i, q⟩)
  · rcases hO b q with q | q
    · exact n (.inl q)
    · rw [z] at q; cases q
  · rcases R2.new i b q with q' | q'
    · rw [e0, hid] at q'; cases q'
    · rw [ef] at q'; cases q'
structure WalkOk (c : Cc κ) (σ0 : L2.St) (own : Own1) (H : Hp) (J : It) (xs : List D) : Prop where
  ex : ∃ (G : Hp → Prop) (Y : Nat → Hp → V → Hp → Prop), Walk J xs.length G Y ∧ (∀ (c' : Cc κ) σ2 H2 d2 own2, c'.H0 = hide own H → c'.fa = none → RepS c' σ2 H2 d2 own2 → G H2) ∧
    ∀ i x (c' : Cc κ) σ2 H2 d2 own2 v H3, c'.H0 = hide own H → c'.fa = none → (∀ a, c'.O a → c.O a ∨ H a = none) → RepS c' σ2 H2 d2 own2 → xs[i]? = some x → Y i H2 v H3 → Ex H2 H3 ∧ Rep (Av c' own2) H3 v x
abbrev IR := List Slot → Option (List D × List Slot)
def SimI (κ : XI) (wi : TI) (f : IR) : Prop := ∀ (c : Cc κ) (σ : L2.St) (H : Hp) (d : List Slot) (own : Own1), RepS c σ H d own → ∀ xs d', f d = some (xs, d') →
  ∀ Q : It → Hp → Prop, (∀ J H' own', RepS (c.at own H) σ H' d' own' → WalkOk c σ own' H' J xs → Q J H') → wi σ H Q

def forR (g : GR) (b : SR) : List D → SR
  | [], d => some (.nx d)
  | x :: xs, d => ob (g x d) fun d1 => match b d1 with
    | some (.nx d2) => forR g b xs d2
    | some (.ct d2) => forR g b xs d2
    | some (.bk d2) => some (.nx d2)
    | some (.rt y d2) => some (.rt y d2)
    | none => none
def sFor (f : IR) (g : GR) (b : SR) : SR := fun d => bd (f d) fun xs d1 => forR g b xs d1
theorem simFor {wi : TI} {g : TG} {tb : TS} {f : IR} {k : GR} {b : SR} {tg : List Nat} (si : SimI κ wi f) (sg : SimG κ g k tg) (sb : SimS κ tb b) : SimS κ (tFor wi g tb) (sFor f k b) := fun c σ H d own R o h De p => by
  obtain ⟨xs, d1, e, h⟩ := of_bd h
  refine si c σ H d own R xs _ e _ fun J H1 own1 S W => ?_
  obtain ⟨G, Y, w, hG, hY⟩ := W.ex
  have R1 := R.leave S
  refine for_it w (fun i σ' H' => ∃ d2 own2, RepS (c.at own1 H1) σ' H' d2 own2 ∧ forR k b (xs.drop i) d2 = some o) ⟨d1, own1, R1.enter, h⟩ (fun i σ' H' _ ⟨d2, own2, S2, _⟩ => hG (c.at own1 H1) σ' H' d2 own2 rfl rfl S2) ?_ ?_
  · rintro i v σ' H' H3 hi ⟨d2, own2, S2, h2⟩ y
    have hx : xs[i]? = some xs[i] := List.getElem?_eq_getElem hi
    rw [List.drop_eq_getElem_cons hi] at h2
    obtain ⟨d3, e3, h3⟩ := of_ob h2
    obtain ⟨ex, r⟩ := hY i _ (c.at own1 H1) σ' H' d2 own2 v H3 rfl rfl (fun a z => .inl z) S2 hx y
    refine sg _ σ' H3 d2 own2 v _ (S2.ext ex) r d3 e3 _ fun σ4 own4 S4 _ _ => ?_
    cases eb : b d3 with
    | none => rw [eb] at h3; cases h3
    | some ob =>
      rw [eb] at h3
      refine sb _ σ4 H3 d3 own4 S4 ob eb _ ?_
      cases ob with
      | nx d5 => exact fun σ5 H5 own5 S5 => ⟨d5, own5, S5, h3⟩
      | ct d5 => exact fun σ5 H5 own5 S5 => ⟨d5, own5, S5, h3⟩
      | bk d5 =>
        cases h3
        exact fun σ5 H5 own5 S5 => p σ5 H5 own5 (R1.leave S5)
      | rt z d5 =>
        cases h3
        exact fun v5 σ5 H5 own5 S5 r5 => p v5 σ5 H5 own5 (R1.leave S5) r5
  · rintro σ' H' ⟨d2, own2, S2, h2⟩
    rw [List.drop_length] at h2
    cases h2
    exact p σ' H' own2 (R1.leave S2)

def whR (t : TR) (b : SR) : Nat → SR
  | 0, _ => none
  | n + 1, d => bd (t d) fun k d1 => if k = true then (match b d1 with
      | some (.nx d2) => whR t b n d2
      | some (.ct d2) => whR t b n d2
      | some (.bk d2) => some (.nx d2)
      | some (.rt y d2) => some (.rt y d2)
      | none => none) else some (.nx d1)
def sWh (n : Nat) (t : TR) (b : SR) : SR := whR t b n
theorem simWh {tt : TT} {tb : TS} {n : Nat} {t : TR} {b : SR} (st : SimT κ tt t) (sb : SimS κ tb b) : SimS κ (tWhile tt tb) (sWh n t b) := fun c σ H d own R o h De p => by
  refine ⟨fun m σ' H' => ∃ d' own', RepS c σ' H' d' own' ∧ whR t b m d' = some o, ⟨n, d, own, R, h⟩, ?_⟩
  rintro m σ1 H1 ⟨d1, own1, R1, h1⟩
  cases m with
  | zero => cases h1
  | succ m =>
    obtain ⟨k, d2, e, h2⟩ := of_bd h1
    refine st c σ1 H1 d1 own1 R1 k _ e _ fun H2 own2 S => ?_
    have R2 := R1.leave S
    cases k with
    | false =>
      cases h2
      exact p σ1 H2 own2 R2
    | true =>
      refine ⟨fun σ' H' => ∃ d' own', RepS c σ' H' d' own' ∧ whR t b m d' = some o, fun σ' H' ⟨d', own', R', h'⟩ => ⟨m, Nat.lt_succ_self m, d', own', R', h'⟩, ?_⟩
      rw [if_pos rfl] at h2
      cases eb : b d2 with
      | none => rw [eb] at h2; cases h2
      | some ob =>
        rw [eb] at h2
        refine sb c σ1 H2 d2 own2 R2 ob eb _ ?_
        cases ob with
        | nx d5 => exact fun σ5 H5 own5 S5 => ⟨d5, own5, S5, h2⟩
        | ct d5 => exact fun σ5 H5 own5 S5 => ⟨d5, own5, S5, h2⟩
        | bk d5 =>
          cases h2
          exact fun σ5 H5 own5 S5 => p σ5 H5 own5 S5
        | rt z d5 =>
          cases h2
          exact fun v5 σ5 H5 own5 S5 r5 => p v5 σ5 H5 own5 S5 r5

/-! ### what is walked -/
section
variable {c : Cc κ} {σ : L2.St} {H : Hp} {d : List Slot} {own : Own1}
/-- a list that stays: it is a datum -/
theorem walkList {K : PySem.W.Frag} {a : Addr} {vs : List V} {xs : List D} (na : ¬ Av c own a) (h : H a = some (.lst vs)) (r : Reps (Av c own) H vs xs) : WalkOk c σ own H (Itl K a) xs := by
  have hid : hide own H a = some (.lst vs) := by rw [hide_not fun z => na (.inr z)]; exact h
  have hl := r.len
  refine ⟨⟨fun H => SqL K H a vs, YAt vs, by rw [← hl]; exact walk_list, fun c' σ2 H2 d2 own2 e0 ef R2 => .inl (.inl (R2.keep a _ (by rw [e0]; exact hid) (by rw [ef]; intro z; cases z))), ?_⟩⟩
  rintro i x c' σ2 H2 d2 own2 v H3 e0 ef hO R2 hx ⟨rfl, hv⟩
  refine ⟨Ex.refl _, ?_⟩
  obtain ⟨v', h1, r1⟩ := r.get hx
  rw [hv] at h1
  cases h1
  exact r1.tr fun b o n z => later e0 ef hO R2 n z
end
end DK
end
section
set_option maxRecDepth 100000
namespace DK
open PySem L2
variable {κ : XI}

/-! ### comprehensions -/
def wipeD (d : List Slot) : List Nat → List Slot
  | [] => d
  | v :: vs => (wipeD d vs).set v .un
def noOwn : Option Slot → Bool
  | some (.ow _) => false
  | some (.fd _) => false
  | _ => true
/-- the slots vs as in d0 -/
def backD (d0 : List Slot) : List Nat → List Slot → Option (List Slot)
  | [], d => some d
  | v :: vs, d => if noOwn d[v]? = true ∧ noOwn d0[v]? = true then ob d0[v]? fun s => backD d0 vs (d.set v s) else none
section
variable {c c' : Cc κ} {σ σ' : L2.St} {H H' : Hp} {d d' : List Slot} {own own' : Own1}
theorem noOwn_none (R : RepS c σ H d own) {v : Nat} (h : noOwn d[v]? = true) : own v = none := by
  cases e : own v with
  | none => rfl
  | some a =>
    have hv := R.out v a e
    have s := R.slot v _ (List.getElem?_eq_getElem hv)
    rw [List.getElem?_eq_getElem hv] at h
    cases q : d[v] with
    | un => rw [q] at s; rw [show own v = none from s] at e; cases e
    | fz x => rw [q] at s; rw [s.1] at e; cases e
    | ow x => rw [q] at h; cases h
    | fd fs => rw [q] at h; cases h
    | xc x => rw [q] at s; rw [s.1] at e; cases e
theorem RepS.forget (R : RepS c σ H d own) {v : Nat} (h : own v = none) : RepS c (σ.set v none) H (d.set v .un) own := by
  refine ⟨by rw [List.length_set, List.length_set, R.len], fun j s hj => ?_, R.inj, fun i a e => by rw [List.length_set]; exact R.out i a e, R.new, R.nO, R.keep, R.dom, fun a q => ⟨(R.pin a q).1, by rw [List.getElem?_set_ne (fun z => by rw [z, (R.pin a q).1] at h; cases h)]; exact (R.pin a q).2⟩⟩
  by_cases e : j = v
  · subst e
    by_cases hl : j < d.length
    · rw [List.getElem?_set_self hl] at hj
      cases hj
      exact h
    · rw [List.getElem?_eq_none_iff.mpr (by rw [List.length_set]; omega)] at hj
      cases hj
  · rw [List.getElem?_set_ne (Ne.symm e)] at hj
    rw [List.getElem?_set_ne (Ne.symm e)]
    exact R.slot j s hj
theorem RepS.wipe (R : RepS c σ H d own) : ∀ {vs : List Nat}, (∀ v ∈ vs, own v = none) → RepS c (L2.wipe σ vs) H (wipeD d vs) own
  | [], _ => R
  | v :: vs, h => (RepS.wipe R (vs := vs) fun u hu => h u (List.mem_cons_of_mem _ hu)).forget (h v List.mem_cons_self)
theorem wipe_get (σ : L2.St) : ∀ (vs : List Nat) (j : Nat), (L2.wipe σ vs)[j]? = if j ∈ vs ∧ j < σ.length then some none else σ[j]?
  | [], j => by simp [L2.wipe]
  | v :: vs, j => by
    unfold L2.wipe
    by_cases e : j = v
    · subst e
      by_cases hl : j < σ.length
      · rw [List.getElem?_set_self (by rw [wipe_length]; exact hl), if_pos ⟨List.mem_cons_self, hl⟩]
      · rw [if_neg (fun z => hl z.2), List.getElem?_eq_none_iff.mpr (by rw [List.length_set, wipe_length]; omega), List.getElem?_eq_none_iff.mpr (by omega)]
    · rw [List.getElem?_set_ne (Ne.symm e), wipe_get σ vs j]
      by_cases h : j ∈ vs ∧ j < σ.length
      · rw [if_pos h, if_pos ⟨List.mem_cons_of_mem _ h.1, h.2⟩]
      · rw [if_neg h, if_neg]
        rintro ⟨h1, h2⟩
        rcases List.mem_cons.mp h1 with z | z
        · exact e z
        · exact h ⟨z, h2⟩
theorem wipe_kept {tg vs : List Nat} (k : Kept tg (L2.wipe σ vs) σ') (h : ∀ j ∈ tg, j ∈ vs) : L2.wipe σ' vs = L2.wipe σ vs := by
  have hl : σ'.length = σ.length := by rw [k.len, wipe_length]
  refine List.ext_getElem? fun j => ?_
  rw [wipe_get, wipe_get, hl]
  by_cases e : j ∈ vs ∧ j < σ.length
  · rw [if_pos e, if_pos e]
  · rw [if_neg e, if_neg e]
    by_cases hj : j ∈ vs
    · have : ¬ j < σ.length := fun z => e ⟨hj, z⟩
      rw [List.getElem?_eq_none_iff.mpr (by omega), List.getElem?_eq_none_iff.mpr (by omega)]
    · rw [k.at_ j fun z => hj (h j z), wipe_get, if_neg e]
theorem kept_out {tg vs : List Nat} (k : Kept tg (L2.wipe σ vs) σ') (h : ∀ j ∈ tg, j ∈ vs) {j : Nat} (hj : j ∉ vs) : σ'[j]? = σ[j]? := by
  rw [k.at_ j fun z => hj (h j z), wipe_get, if_neg fun z => hj z.1]
/-- the outer slots again -/
theorem RepS.back {d0 : List Slot} (old : ∀ (j : Nat) (s : Slot), d0[j]? = some s → noOwn (some s) = true → RepSlot κ (Av c own) H σ[j]? none s) :
    ∀ {vs : List Nat} {σ2 : L2.St} {d2 d3 : List Slot}, RepS c σ2 H d2 own → σ2.length = σ.length → (∀ j : Nat, j ∉ vs → σ2[j]? = σ[j]?) → backD d0 vs d2 = some d3 → RepS c σ H d3 own
  | [], σ2, d2, d3, R, hl, hs, h => by
    cases h
    have e : σ2 = σ := List.ext_getElem? fun j => hs j (by simp)
    rw [← e]
    exact R
  | v :: vs, σ2, d2, d3, R, hl, hs, h => by
    unfold backD at h
    split at h
    · rename_i hn
      obtain ⟨s, e, h⟩ := of_ob h
      have on : own v = none := noOwn_none R hn.1
      have hv : v < d0.length := (List.getElem?_eq_some_iff.mp e).1
      refine RepS.back old (vs := vs) (σ2 := σ2.set v (σ[v]?.getD none)) (d2 := d2.set v s) ?_ (by rw [List.length_set, hl]) (fun j hj => ?_) h
      · have os := old v s e (by rw [← e]; exact hn.2)
        refine ⟨by rw [List.length_set, List.length_set, R.len], fun j u hj => ?_, R.inj, fun i a e => by rw [List.length_set]; exact R.out i a e, R.new, R.nO, R.keep, R.dom, fun a q => ⟨(R.pin a q).1, by rw [List.getElem?_set_ne (fun z => by rw [z, (R.pin a q).1] at on; cases on)]; exact (R.pin a q).2⟩⟩
        by_cases ej : j = v
        · subst ej
          by_cases hl2 : j < d2.length
          · rw [List.getElem?_set_self hl2] at hj
            cases hj
            have hσ : j < σ2.length := by rw [R.len]; exact hl2
            rw [List.getElem?_set_self hσ, on]
            have hσ1 : j < σ.length := by rw [← hl]; exact hσ
            rw [List.getElem?_eq_getElem hσ1] at os ⊢
            exact os
          · rw [List.getElem?_eq_none_iff.mpr (by rw [List.length_set]; omega)] at hj
            cases hj
        · rw [List.getElem?_set_ne (Ne.symm ej)] at hj
          rw [List.getElem?_set_ne (Ne.symm ej)]
          exact R.slot j u hj
      · by_cases ej : j = v
        · subst ej
          by_cases hσ : j < σ2.length
          · rw [List.getElem?_set_self hσ, List.getElem?_eq_getElem (by rw [← hl]; exact hσ)]
            rfl
          · rw [List.getElem?_eq_none_iff.mpr (by rw [List.length_set]; omega), List.getElem?_eq_none_iff.mpr (by omega)]
        · rw [List.getElem?_set_ne (Ne.symm ej)]
          exact hs j fun z => (List.mem_cons.mp z).elim ej hj
    · cases h
/-- an object that all leave alone is written -/
theorem RepS.aside (R : RepS c σ H d own) {p : Addr} {o : HO} (hO : c.O p) (h0 : c.H0 p = none) : RepS c σ (upd H p o) d own := by
  have np : ∀ i, own i ≠ some p := fun i e => R.nO i p e hO
  refine ⟨R.len, fun i s h => (R.slot i s h).tr (fun a o n q => ⟨n, ?_⟩) fun a q => upd_ne fun e => np i (by rw [← e]; exact q), R.inj, R.out, R.new, R.nO, fun a o h n => ?_, fun a h => ?_, R.pin⟩
  · rw [upd_ne (fun e => n (.inl (by rw [e]; exact hO)))]
    exact q
  · rw [upd_ne (fun e => by rw [e, h0] at h; cases h)]
    exact R.keep a o h n
  · by_cases e : a = p
    · exact ⟨o, by rw [e]; exact upd_same⟩
    · rw [upd_ne e]
      exact R.dom a h
end
def lcR (g : GR) (t : TR) (e : ER) (vs : List Nat) (d0 : List Slot) : List D → List D → List Slot → Option (List D × List Slot)
  | [], acc, d => some (acc, d)
  | x :: xs, acc, d => ob (g x (wipeD d vs)) fun d2 => bd (t d2) fun b d3 => if b = true then bd (e d3) fun y d4 => if acc.length < sizeLine then ob (backD d0 vs d4) fun d5 => lcR g t e vs d0 xs (acc ++ [y]) d5 else none
      else ob (backD d0 vs d3) fun d5 => lcR g t e vs d0 xs acc d5
def rLc (f : IR) (g : GR) (t : TR) (e : ER) (vs : List Nat) : ER := fun d => bd (f d) fun xs d1 => if (vs.all fun v => noOwn d1[v]?) = true then bd (lcR g t e vs d1 xs [] d1) fun ys d2 => some (.list ys, d2) else none
def rYes : TR := fun d => some (true, d)
theorem simYes : SimT κ tYes rYes := fun c σ H d own R b d' h Q q => by
  cases h
  exact q H own R.enter
theorem simLc {wi : TI} {g : TG} {tt : TT} {te : TE} {f : IR} {k : GR} {t : TR} {e : ER} {tg vs : List Nat} (si : SimI κ wi f) (sg : SimG κ g k tg) (st : SimT κ tt t) (se : SimE κ te e) (htg : ∀ j ∈ tg, j ∈ vs) : SimN κ (tLc wi g tt te vs) (rLc f k t e vs) := fun c σ H d own R x d' h Q q => by
  obtain ⟨xs, d1, e1, h⟩ := of_bd h
  have hvs : (vs.all fun v => noOwn d1[v]?) = true := by
    by_cases z : (vs.all fun v => noOwn d1[v]?) = true
    · exact z
    · rw [if_neg z] at h; cases h
  rw [if_pos hvs] at h
  obtain ⟨ys, d2, e2, h⟩ := of_bd h
  cases h
  refine si c σ H d own R xs d1 e1 _ fun J H1 own1 S W Dl hDl => ?_
  obtain ⟨G, Y, w, hG, hY⟩ := W.ex
  have R1 := R.leave S
  have hv1 : ∀ v ∈ vs, own1 v = none := fun v hv => noOwn_none R1 (List.all_eq_true.mp hvs v hv)
  have hDl0 : hide own1 H1 Dl = none := by
    cases z : hide own1 H1 Dl with
    | none => rfl
    | some o => rw [(of_hide z).1] at hDl; cases hDl
  -- the context within
  generalize hc1 : (⟨fun a => c.O a ∨ a = Dl, hide own1 H1, none, c.pin⟩ : Cc κ) = c1
  have c1O : ∀ a, c1.O a ↔ c.O a ∨ a = Dl := fun a => by rw [← hc1]
  have c1H : c1.H0 = hide own1 H1 := by rw [← hc1]
  have c1f : c1.fa = none := by rw [← hc1]
  have start : RepS c1 σ (upd H1 Dl (.lst [])) d1 own1 := by
    rw [← hc1]
    refine S.enter.more (Ex.new hDl) (fun a z => .inl z) (fun a z => z.elim .inl fun e => .inr (by rw [e]; exact hDl)) fun a z => ?_
    rcases z with z | z
    · obtain ⟨o, e⟩ := R1.dom a z
      exact ⟨o, Ex.new hDl a o e⟩
    · exact ⟨_, by rw [z]; exact upd_same⟩
  refine lc_it w (fun i H' => ∃ d3 own3 acc vacc, RepS c1 σ H' d3 own3 ∧ H' Dl = some (.lst vacc) ∧ Reps (Av c1 own3) H' vacc acc ∧ lcR k t e vs d1 (xs.drop i) acc d3 = some (ys, d') ∧ ∀ v ∈ vs, own3 v = none) ?_ ?_ ?_ ?_
  · exact ⟨d1, own1, [], [], start, upd_same, .nil, e2, hv1⟩
  · rintro i H' _ ⟨d3, own3, acc, vacc, R3, _⟩
    exact hG c1 σ H' d3 own3 c1H c1f R3
  · rintro i v H' H3 hi ⟨d3, own3, acc, vacc, R3, hD3, ra, hr, hv3⟩ y
    have hx : xs[i]? = some xs[i] := List.getElem?_eq_getElem hi
    rw [List.drop_eq_getElem_cons hi] at hr
    obtain ⟨d4, e4, hr⟩ := of_ob hr
    obtain ⟨b, d5, e5, hr⟩ := of_bd hr
    obtain ⟨ex, rx⟩ := hY i _ c1 σ H' d3 own3 v H3 c1H c1f (fun a z => ((c1O a).mp z).elim .inl fun e => .inr (by rw [e]; exact hDl)) R3 hx y
    have R4 := (R3.ext ex).wipe hv3
    refine sg c1 (L2.wipe σ vs) H3 _ own3 v _ R4 rx d4 e4 _ fun σ4 own4 R5 n5 k5 => ⟨wipe_kept k5 htg, ?_⟩
    have ra3 : Reps (Av c1 own4) H3 vacc acc := ra.tr fun a o n z => ⟨n5 a n, ex a o z⟩
    have hlen : σ4.length = σ.length := by rw [k5.len, wipe_length]
    -- behind the element, or behind the test: the outer slots again
    have bck : ∀ (Hz : Hp) (dz : List Slot) (ownz : Own1), RepS c1 σ4 Hz dz ownz → ∀ d9, backD d1 vs dz = some d9 → RepS c1 σ Hz d9 ownz := fun Hz dz ownz Rz d9 hb => by
      refine RepS.back (d0 := d1) (fun j s hj hn => ?_) Rz hlen (fun j hj => kept_out k5 htg hj) hb
      have s1 := R1.slot j s hj
      have o1 : own1 j = none := noOwn_none R1 (by rw [hj]; exact hn)
      rw [o1] at s1
      refine s1.tr (fun a o n z => ?_) fun a z => by cases z
      exact later (c := c) c1H c1f (fun a z => ((c1O a).mp z).elim .inl fun e => .inr (by rw [e]; exact hDl)) Rz n z
    have backv : ∀ (Hz : Hp) (dz : List Slot) (ownz : Own1), RepS c1 σ4 Hz dz ownz → ∀ d9, backD d1 vs dz = some d9 → ∀ v ∈ vs, ownz v = none := by
      intro Hz dz ownz Rz d9 hb
      have gen : ∀ (vs : List Nat) (dz d9 : List Slot), backD d1 vs dz = some d9 → ∀ v ∈ vs, noOwn dz[v]? = true := by
        intro vs
        induction vs with
        | nil => intro dz d9 _ v hv; cases hv
        | cons u us ih =>
          intro dz d9 hb v hv
          unfold backD at hb
          split at hb
          · rename_i hn
            obtain ⟨s, es, hb⟩ := of_ob hb
            by_cases ev : v = u
            · rw [ev]; exact hn.1
            · rcases List.mem_cons.mp hv with z | z
              · exact absurd z ev
              · have := ih _ _ hb v z
                rw [List.getElem?_set_ne (Ne.symm ev)] at this
                exact this
          · cases hb
      exact fun v hv => noOwn_none Rz (gen vs dz d9 hb v hv)
    refine st c1 σ4 H3 d4 own4 R5 b d5 e5 _ fun H5 own5 S5 => ?_
    have R6 := R5.leave S5
    have nD : ∀ {ow : Own1} {Hq : Hp} {dq : List Slot}, RepS c1 σ4 Hq dq ow → ¬ ∃ i, ow i = some Dl := fun Rq ⟨i, z⟩ => Rq.nO i Dl z ((c1O Dl).mpr (.inr rfl))
    have hD5 : H5 Dl = some (.lst vacc) := by
      have h0 : hide own4 H3 Dl = some (.lst vacc) := by rw [hide_not (nD R5)]; exact ex _ _ hD3
      exact S5.keep Dl _ h0 (by intro z; cases z)
    cases b with
    | false =>
      obtain ⟨d9, e9, hr⟩ := of_ob hr
      exact ⟨d9, own5, acc, vacc, bck H5 d5 own5 R6 d9 e9, hD5, S5.carrys ra3, hr, backv H5 d5 own5 R6 d9 e9⟩
    | true =>
      obtain ⟨y, d6, e6, hr⟩ := of_bd hr
      have hl : acc.length < sizeLine := by
        by_cases z : acc.length < sizeLine
        · exact z
        · rw [if_neg z] at hr; cases hr
      rw [if_pos hl] at hr
      obtain ⟨d9, e9, hr⟩ := of_ob hr
      refine se c1 σ4 H5 d5 own5 R6 y d6 e6 _ fun yv H6 own6 S6 ry => ?_
      have R7 := R6.leave S6
      have hD6 : H6 Dl = some (.lst vacc) := by
        have h0 : hide own5 H5 Dl = some (.lst vacc) := by rw [hide_not (nD R6)]; exact hD5
        exact S6.keep Dl _ h0 (by intro z; cases z)
      have ra6 := S6.carrys (S5.carrys ra3)
      have R8 := bck H6 d6 own6 R7 d9 e9
      have dO : c1.O Dl := (c1O Dl).mpr (.inr rfl)
      refine ⟨vacc, hD6, by rw [ra6.len]; exact hl, d9, own6, acc ++ [y], vacc ++ [yv], R8.aside dO (by rw [c1H]; exact hDl0), upd_same, ?_, hr, backv H6 d6 own6 R7 d9 e9⟩
      refine (ra6.snoc ry).tr fun a o n z => ⟨n, ?_⟩
      rw [upd_ne (fun e => n (.inl (by rw [e]; exact dO)))]
      exact z
  · rintro H' ⟨d3, own3, acc, vacc, R3, hD3, ra, hr, _⟩
    rw [List.drop_length] at hr
    cases hr
    rw [← hc1] at R3 ra
    have hq := S.leaveO R3
    refine q Dl H' own3 hq ⟨?_, ?_⟩ ⟨vacc, hD3, ra⟩
    · intro z
      obtain ⟨o, e⟩ := R1.dom Dl z
      rw [hDl] at e; cases e
    · cases z : hide own H Dl with
      | none => rfl
      | some o =>
        have := S.keep Dl o z (by intro z; cases z)
        rw [hDl] at this; cases this
end DK
end
section
set_option maxRecDepth 100000
namespace DK
open PySem L2
variable {κ : XI}

/-! ### what is walked -/
def isL (u : D) (k : List D → Option (List D × List Slot)) : Option (List D × List Slot) := match u with
  | .list xs => k xs
  | _ => none
theorem of_isL {u : D} {k : List D → Option (List D × List Slot)} {z : List D × List Slot} (h : isL u k = some z) : ∃ xs, u = .list xs ∧ k xs = some z := by
  cases u with
  | list b => exact ⟨b, rfl, h⟩
  | _ => cases h
def iL (a : ER) : IR := fun d => bd (a d) fun x d1 => isL x fun xs => some (xs, d1)
theorem simIL {K : PySem.W.Frag} {te : TE} {a : ER} (sa : SimE κ te a) : SimI κ (iList K te) (iL a) := fun c σ H d own R xs d' h Q q => by
  obtain ⟨x, d1, e, h⟩ := of_bd h
  obtain ⟨ys, rfl, h⟩ := of_isL h
  cases h
  refine sa c σ H d own R _ _ e _ fun v H1 own1 S r => ?_
  cases r with
  | lst na hv rs => exact ⟨_, rfl, ⟨_, .inl (.inl hv)⟩, q _ H1 own1 S (walkList na hv rs)⟩
def isTp (u : D) (k : List D → Option (List D × List Slot)) : Option (List D × List Slot) := match u with
  | .tuple xs => k xs
  | _ => none
theorem of_isTp {u : D} {k : List D → Option (List D × List Slot)} {z : List D × List Slot} (h : isTp u k = some z) : ∃ xs, u = .tuple xs ∧ k xs = some z := by
  cases u with
  | tuple b => exact ⟨b, rfl, h⟩
  | _ => cases h
def iT (a : ER) : IR := fun d => bd (a d) fun x d1 => isTp x fun xs => some (xs, d1)
theorem simIT {K : PySem.W.Frag} {te : TE} {a : ER} (sa : SimE κ te a) : SimI κ (iTup K te) (iT a) := fun c σ H d own R xs d' h Q q => by
  obtain ⟨x, d1, e, h⟩ := of_bd h
  obtain ⟨ys, rfl, h⟩ := of_isTp h
  cases h
  refine sa c σ H d own R _ _ e _ fun v H1 own1 S r => ?_
  cases r with
  | @tup a vs _ na hv rs =>
    refine ⟨_, rfl, ⟨_, .inl (.inl hv)⟩, q _ H1 own1 S ?_⟩
    have hid : hide own1 H1 a = some (.tup vs) := by rw [hide_not fun z => na (.inr z)]; exact hv
    refine ⟨⟨fun H => SqT K H a vs, YAt vs, by rw [← rs.len]; exact walk_tup, fun c' σ2 H2 d2 own2 e0 ef R2 => .inl (.inl (R2.keep a _ (by rw [e0]; exact hid) (by rw [ef]; intro z; cases z))), ?_⟩⟩
    rintro i x c' σ2 H2 d2 own2 v H3 e0 ef hO R2 hx ⟨rfl, hv⟩
    obtain ⟨v', h1, r1⟩ := rs.get hx
    rw [hv] at h1
    cases h1
    exact ⟨Ex.refl _, r1.tr fun b o n z => later e0 ef hO R2 n z⟩
def chars (s : Str) : List D := s.cps.toList.map fun c => .str ⟨#[c]⟩
theorem chars_len (s : Str) : (chars s).length = s.cps.size := by simp [chars]
def isS (u : D) (k : Str → Option (List D × List Slot)) : Option (List D × List Slot) := match u with
  | .str xs => k xs
  | _ => none
theorem of_isS {u : D} {k : Str → Option (List D × List Slot)} {z : List D × List Slot} (h : isS u k = some z) : ∃ xs, u = .str xs ∧ k xs = some z := by
  cases u with
  | str b => exact ⟨b, rfl, h⟩
  | _ => cases h
def iS (a : ER) : IR := fun d => bd (a d) fun x d1 => isS x fun s => some (chars s, d1)
theorem simIS {te : TE} {a : ER} (sa : SimE κ te a) : SimI κ (iStr te) (iS a) := fun c σ H d own R xs d' h Q q => by
  obtain ⟨x, d1, e, h⟩ := of_bd h
  obtain ⟨s, rfl, h⟩ := of_isS h
  cases h
  refine sa c σ H d own R _ _ e _ fun v H1 own1 S r => ?_
  cases r
  refine ⟨s, rfl, q _ H1 own1 S ⟨⟨fun _ => True, _, by rw [chars_len]; exact walk_str, fun _ _ _ _ _ _ _ _ => trivial, ?_⟩⟩⟩
  rintro i x c' σ2 H2 d2 own2 v H3 e0 ef hO R2 hx ⟨rfl, cc, h1, rfl⟩
  refine ⟨Ex.refl _, ?_⟩
  have e2 : s.cps.toList[i]? = some cc := by rw [Array.getElem?_toList]; exact h1
  have e3 : (chars s)[i]? = some (.str ⟨#[cc]⟩) := by
    unfold chars
    rw [List.getElem?_map, e2]
    rfl
  rw [e3] at hx
  cases hx
  exact .str _
/-- lo, lo + c, .. -/
def rowI (lo c : Int) (n : Nat) : List D := (List.range n).map fun (i : Nat) => PyData.int (lo + (i : Int) * c)
theorem rowI_len (lo c : Int) (n : Nat) : (rowI lo c n).length = n := by simp [rowI]
theorem rowI_get {lo c : Int} {n i : Nat} {x : D} (h : (rowI lo c n)[i]? = some x) : x = .int (lo + (i : Int) * c) := by
  unfold rowI at h
  rw [List.getElem?_map] at h
  by_cases hi : i < n
  · rw [List.getElem?_eq_getElem (by simpa using hi)] at h
    simp at h
    exact h.symm
  · rw [List.getElem?_eq_none_iff.mpr (by simpa using hi)] at h
    cases h
theorem walkRange {c : Cc κ} {σ : L2.St} {H : Hp} {own : Own1} {lo : Int} {n : Nat} : WalkOk c σ own H (Itr lo n) (rowI lo 1 n) := by
  refine ⟨⟨fun _ => True, _, by rw [rowI_len]; exact walk_range, fun _ _ _ _ _ _ _ _ => trivial, ?_⟩⟩
  rintro i x c' σ2 H2 d2 own2 v H3 e0 ef hO R2 hx ⟨rfl, rfl⟩
  have := rowI_get hx
  rw [Int.mul_one] at this
  exact ⟨Ex.refl _, by rw [this]; exact .int _⟩
theorem walkRangeC {c : Cc κ} {σ : L2.St} {H : Hp} {own : Own1} {lo k : Int} {n : Nat} : WalkOk c σ own H (Itc lo k n) (rowI lo k n) := by
  refine ⟨⟨fun _ => True, _, by rw [rowI_len]; exact walk_rangeC, fun _ _ _ _ _ _ _ _ => trivial, ?_⟩⟩
  rintro i x c' σ2 H2 d2 own2 v H3 e0 ef hO R2 hx ⟨rfl, rfl⟩
  exact ⟨Ex.refl _, by rw [rowI_get hx]; exact .int _⟩
def big : Int := 2 ^ 62
def small (i : Int) : Bool := decide (-(2 ^ 62) ≤ i) && decide (i < 2 ^ 62)
theorem small_ok {i : Int} (h : small i = true) : -(2 ^ 62) ≤ i ∧ i < 2 ^ 62 := by
  unfold small at h
  rw [Bool.and_eq_true, decide_eq_true_eq, decide_eq_true_eq] at h
  exact h
def rng1 : List D → Option (List D)
  | [.int j] => if small j = true then some (rowI 0 1 j.toNat) else none
  | _ => none
def rng2 : List D → Option (List D)
  | [.int i, .int j] => if small i = true ∧ small j = true then some (rowI i 1 (j - i).toNat) else none
  | _ => none
/-- range(i, j, -1); other steps: by what the model's size says -/
def rngLen (i j k : Int) : Nat := if k = -1 then (i - j).toNat else if 0 < k then ((j - i + k - 1) / k).toNat else ((i - j + (-k) - 1) / (-k)).toNat
def rng3 : List D → Option (List D)
  | [.int i, .int j, .int k] => if small i = true ∧ small j = true ∧ k ≠ 0 ∧ k.natAbs < 1073741824 ∧ Builtin.Range.small i j k = true ∧ Builtin.Range.rangeSize i j k = (Builtin.Range.rangeSize i j k).toNat then some (rowI i k (Builtin.Range.rangeSize i j k).toNat) else none
  | _ => none
def iR (f : List D → Option (List D)) (a : AR) : IR := fun d => bd (a d) fun xs d1 => ob (f xs) fun ys => some (ys, d1)
theorem simIR1 {ta : TA} {a : AR} (sa : SimA κ ta a) : SimI κ (iRng1 ta) (iR rng1 a) := fun c σ H d own R xs d' h Q q => by
  obtain ⟨ys, d1, e, h⟩ := of_bd h
  obtain ⟨zs, e2, h⟩ := of_ob h
  cases h
  refine sa c σ H d own R ys _ e _ fun vs H1 own1 S rs => ?_
  unfold rng1 at e2
  split at e2
  · cases rs with
    | cons r rs =>
      cases rs
      cases r
      split at e2
      · rename_i hs
        cases e2
        exact ⟨_, rfl, (small_ok hs).1, (small_ok hs).2, q _ H1 own1 S walkRange⟩
      · cases e2
  · cases e2
theorem simIR2 {ta : TA} {a : AR} (sa : SimA κ ta a) : SimI κ (iRng2 ta) (iR rng2 a) := fun c σ H d own R xs d' h Q q => by
  obtain ⟨ys, d1, e, h⟩ := of_bd h
  obtain ⟨zs, e2, h⟩ := of_ob h
  cases h
  refine sa c σ H d own R ys _ e _ fun vs H1 own1 S rs => ?_
  unfold rng2 at e2
  split at e2
  · cases rs with
    | cons r rs =>
      cases rs with
      | cons r' rs =>
        cases rs
        cases r
        cases r'
        split at e2
        · rename_i hs
          cases e2
          exact ⟨_, _, rfl, ⟨(small_ok hs.1).1, (small_ok hs.1).2, (small_ok hs.2).1, (small_ok hs.2).2⟩, q _ H1 own1 S walkRange⟩
        · cases e2
  · cases e2
theorem simIR3 {ta : TA} {a : AR} (sa : SimA κ ta a) : SimI κ (iRng3 ta) (iR rng3 a) := fun c σ H d own R xs d' h Q q => by
  obtain ⟨ys, d1, e, h⟩ := of_bd h
  obtain ⟨zs, e2, h⟩ := of_ob h
  cases h
  refine sa c σ H d own R ys _ e _ fun vs H1 own1 S rs => ?_
  unfold rng3 at e2
  split at e2
  · cases rs with
    | cons r rs =>
      cases rs with
      | cons r' rs =>
        cases rs with
        | cons r'' rs =>
          cases rs
          cases r
          cases r'
          cases r''
          split at e2
          · rename_i hs
            cases e2
            exact ⟨_, _, _, _, rfl, ⟨hs.2.2.1, hs.2.2.2.1, hs.2.2.2.2.1, hs.2.2.2.2.2⟩, q _ H1 own1 S walkRangeC⟩
          · cases e2
  · cases e2
/-- pairs of two rows -/
def pairsOf (xs ys : List D) : List D := (xs.zip ys).map fun p => .tuple [p.1, p.2]
theorem pairsOf_get {xs ys : List D} {i : Nat} {z : D} (h : (pairsOf xs ys)[i]? = some z) : ∃ x y, xs[i]? = some x ∧ ys[i]? = some y ∧ z = .tuple [x, y] := by
  unfold pairsOf at h
  rw [List.getElem?_map] at h
  cases e : (xs.zip ys)[i]? with
  | none => rw [e] at h; cases h
  | some p =>
    rw [e] at h
    cases h
    rw [List.getElem?_zip_eq_some] at e
    exact ⟨p.1, p.2, e.1, e.2, rfl⟩
theorem pairsOf_len (xs ys : List D) : (pairsOf xs ys).length = min xs.length ys.length := by simp [pairsOf]
def counted (xs : List D) : List D := pairsOf (rowI 0 1 xs.length) xs
theorem counted_len (xs : List D) : (counted xs).length = xs.length := by
  unfold counted
  rw [pairsOf_len, rowI_len, Nat.min_self]
def isL1 (u : List D) (k : List D → Option (List D × List Slot)) : Option (List D × List Slot) := match u with
  | [.list xs] => k xs
  | _ => none
def iE (a : AR) : IR := fun d => bd (a d) fun us d1 => isL1 us fun xs => some (counted xs, d1)
theorem pairRep {A : Addr → Prop} {H2 H3 : Hp} {T : Addr} {v w : V} {x y : D} (nT : H2 T = none) (dom : ∀ a, A a → ∃ o, H2 a = some o) (e : H3 = upd H2 T (.tup [v, w])) (r : Rep A H2 v x) (s : Rep A H2 w y) : Ex H2 H3 ∧ Rep A H3 (.ref T) (.tuple [x, y]) := by
  subst e
  refine ⟨Ex.new nT, .tup (fun z => ?_) upd_same (.cons (r.ex (Ex.new nT)) (.cons (s.ex (Ex.new nT)) .nil))⟩
  obtain ⟨o, e⟩ := dom T z
  rw [nT] at e; cases e
theorem simIE {K : PySem.W.Frag} {ta : TA} {a : AR} (sa : SimA κ ta a) : SimI κ (iEnum K ta) (iE a) := fun c σ H d own R xs d' h Q q => by
  obtain ⟨us, d1, e, h⟩ := of_bd h
  refine sa c σ H d own R us d1 e _ fun vs H1 own1 S rs => ?_
  unfold isL1 at h
  split at h
  · rename_i ys
    cases h
    cases rs with
    | cons r rs =>
      cases rs
      cases r with
      | @lst a ws _ na hv rs =>
        refine ⟨_, _, rfl, .inl (.inl hv), q _ H1 own1 S ?_⟩
        have hid : hide own1 H1 a = some (.lst ws) := by rw [hide_not fun z => na (.inr z)]; exact hv
        refine ⟨⟨fun H => SqL K H a ws, _, by rw [counted_len, ← rs.len]; exact walk_enum, fun c' σ2 H2 d2 own2 e0 ef R2 => .inl (.inl (R2.keep a _ (by rw [e0]; exact hid) (by rw [ef]; intro z; cases z))), ?_⟩⟩
        rintro i x c' σ2 H2 d2 own2 v H3 e0 ef hO R2 hx ⟨T, v1, v2, rfl, nT, e3, h1, h2⟩
        obtain ⟨x1, x2, g1, g2, rfl⟩ := pairsOf_get (xs := rowI 0 1 ys.length) (ys := ys) hx
        obtain ⟨w, h3, r3⟩ := rs.get g2
        have h2' : ws[i]? = some v2 := h2
        rw [h2'] at h3
        cases h3
        cases h1
        have e4 := rowI_get g1
        refine pairRep nT R2.domA e3 ?_ (r3.tr fun b o n z => later e0 ef hO R2 n z)
        rw [e4]
        have : (0 : Int) + (i : Int) * 1 = (i : Int) := by omega
        rw [this]
        exact .int _
  · cases h
def isL2 (u : List D) (k : List D → List D → Option (List D × List Slot)) : Option (List D × List Slot) := match u with
  | [.list xs, .list ys] => k xs ys
  | _ => none
def iZ (a : AR) : IR := fun d => bd (a d) fun us d1 => isL2 us fun xs ys => some (pairsOf xs ys, d1)
theorem simIZ {K : PySem.W.Frag} {ta : TA} {a : AR} (sa : SimA κ ta a) : SimI κ (iZip K ta) (iZ a) := fun c σ H d own R xs d' h Q q => by
  obtain ⟨us, d1, e, h⟩ := of_bd h
  refine sa c σ H d own R us d1 e _ fun vs H1 own1 S rs => ?_
  unfold isL2 at h
  split at h
  · rename_i xs ys
    cases h
    cases rs with
    | cons r rs =>
      cases rs with
      | cons r' rs =>
      cases rs
      cases r with
      | @lst a ws _ na hv rs =>
      cases r' with
      | @lst b us _ nb hw rs' =>
        refine ⟨_, _, _, _, rfl, .inl (.inl hv), .inl (.inl hw), q _ H1 own1 S ?_⟩
        have hid : hide own1 H1 a = some (.lst ws) := by rw [hide_not fun z => na (.inr z)]; exact hv
        have hid2 : hide own1 H1 b = some (.lst us) := by rw [hide_not fun z => nb (.inr z)]; exact hw
        refine ⟨⟨fun H => SqL K H a ws ∧ SqL K H b us, _, by rw [pairsOf_len]; exact walk_zip (by rw [rs.len, rs'.len]), fun c' σ2 H2 d2 own2 e0 ef R2 => ⟨.inl (.inl (R2.keep a _ (by rw [e0]; exact hid) (by rw [ef]; intro z; cases z))), .inl (.inl (R2.keep b _ (by rw [e0]; exact hid2) (by rw [ef]; intro z; cases z)))⟩, ?_⟩⟩
        rintro i x c' σ2 H2 d2 own2 v H3 e0 ef hO R2 hx ⟨T, v1, v2, rfl, nT, e3, h1, h2⟩
        obtain ⟨x1, x2, g1, g2, rfl⟩ := pairsOf_get hx
        obtain ⟨w, h3, r3⟩ := rs.get g1
        obtain ⟨w2, h4, r4⟩ := rs'.get g2
        have h1' : ws[i]? = some v1 := h1
        have h2' : us[i]? = some v2 := h2
        rw [h1'] at h3
        cases h3
        rw [h2'] at h4
        cases h4
        exact pairRep nT R2.domA e3 (r3.tr fun b o n z => later e0 ef hO R2 n z) (r4.tr fun b o n z => later e0 ef hO R2 n z)
  · cases h

/-! ### calls of the text's own defs -/
def spP (m : List D → Option D) : Sp := fun vs H Q _ => ∃ A xs y, Reps A H vs xs ∧ (∀ a, A a → ∃ o, H a = some o) ∧ m xs = some y ∧ ∀ v H', Ex H H' → Rep A H' v y → Q v H'
def rCall (m : List D → Option D) (a : AR) : ER := fun d => bd (a d) fun xs d1 => ob (m xs) fun y => some (y, d1)
theorem simCall {m : List D → Option D} {E : XK} {ta : TA} {a : AR} (sa : SimA κ ta a) : SimE κ (tCall (spP m) [] E ta) (rCall m a) := fun c σ H d own R x d' h Q q => by
  obtain ⟨xs, d1, e, h⟩ := of_bd h
  obtain ⟨y, e2, h⟩ := of_ob h
  cases h
  refine sa c σ H d own R xs _ e _ fun vs H1 own1 S rs => ?_
  rw [List.append_nil]
  exact ⟨Av c own1, xs, _, rs, (R.leave S).domA, e2, fun v H' ex r => q v H' own1 (S.ext ex) r⟩
def flatD : D → Bool
  | .none | .bool _ | .int _ | .str _ => true
  | _ => false
theorem Rep.flat {A A' : Addr → Prop} {H H' : Hp} {v : V} {x : D} (r : Rep A H v x) (f : flatD x = true) : Rep A' H' v x := by
  cases r with
  | non => exact .non
  | bl b => exact .bl b
  | int i => exact .int i
  | str x => exact .str x
  | lst _ _ _ => cases f
  | tup _ _ _ => cases f
  | dct _ _ _ => cases f
theorem Vws.loose {A : Addr → Prop} {H : Hp} : ∀ {vs : List V} {xs : List D}, Vws A H vs xs → Reps (fun _ => False) H vs xs
  | _, _, .nil => .nil
  | _, _, .cons r t => .cons (by
      rcases r with r | ⟨a, rfl, r⟩
      · exact r.tr fun a o _ z => ⟨id, z⟩
      · rename_i x _
        cases x with
        | list xs =>
          obtain ⟨vs, h1, r⟩ := r
          exact .lst id h1 (r.tr fun a o _ z => ⟨id, z⟩)
        | dict xs =>
          obtain ⟨vs, h1, r⟩ := r
          exact .dct id h1 (r.tr fun a o _ z => ⟨id, z⟩)
        | _ => exact r.elim) t.loose
/-- .. that hands back no object: owned arguments stay owned -/
def rCallB (m : List D → Option D) (a : ABR) : ER := fun d => bd (a d) fun bs d1 => ob (getAll d1 bs) fun xs => ob (m xs) fun y => if flatD y = true then some (y, d1) else none
theorem simCallB {m : List D → Option D} {E : XK} {ta : TA} {a : ABR} (sa : SimAB κ ta a) : SimE κ (tCall (spP m) [] E ta) (rCallB m a) := fun c σ H d own R x d' h Q q => by
  obtain ⟨bs, d1, e, h⟩ := of_bd h
  obtain ⟨xs, e2, h⟩ := of_ob h
  obtain ⟨y, e3, h⟩ := of_ob h
  have f : flatD y = true := by
    by_cases z : flatD y = true
    · exact z
    · rw [if_neg z] at h; cases h
  rw [if_pos f] at h
  cases h
  refine sa c σ H d own R bs _ e _ fun vs H1 own1 S rs => ?_
  rw [List.append_nil]
  exact ⟨fun _ => False, xs, _, (rs.vws (R.leave S) e2).loose, fun _ z => z.elim, e3, fun v H' ex r => q v H' own1 (S.ext ex) (r.flat f)⟩
/-- a def that draws: the feed goes first -/
def spF (m : FS → List D → Option (D × FS)) : Sp := fun vs H Q _ => ∃ (fa : Addr) (vs' : List V) (A : Addr → Prop) (fs : FS) (xs : List D) (y : D) (fs' : FS), vs = .ref fa :: vs' ∧ Feed A H fa fs ∧ A fa ∧ Reps A H vs' xs ∧ (∀ a, A a → ∃ o, H a = some o) ∧ m fs xs = some (y, fs') ∧
  ∀ v H', (∀ a o, a ≠ fa → H a = some o → H' a = some o) → Feed A H' fa fs' → Rep A H' v y → Q v H'
section
variable {c : Cc κ} {σ : L2.St} {H H' : Hp} {d : List Slot} {own : Own1}
/-- what stands in a slot's object is changed (and the heap grows) -/
theorem RepS.turn (R : RepS c σ H d own) {i : Nat} {a : Addr} {s : Slot} (hi : own i = some a) (k : ∀ b o, b ≠ a → H b = some o → H' b = some o) (r : RepSlot κ (Av c own) H' σ[i]? (some a) s) (hp : notFd d[i]? = true ∨ notFd (some s) = false) : RepS c σ H' (d.set i s) own := by
  have t : ∀ b o', ¬ Av c own b → H b = some o' → ¬ Av c own b ∧ H' b = some o' := fun b o' n q => ⟨n, k b o' (fun e => n (.inr ⟨i, by rw [e]; exact hi⟩)) q⟩
  refine ⟨by rw [List.length_set, R.len], fun j s' h => ?_, R.inj, fun j b h => by rw [List.length_set]; exact R.out j b h, R.new, R.nO, fun b o' h n => ?_, fun b h => ?_, fun b h => ⟨(R.pin b h).1, ?_⟩⟩
  · by_cases e : j = i
    · subst e
      rw [List.getElem?_set_self (R.out j a hi)] at h
      cases h
      rw [hi]
      exact r
    · rw [List.getElem?_set_ne (Ne.symm e)] at h
      refine (R.slot j s' h).tr t fun b q => ?_
      have nb : b ≠ a := fun z => e (R.inj j i a (by rw [← z]; exact q) hi)
      obtain ⟨o, ho⟩ := R.domA b (.inr ⟨j, q⟩)
      rw [ho, k b o nb ho]
  · have ho := R.keep b o' h n
    refine k b o' (fun e => ?_) ho
    rcases R.new i a hi with q | q
    · rw [e, q] at h; cases h
    · exact n (by rw [e]; exact q)
  · obtain ⟨o, ho⟩ := R.dom b h
    exact ⟨o, k b o (fun e => R.nO i a hi (by rw [← e]; exact h)) ho⟩
  · by_cases e : i = 0
    · subst e
      rcases hp with z | z
      · exact absurd rfl (pin_ne R z h)
      · cases s with
        | fd fs => exact ⟨fs, List.getElem?_set_self (R.out 0 a hi)⟩
        | _ => cases z
    · rw [List.getElem?_set_ne e]
      exact (R.pin b h).2
end
def rCallF (j : Nat) (m : FS → List D → Option (D × FS)) (a : AR) : ER := fun d => match d[j]? with
  | some (.fd _) => bd (a d) fun xs d1 => match d1[j]? with
    | some (.fd fs) => ob (m fs xs) fun p => some (p.1, d1.set j (.fd p.2))
    | _ => none
  | _ => none
theorem simCallF {j : Nat} {m : FS → List D → Option (D × FS)} {E : XK} {ta : TA} {a : AR} (sa : SimA κ ta a) : SimE κ (tCall (spF m) [] E (tCons (tVar j) ta)) (rCallF j m a) := fun c σ H d own R x d' h Q q => by
  unfold rCallF at h
  split at h
  · rename_i fs0 e0
    obtain ⟨a0, o0, s0, _⟩ := R.slot j _ e0
    obtain ⟨xs, d1, e, h⟩ := of_bd h
    split at h
    · rename_i fs e1
      obtain ⟨p, e2, h⟩ := of_ob h
      cases h
      refine ⟨_, s0, sa c σ H d own R xs _ e _ fun vs H1 own1 S rs => ?_⟩
      show spF m ((V.ref a0 :: vs) ++ []) H1 Q E
      rw [List.append_nil]
      have R1 := R.leave S
      obtain ⟨a1, o1, s1, F⟩ := R1.slot j _ e1
      rw [s0] at s1
      cases s1
      refine ⟨a0, vs, Av c own1, fs, xs, p.1, p.2, rfl, F, .inr ⟨j, o1⟩, rs, R1.domA, e2, fun v H' k F' r => q v H' own1 (S.turn o1 k ⟨a0, rfl, s0, F'⟩ (.inr rfl)) r⟩
    · cases h
  · cases h

/-! ### owned lists and dicts changed -/
def sApp (i : Nat) (a : ER) : SR := fun d => match d[i]? with
  | some (.ow (.list _)) => bd (a d) fun x d1 => match d1[i]? with
    | some (.ow (.list xs)) => if xs.length < sizeLine then some (.nx (d1.set i (.ow (.list (xs ++ [x]))))) else none
    | _ => none
  | _ => none
theorem simApp {K : PySem.W.Frag} {i : Nat} {te : TE} {a : ER} (sa : SimE κ te a) : SimS κ (tDrop (tBM K "list" rAppend (tVar i) (tCons te tNil))) (sApp i a) := fun c σ H d own R o h De p => by
  unfold sApp at h
  split at h
  · rename_i xs0 e0
    obtain ⟨a0, o0, s0, vs0, hv0, _⟩ := R.slot i _ e0
    obtain ⟨x, d1, e, h⟩ := of_bd h
    split at h
    · rename_i xs e1
      split at h
      · rename_i hl
        cases h
        refine ⟨_, s0, .inl ⟨rfl, _, .inl (.inl hv0)⟩, sa c σ H d own R x _ e _ fun v H1 own1 S r => ?_⟩
        have R1 := R.leave S
        obtain ⟨a1, o1, s1, vs, hv, rs⟩ := R1.slot i _ e1
        rw [s0] at s1
        cases s1
        refine ⟨a0, vs, v, rfl, rfl, hv, by rw [rs.len]; exact hl, p σ _ own1 (R1.write (by rw [e1]; rfl) o1 (R1.out i a0 o1) s0 ⟨vs ++ [v], upd_same, ?_⟩)⟩
        have t : ∀ b o', ¬ Av c own1 b → H1 b = some o' → ¬ Av c own1 b ∧ upd H1 a0 (.lst (vs ++ [v])) b = some o' := fun b o' n z => ⟨n, by rw [upd_ne (fun e => n (.inr ⟨i, by rw [e]; exact o1⟩))]; exact z⟩
        exact (rs.tr t).snoc (r.tr t)
      · cases h
    · cases h
  · cases h
def sExt (i : Nat) (b : BR) : SR := fun d => match d[i]? with
  | some (.ow (.list _)) => bd (b d) fun x d1 => ob (x.get d1) fun u => match u with
    | .list ys => match d1[i]? with
      | some (.ow (.list xs)) => if xs.length + ys.length ≤ sizeLine then some (.nx (d1.set i (.ow (.list (xs ++ ys))))) else none
      | _ => none
    | _ => none
  | _ => none
theorem simExt {K : PySem.W.Frag} {i : Nat} {te : TE} {b : BR} (sb : SimB κ te b) : SimS κ (tDrop (tBM K "list" rExtend (tVar i) (tCons te tNil))) (sExt i b) := fun c σ H d own R o h De p => by
  unfold sExt at h
  split at h
  · rename_i xs0 e0
    obtain ⟨a0, o0, s0, vs0, hv0, _⟩ := R.slot i _ e0
    obtain ⟨x, d1, e, h⟩ := of_bd h
    obtain ⟨u, e2, h⟩ := of_ob h
    split at h
    · rename_i ys
      split at h
      · rename_i xs e1
        split at h
        · rename_i hl
          cases h
          refine ⟨_, s0, .inl ⟨rfl, _, .inl (.inl hv0)⟩, sb c σ H d own R x _ e _ fun v H1 own1 S r => ?_⟩
          have R1 := R.leave S
          obtain ⟨a1, o1, s1, vs, hv, rs⟩ := R1.slot i _ e1
          rw [s0] at s1
          cases s1
          obtain ⟨b0, ws, rfl, hw, rw'⟩ := (r.vw R1 e2).lst
          refine ⟨a0, b0, vs, ws, rfl, rfl, hv, hw, by rw [rs.len, rw'.len]; exact hl, p σ _ own1 (R1.write (by rw [e1]; rfl) o1 (R1.out i a0 o1) s0 ⟨vs ++ ws, upd_same, ?_⟩)⟩
          have t : ∀ b o', ¬ Av c own1 b → H1 b = some o' → ¬ Av c own1 b ∧ upd H1 a0 (.lst (vs ++ ws)) b = some o' := fun b o' n z => ⟨n, by rw [upd_ne (fun e => n (.inr ⟨i, by rw [e]; exact o1⟩))]; exact z⟩
          exact (rs.tr t).append (rw'.tr t)
        · cases h
      · cases h
    · cases h
  · cases h
/-- xs.pop(k) -/
def rPopI (i : Nat) (b : BR) : ER := fun d => match d[i]? with
  | some (.ow (.list _)) => bd (b d) fun x d1 => ob (x.get d1) fun u => match u with
    | .int k => match d1[i]? with
      | some (.ow (.list xs)) => if -(2 ^ 63) ≤ k ∧ k < 2 ^ 63 then ob (seqIndex? k xs.length) fun j => ob xs[j]? fun y => some (y, d1.set i (.ow (.list (xs.eraseIdx j)))) else none
      | _ => none
    | _ => none
  | _ => none
theorem slot_some {c : Cc κ} {σ : L2.St} {H : Hp} {d : List Slot} {own : Own1} (R : RepS c σ H d own) {i : Nat} {x : D} (e : slotD d[i]? = some x) : ∃ v, σ[i]? = some (some v) := by
  cases q : d[i]? with
  | none => rw [q] at e; cases e
  | some s =>
    rw [q] at e
    have z := R.slot i s q
    cases s with
    | un => cases e
    | xc x => cases e
    | fd fs => cases e
    | fz y => exact ⟨_, z.2.choose_spec.1⟩
    | ow y => exact ⟨_, z.choose_spec.2.1⟩
/-- xs[k] = e -/
def sSetL (i : Nat) (a : ER) (b : BR) : SR := fun d => bd (a d) fun x d1 => ob (slotD d1[i]?) fun _ => bd (b d1) fun y d2 => ob (y.get d2) fun u => match u with
  | .int k => match d2[i]? with
    | some (.ow (.list xs)) => ob (ixN xs.length k) fun j => some (.nx (d2.set i (.ow (.list (xs.set j x)))))
    | _ => none
  | _ => none
theorem simSetL {i : Nat} {te ti : TE} {a : ER} {b : BR} (sa : SimE κ te a) (sb : SimB κ ti b) : SimS κ (tAsg te (gSub (tVar i) ti rSetL)) (sSetL i a b) := fun c σ H d own R o h De p => by
  obtain ⟨x, d1, e, h⟩ := of_bd h
  obtain ⟨_, e9, h⟩ := of_ob h
  obtain ⟨y, d2, e2, h⟩ := of_bd h
  obtain ⟨u, e3, h⟩ := of_ob h
  split at h
  · rename_i k
    split at h
    · rename_i xs e1
      obtain ⟨j, e4, h⟩ := of_ob h
      cases h
      refine sa c σ H d own R x _ e _ fun v H1 own1 S r => ?_
      have R1 := R.leave S
      obtain ⟨w, σi⟩ := slot_some R1 e9
      refine ⟨w, σi, sb c σ H1 d1 own1 R1 y _ e2 _ fun v2 H2 own2 S2 r2 => ?_⟩
      have R2 := R1.leave S2
      obtain ⟨a1, o1, s1, vs, hv, rs⟩ := R2.slot i _ e1
      rw [σi] at s1
      cases s1
      have ek := (r2.vw R2 e3).int
      refine ⟨a1, vs, k, j, rfl, ek, hv, by rw [rs.len]; exact e4, p σ _ own2 (R2.write (by rw [e1]; rfl) o1 (R2.out i a1 o1) σi ⟨vs.set j v, upd_same, ?_⟩)⟩
      have t : ∀ b o', ¬ Av c own2 b → H2 b = some o' → ¬ Av c own2 b ∧ upd H2 a1 (.lst (vs.set j v)) b = some o' := fun b o' n z => ⟨n, by rw [upd_ne (fun e => n (.inr ⟨i, by rw [e]; exact o1⟩))]; exact z⟩
      exact Reps.set ((S2.carry r).tr t) j (rs.tr t)
    · cases h
  · cases h
end DK
end
section
set_option maxRecDepth 100000
namespace DK
open PySem PySem.Spec PyProof.Rows L2

/-! ### rules joined: one reading for ints, texts, lists -/
section
variable {X : Cx}
theorem opOr {f : Value → Value → Sem Value} {r r' : R2} (h : OpR X f r) (h' : OpR X f r') : OpR X f (fun x y H Q => r x y H Q ∨ r' x y H Q) := by
  intro pins s σ H x y v u Q I rx ry z
  rcases z with z | z
  · exact h pins s σ H x y v u Q I rx ry z
  · exact h' pins s σ H x y v u Q I rx ry z
theorem clOr {f : Value} {r r' : List V → Hp → VK → Prop} (h : CallR X f r) (h' : CallR X f r') : CallR X f (fun xs H Q => r xs H Q ∨ r' xs H Q) := by
  intro pins s σ H xs us Q I rx z
  rcases z with z | z
  · exact h pins s σ H xs us Q I rx z
  · exact h' pins s σ H xs us Q I rx z
theorem ixOr {r r' : R2} (h : IxR X r) (h' : IxR X r') : IxR X (fun x y H Q => r x y H Q ∨ r' x y H Q) := by
  intro value slice pins s σ H x y v u Q I rx ry z
  rcases z with z | z
  · exact h value slice pins s σ H x y v u Q I rx ry z
  · exact h' value slice pins s σ H x y v u Q I rx ry z
theorem mtOr {id : String} {r r' : V → List V → Hp → VK → Prop} (h : MtR X id r) (h' : MtR X id r') : MtR X id (fun x xs H Q => r x xs H Q ∨ r' x xs H Q) := by
  intro pins s σ H x xs v us Q I rx rs z
  rcases z with z | z
  · exact h pins s σ H x xs v us Q I rx rs z
  · exact h' pins s σ H x xs v us Q I rx rs z
/-- text * int -/
def repS (x : Str) (n : Int) : Str := ⟨((List.replicate n.toNat x.cps.toList).flatten).toArray⟩
def rMulS : R2 := fun x y H Q => ∃ z k, x = .str z ∧ y = .int k ∧ -(2 ^ 63) ≤ k ∧ k < 2 ^ 63 ∧ z.length * k.toNat ≤ sizeLine ∧ Q (.str (repS z k)) H
end
def rAddX : R2 := fun x y H Q => (rI0 fun i j => .int (i + j)) x y H Q ∨ ((∃ i j, x = .str i ∧ y = .str j ∧ i.length + j.length ≤ sizeLine ∧ Q (.str (i ++ j)) H) ∨ (rCat x y H Q ∨ (∃ i k, x = .int i ∧ y = .bl k ∧ Q (.int (i + b2i k)) H)))
theorem op_addX {X : Cx} : OpR X (binaryOp .Add) rAddX := opOr op_add (opOr op_add_str (opOr op_cat op_add_ib))
def fAdd : D → D → Option D
  | .int i, .int j => some (.int (i + j))
  | .str i, .str j => if i.length + j.length ≤ sizeLine then some (.str (i ++ j)) else none
  | .list xs, .list ys => if xs.length + ys.length ≤ sizeLine then some (.list (xs ++ ys)) else none
  | .int i, .bool k => some (.int (i + b2i k))
  | _, _ => none
def fCat : D → D → Option (List D)
  | .list xs, .list ys => if xs.length + ys.length ≤ sizeLine then some (xs ++ ys) else none
  | _, _ => none
theorem gives_flat {A : Addr → Prop} {H : Hp} {z : D} {v : V} {t : VK → Prop} (r : ∀ H', Rep A H' v z) (h : ∀ Q : VK, Q v H → t Q) : Gives A H z t := fun Q q => h Q (q v H (Ex.refl H) (r H))
theorem givesN_gives {A : Addr → Prop} {H : Hp} {zs : List D} {t : VK → Prop} (dom : ∀ a, A a → ∃ o, H a = some o) (g : GivesN A H zs t) : Gives A H (.list zs) t := fun Q q => g Q fun p vs hp r => q _ _ (Ex.new hp) (.lst (fun z => by
  obtain ⟨o, e⟩ := dom p z
  rw [hp] at e; cases e) upd_same (r.ex (Ex.new hp)))
theorem opCatN : Op2N rAddX fCat := fun A H v w x y z dom hx hy h => by
  unfold fCat at h
  split at h
  · split at h
    · rename_i hl
      cases h
      obtain ⟨a, vs, rfl, h1, r1⟩ := hx.lst
      obtain ⟨b, ws, rfl, h2, r2⟩ := hy.lst
      exact fun Q q => .inr (.inr (.inl ⟨a, b, vs, ws, rfl, rfl, h1, h2, by rw [r1.len, r2.len]; exact hl, fun p hp => q p _ hp (r1.append r2)⟩))
    · cases h
  · cases h
theorem opAdd : Op2 rAddX fAdd := fun A H v w x y z dom hx hy h => by
  unfold fAdd at h
  split at h
  · cases h
    rw [hx.int, hy.int]
    exact gives_flat (fun _ => .int _) fun Q q => .inl ⟨_, _, rfl, rfl, q⟩
  · split at h
    · rename_i hl
      cases h
      rw [hx.str, hy.str]
      exact gives_flat (fun _ => .str _) fun Q q => .inr (.inl ⟨_, _, rfl, rfl, hl, q⟩)
    · cases h
  · rename_i xs ys
    split at h
    · rename_i hl
      cases h
      exact givesN_gives dom (opCatN A H v w _ _ (xs ++ ys) dom hx hy (by unfold fCat; exact if_pos hl))
    · cases h
  · cases h
    rw [hx.int, hy.bl]
    exact gives_flat (fun _ => .int _) fun Q q => .inr (.inr (.inr ⟨_, _, rfl, rfl, q⟩))
  · cases h
def fSub : D → D → Option D
  | .int i, .int j => some (.int (i - j))
  | _, _ => none
theorem opSub : Op2 (rI0 fun i j => .int (i - j)) fSub := fun A H v w x y z dom hx hy h => by
  unfold fSub at h
  split at h
  · cases h
    rw [hx.int, hy.int]
    exact gives_flat (fun _ => .int _) fun Q q => ⟨_, _, rfl, rfl, q⟩
  · cases h
def fMod : D → D → Option D
  | .int i, .int j => if 0 < j then some (.int (i % j)) else none
  | _, _ => none
theorem opMod : Op2 (rI (fun _ j => 0 < j) fun i j => .int (i % j)) fMod := fun A H v w x y z dom hx hy h => by
  unfold fMod at h
  split at h
  · split at h
    · rename_i hj
      cases h
      rw [hx.int, hy.int]
      exact gives_flat (fun _ => .int _) fun Q q => ⟨_, _, rfl, rfl, hj, q⟩
    · cases h
  · cases h
def fDiv : D → D → Option D
  | .int i, .int j => if 0 < j ∧ j.natAbs.log2 < 9000 then some (.int (i / j)) else none
  | _, _ => none
theorem opDiv : Op2 (rI CDivW fun i j => .int (i / j)) fDiv := fun A H v w x y z dom hx hy h => by
  unfold fDiv at h
  split at h
  · split at h
    · rename_i hj
      cases h
      rw [hx.int, hy.int]
      exact gives_flat (fun _ => .int _) fun Q q => ⟨_, _, rfl, rfl, hj, q⟩
    · cases h
  · cases h
def rCmp (p : Int → Int → Bool) (q : List Nat → List Nat → Bool) : R2 := fun x y H Q => (rI0 fun i j => .bl (p i j)) x y H Q ∨ ∃ i j, x = .str i ∧ y = .str j ∧ Q (.bl (q i.cps.toList j.cps.toList)) H
def fCmp (p : Int → Int → Bool) (q : List Nat → List Nat → Bool) : D → D → Option D
  | .int i, .int j => some (.bool (p i j))
  | .str i, .str j => some (.bool (q i.cps.toList j.cps.toList))
  | _, _ => none
theorem opCmp {p : Int → Int → Bool} {q : List Nat → List Nat → Bool} : Op2 (rCmp p q) (fCmp p q) := fun A H v w x y z dom hx hy h => by
  unfold fCmp at h
  split at h
  · cases h
    rw [hx.int, hy.int]
    exact gives_flat (fun _ => .bl _) fun Q q => .inl ⟨_, _, rfl, rfl, q⟩
  · cases h
    rw [hx.str, hy.str]
    exact gives_flat (fun _ => .bl _) fun Q q => .inr ⟨_, _, rfl, rfl, q⟩
  · cases h
abbrev ltI : Int → Int → Bool := fun i j => decide (i < j)
abbrev leI : Int → Int → Bool := fun i j => decide (i ≤ j)
abbrev gtI : Int → Int → Bool := fun i j => decide (j < i)
abbrev geI : Int → Int → Bool := fun i j => decide (j ≤ i)
abbrev ltS : List Nat → List Nat → Bool := fun i j => decide (i < j)
abbrev leS : List Nat → List Nat → Bool := fun i j => !decide (j < i)
abbrev gtS : List Nat → List Nat → Bool := fun i j => decide (j < i)
abbrev geS : List Nat → List Nat → Bool := fun i j => !decide (i < j)

/-! ### data compared -/
mutual
theorem Rep.dp {K : PySem.W.Frag} {A : Addr → Prop} {H : Hp} : ∀ {v : V} {x : D}, Rep A H v x → x.canLay0 = true → Dp K H v x
  | _, _, .non, _ => .non
  | _, _, .bl b, _ => .bl b
  | _, _, .int i, _ => .int i
  | _, _, .str x, _ => .str x
  | _, _, .lst n h r, l => .lst (.inl (.inl h)) (Reps.dp r (by simpa [PyData.canLay0] using l))
  | _, _, .tup n h r, l => .tup (.inl (.inl h)) (Reps.dp r (by simpa [PyData.canLay0] using l))
  | _, _, .dct n h r, l => by simp [PyData.canLay0] at l
theorem Reps.dp {K : PySem.W.Frag} {A : Addr → Prop} {H : Hp} : ∀ {v : List V} {x : List D}, Reps A H v x → PyData.canLayAll0 x = true → DpAll K H v x
  | _, _, .nil, _ => .nil
  | _, _, .cons r rs, l => by
    simp only [PyData.canLayAll0, Bool.and_eq_true] at l
    exact .cons (Rep.dp r l.1) (Reps.dp rs l.2)
end
theorem Vw.dp {K : PySem.W.Frag} {A : Addr → Prop} {H : Hp} {v : V} {x : D} (h : Vw A H v x) (l : SeqAt.shaped x = true) : Dp K H v x := by
  have l0 := SeqAt.canLay_of_shaped l
  rcases h with h | ⟨a, rfl, h⟩
  · exact h.dp l0
  · cases x with
    | list xs =>
      obtain ⟨vs, h1, r⟩ := h
      exact .lst (.inl (.inl h1)) (r.dp (by simpa [PyData.canLay0] using l0))
    | dict xs => simp [PyData.canLay0] at l0
    | _ => exact h.elim
def fEq (x y : D) : Option D := if SeqAt.shaped x = true ∧ SeqAt.shaped y = true then some (.bool (PyData.eqv x y)) else none
def fNe (x y : D) : Option D := if SeqAt.shaped x = true ∧ SeqAt.shaped y = true then some (.bool (!PyData.eqv x y)) else none
theorem opEq {K : PySem.W.Frag} : Op2 (rEqD K) fEq := fun A H v w x y z dom hx hy h => by
  unfold fEq at h
  split at h
  · rename_i l
    cases h
    exact gives_flat (fun _ => .bl _) fun Q q => ⟨x, y, hx.dp l.1, hy.dp l.2, l.1, l.2, q⟩
  · cases h
theorem opNe {K : PySem.W.Frag} : Op2 (rNeD K) fNe := fun A H v w x y z dom hx hy h => by
  unfold fNe at h
  split at h
  · rename_i l
    cases h
    exact gives_flat (fun _ => .bl _) fun Q q => ⟨x, y, hx.dp l.1, hy.dp l.2, l.1, l.2, q⟩
  · cases h
def fInD (neg : Bool) : D → D → Option D
  | d, .list ds => if SeqAt.shaped d = true ∧ SeqAt.shaped (.list ds) = true then some (.bool (if neg then !ds.any fun z => PyData.eqv z d else ds.any fun z => PyData.eqv z d)) else none
  | _, _ => none
theorem opInD {K : PySem.W.Frag} : Op2 (rInD K) (fInD false) := fun A H v w x y z dom hx hy h => by
  unfold fInD at h
  split at h
  · rename_i ds
    split at h
    · rename_i l
      cases h
      exact gives_flat (fun _ => .bl _) fun Q q => ⟨x, ds, hx.dp l.1, hy.dp l.2, l.1, l.2, q⟩
    · cases h
  · cases h
theorem opNotInD {K : PySem.W.Frag} : Op2 (rNotInD K) (fInD true) := fun A H v w x y z dom hx hy h => by
  unfold fInD at h
  split at h
  · rename_i ds
    split at h
    · rename_i l
      cases h
      exact gives_flat (fun _ => .bl _) fun Q q => ⟨x, ds, hx.dp l.1, hy.dp l.2, l.1, l.2, q⟩
    · cases h
  · cases h
def isNoneD : D → Bool
  | .none => true
  | _ => false
def fIsN (neg : Bool) (x y : D) : Option D := match y with
  | .none => some (.bool (if neg then !isNoneD x else isNoneD x))
  | _ => none
theorem isN_val {A : Addr → Prop} {H : Hp} {v : V} {x : D} (h : Vw A H v x) : decide (v = .non) = isNoneD x := by
  cases x with
  | none => rw [h.non]; rfl
  | bool b => rw [h.bl]; rfl
  | int i => rw [h.int]; rfl
  | str s => rw [h.str]; rfl
  | list xs => obtain ⟨a, vs, rfl, _⟩ := h.lst; rfl
  | tuple xs => obtain ⟨a, vs, rfl, _⟩ := h.tup; rfl
  | dict xs => obtain ⟨a, vs, rfl, _⟩ := h.dct; rfl
theorem opIsN : Op2 (fun x y H Q => y = .non ∧ Q (.bl (decide (x = .non))) H) (fIsN false) := fun A H v w x y z dom hx hy h => by
  unfold fIsN at h
  split at h
  · cases h
    refine gives_flat (fun _ => .bl _) fun Q q => ⟨hy.non, ?_⟩
    rw [isN_val hx]
    exact q
  · cases h
theorem opNotN : Op2 (fun x y H Q => y = .non ∧ Q (.bl (!decide (x = .non))) H) (fIsN true) := fun A H v w x y z dom hx hy h => by
  unfold fIsN at h
  split at h
  · cases h
    refine gives_flat (fun _ => .bl _) fun Q q => ⟨hy.non, ?_⟩
    rw [isN_val hx]
    exact q
  · cases h

/-! ### items, slices -/
def fIx : D → D → Option D
  | .list xs, .int i => atI xs i
  | .tuple xs, .int i => atI xs i
  | .str z, .int i => if z.length ≤ sizeLine then ob (atI z.cps.toList i) fun c => some (.str ⟨#[c]⟩) else none
  | _, _ => none
theorem Reps.atI {A : Addr → Prop} {H : Hp} {vs : List V} {xs : List D} {i : Int} {x : D} (r : Reps A H vs xs) (h : L2.atI xs i = some x) : ∃ v, L2.atI vs i = some v ∧ Rep A H v x := by
  unfold L2.atI at h ⊢
  rw [r.len]
  cases e : ixN xs.length i with
  | none => rw [e] at h; cases h
  | some j =>
    rw [e] at h
    exact r.get h
theorem opIx {K : PySem.W.Frag} : Op2 (rIx K) fIx := fun A H v w x y z dom hx hy h => by
  unfold fIx at h
  split at h
  · obtain ⟨a, vs, rfl, h1, r1⟩ := hx.lst
    rw [hy.int]
    obtain ⟨u, e, r⟩ := r1.atI h
    exact fun Q q => .inl ⟨a, vs, _, u, rfl, rfl, .inl (.inl h1), e, q u H (Ex.refl H) r⟩
  · obtain ⟨a, vs, rfl, h1, r1⟩ := hx.tup
    rw [hy.int]
    obtain ⟨u, e, r⟩ := r1.atI h
    exact fun Q q => .inr (.inl ⟨a, vs, _, u, rfl, rfl, .inl (.inl h1), e, q u H (Ex.refl H) r⟩)
  · split at h
    · rename_i hl
      obtain ⟨c, e, h⟩ := of_ob h
      cases h
      rw [hx.str, hy.int]
      exact gives_flat (fun _ => .str _) fun Q q => .inr (.inr ⟨_, _, c, rfl, rfl, hl, e, q⟩)
    · cases h
  · cases h
def cutD (xs : List D) (lo hi : Option Int) : List D := (xs.drop (HT.sIx xs.length 0 lo)).take (HT.sIx xs.length xs.length hi - HT.sIx xs.length 0 lo)
def rSlX (K : PySem.W.Frag) : V → Option Int → Option Int → Hp → VK → Prop := fun x lo hi H Q => rSlL K x lo hi H Q ∨ rSlS x lo hi H Q
theorem sl_X {X : Cx} : SlR X (rSlX X.K) := SlR.or sl_list sl_str
def fSl : D → Option Int → Option Int → Option D
  | .list xs, lo, hi => some (.list (cutD xs lo hi))
  | .str z, lo, hi => if z.length ≤ sizeLine then some (.str (cutS z lo hi)) else none
  | _, _, _ => none
def fSlN : D → Option Int → Option Int → Option (List D)
  | .list xs, lo, hi => some (cutD xs lo hi)
  | _, _, _ => none
theorem Reps.cut {A : Addr → Prop} {H : Hp} {vs : List V} {xs : List D} (r : Reps A H vs xs) (lo hi : Option Int) : Reps A H (cutV vs lo hi) (cutD xs lo hi) := by
  unfold cutV cutD
  rw [r.len]
  exact (r.drop _).take _
theorem opSlN {K : PySem.W.Frag} : OpSN (rSlX K) fSlN := fun A H v x lo hi z dom hx h => by
  unfold fSlN at h
  split at h
  · cases h
    obtain ⟨a, vs, rfl, h1, r1⟩ := hx.lst
    exact fun Q q => .inl ⟨a, vs, rfl, .inl (.inl h1), fun p hp => q p _ hp (r1.cut _ _)⟩
  · cases h
theorem opSl {K : PySem.W.Frag} : OpS (rSlX K) fSl := fun A H v x lo hi z dom hx h => by
  unfold fSl at h
  split at h
  · cases h
    exact givesN_gives dom (opSlN A H v _ lo hi _ dom hx rfl)
  · split at h
    · rename_i hl
      cases h
      rw [hx.str]
      exact gives_flat (fun _ => .str _) fun Q q => .inr ⟨_, rfl, hl, q⟩
    · cases h
  · cases h
end DK
end
section
set_option maxRecDepth 100000
namespace DK
open PySem PySem.Spec PyProof.Rows L2
variable {κ : XI}

/-! ### e[::-1] -/
def revS (z : Str) : Str := ⟨z.cps.toList.reverse.toArray⟩
theorem revS_len (z : Str) : (revS z).length = z.length := by
  show (z.cps.toList.reverse.toArray).size = z.cps.size
  simp
theorem revS_eq (z : Str) (u : Tok) : Txt.sliceBy z none none (-1, u) = revS z := by
  have h := step_rev_list z u
  have e : (List.range z.length).map (fun k => z.cps.getD (z.length - 1 - k) 0) = z.cps.toList.reverse := by
    refine List.ext_getElem? fun i => ?_
    have hz : z.length = z.cps.toList.length := by rw [Array.length_toList]; rfl
    by_cases hi : i < z.length
    · rw [List.getElem?_map, List.getElem?_range hi, List.getElem?_reverse (by rw [← hz]; exact hi), ← hz]
      have : z.length - 1 - i < z.cps.size := by show _ < z.length; omega
      rw [Array.getElem?_toList, Array.getElem?_eq_getElem this]
      simp [Array.getD, this]
    · rw [List.getElem?_eq_none_iff.mpr (by simpa using Nat.le_of_not_lt hi), List.getElem?_eq_none_iff.mpr (by rw [List.length_reverse, ← hz]; omega)]
  rw [e] at h
  unfold revS
  rw [← h]
def rRevX (K : PySem.W.Frag) : V → Hp → VK → Prop := fun x H Q => (∃ a xs, x = .ref a ∧ SqL K H a xs ∧ ∀ p, H p = none → Q (.ref p) (upd H p (.lst xs.reverse))) ∨ ∃ z, x = .str z ∧ z.length ≤ sizeLine ∧ Q (.str (revS z)) H
theorem pe_revX {X : Cx} {e : Expr} {te : TE} {k : Nat} {p1 p2 p3 pos : Pos} (he : PE X e te) : PE X (.Subscript e (.Slice none none (some (.UnaryOp .USub (.Constant (.int 1) k p1) p2)) p3) pos) (tUn (rRevX X.K) te) := by
  refine ⟨fun pins s σ H Q I h => ?_⟩
  refine Subscript_ (thn (he.run pins s σ H _ I h) fun v s1 ⟨x, H1, I1, r1, q1⟩ => ?_)
  have hst : PO X (some (.UnaryOp .USub (.Constant (.int 1) k p1) p2)) (tPart (tUn (rU fun i => .int (-i)) (tC (.int 1)))) := po_some (pe_un un_neg pe_int)
  refine wpAny_Slice (thn (po_none.run pins s1 σ H1 (fun o H2 => o = none ∧ H2 = H1) I1 ⟨rfl, rfl⟩) fun vl s2 ⟨l, H2, I2, pl, el, e2⟩ => ?_)
  subst el e2
  refine thn (po_none.run pins s2 σ H2 (fun o H3 => o = none ∧ H3 = H2) I2 ⟨rfl, rfl⟩) fun vu s3 ⟨u, H3, I3, pu, eu, e3⟩ => ?_
  subst eu e3
  refine thn (hst.run pins s3 σ H3 (fun o H4 => o = some (-1) ∧ H4 = H3) I3 ⟨1, rfl, -1, rfl, rfl, rfl⟩) fun vs s4 ⟨o, H4, I4, ps, eo, e4⟩ => ?_
  subst eo e4
  have I5 : Inv X pins σ H4 { s4 with heap := s4.heap.push { cls := .type "slice", data := .fields #[vl, vu, vs] } } := I4.kept (t' := s4.toks) fun b ob q => Heap.get?_push_of_some _ q
  rcases q1 with ⟨a, xs, ex, hx, q⟩ | ⟨z, ex, hz, q⟩
  · subst ex
    cases r1
    obtain ⟨its, r, ht, hz⟩ := I5.list hx
    have hlen := r.length
    show wpAny (model X.prog X.w) X.A (subscriptTail e (.Slice none none (some (.UnaryOp .USub (.Constant (.int 1) k p1) p2)) p3) (.ref a) (.ref s4.heap.objs.size)) (EP X pins σ Q) X.xe { s4 with heap := s4.heap.push { cls := .type "slice", data := .fields #[vl, vu, vs] } }
    refine tail_any (ops := [.ref a, .ref s4.heap.objs.size]) ht.isList.typeIs (PySem.slot_list_getitem.lookup) ?_ (by with_unfolding_all rfl)
    refine wpAny_getItem_list_slice ht.isList (Heap.IsSliceOf.new _ vl vu vs) pl pu ps (by decide) ?_ (by rw [List.size_toArray]; omega)
    rw [PySem.W.krv_pick]
    refine ⟨.ref _, _, I5.laid (t' := s4.toks) (o := .lst xs.reverse) (fun b ob q => Heap.get?_push_of_some _ q) (Nat.le_refl _) ?_, rfl, q _ (I5.hok.fresh (Nat.le_refl _))⟩
    exact ⟨by rw [List.length_reverse]; exact hz, _, 0, r.reverse, Heap.get?_push_size _ rfl⟩
  · subst ex
    obtain ⟨t, rfl⟩ := r1
    cases pl
    cases pu
    cases ps with
    | int i uk =>
    show wpAny (model X.prog X.w) X.A (subscriptTail e (.Slice none none (some (.UnaryOp .USub (.Constant (.int 1) k p1) p2)) p3) (.str z t) (.ref s4.heap.objs.size)) (EP X pins σ Q) X.xe { s4 with heap := s4.heap.push { cls := .type "slice", data := .fields #[.none, .none, .int (-1) uk] } }
    refine tail_any (ops := [.ref s4.heap.objs.size, .str z t]) (typeIs_str _ _ _) F.slot_str_getitem.lookup ?_ (by with_unfolding_all rfl)
    refine wpAny_getItem_str_slice (l := none) (u := none) (st := some (-1, uk)) ⟨_, Heap.get?_push_size _ rfl, rfl, rfl⟩ rfl ?_
    refine post_val_or_str ⟨Nat.le_trans (Txt.sliceBy_le z _ _ (-1, uk) (by show (-1 : Int) ≠ 0; decide)) hz, fun t' c => ?_⟩
    refine ⟨.str (revS z), H4, I5.tok _, ⟨t', ?_⟩, q⟩
    rw [← revS_eq z uk]
    rfl
def fRev : D → Option D
  | .list xs => some (.list xs.reverse)
  | .str z => if z.length ≤ sizeLine then some (.str (revS z)) else none
  | _ => none
theorem opRev {K : PySem.W.Frag} : Op1 (rRevX K) fRev := fun A H v x z dom hx h => by
  unfold fRev at h
  split at h
  · cases h
    obtain ⟨a, vs, rfl, h1, r1⟩ := hx.lst
    exact givesN_gives dom fun Q q => .inl ⟨a, vs, rfl, .inl (.inl h1), fun p hp => q p _ hp r1.rev⟩
  · split at h
    · rename_i hl
      cases h
      rw [hx.str]
      exact gives_flat (fun _ => .str _) fun Q q => .inr ⟨_, rfl, hl, q⟩
    · cases h
  · cases h

/-! ### list(range(a, b, c)) -/
def rLr (f : List V → Option (Int × Int × Nat)) : List V → Hp → VK → Prop := fun vs H Q => ∃ a c n, f vs = some (a, c, n) ∧ ∀ p, H p = none → Q (.ref p) (upd H p (.lst ((List.range n).map fun (i : Nat) => V.int (a + (i : Int) * c))))
def RgL (i j c : Int) (n : Nat) : Prop := RgC i j c n ∧ n ≤ 2 ^ 24
def tLrg (ta : TA) : TE := fun σ H Q => ta σ H fun vs H1 => ∃ (i j c : Int) (n : Nat), (vs = [.int j] ∧ i = 0 ∧ c = 1 ∨ vs = [.int i, .int j] ∧ c = 1 ∨ vs = [.int i, .int j, .int c]) ∧ RgL i j c n ∧ ∀ p, H1 p = none → Q (.ref p) (upd H1 p (.lst ((List.range n).map fun (k : Nat) => V.int (i + (k : Int) * c))))
theorem vals_rgC {a c : Int} {n : Nat} {acc : Array Value} (h : ItemsOf (fun i v => ∃ t, v = .int (a + i * c) t) acc n) : Vals ((List.range n).map fun (k : Nat) => V.int (a + (k : Int) * c)) acc.toList := by
  have e : acc.toList.length = n := by rw [Array.length_toList]; exact h.1
  rw [← e]
  refine vals_of_get acc.toList _ fun j u hj => ?_
  obtain ⟨t, rfl⟩ := h.2 j u (by rw [← hj, Array.getElem?_toList])
  exact ⟨t, rfl⟩
theorem list_rg {X : Cx} {pins : List (Addr × Obj)} {σ : L2.St} {H : Hp} {s : Shared} {Q : VK} {r : Addr} {i j c : Int} {n : Nat} {t u v : Tok} (hc : X.calm = true) (hr : IsRange s.heap r i j c t u v) (I : Inv X pins σ H s) (ok : RgL i j c n)
    (q : ∀ p, H p = none → Q (.ref p) (upd H p (.lst ((List.range n).map fun (k : Nat) => V.int (i + (k : Int) * c))))) : wpAny (model X.prog X.w) X.A (call (.type "list") [.ref r]) (EP X pins σ Q) X.xe s := by
  obtain ⟨⟨c0, c1, c2, c3⟩, c4⟩ := ok
  refine call_list_range (n := n) (I.ok.hd hc) hr c2 c3 c4 fun h' tk acc c' hk e' hi => ?_
  refine ⟨.ref s.heap.objs.size, upd H s.heap.objs.size (.lst _), I.laid hk (Nat.le_refl _) (show ObjOk X.prog X.w _ _ _ (.lst _) from ⟨?_, acc.toList, c', vals_rgC hi, ?_⟩), rfl, q _ (I.hok.fresh (Nat.le_refl _))⟩
  · rw [List.length_map, List.length_range, sizeLine_eq]; omega
  · rw [Array.toArray_toList]; exact e'
section
variable {X : Cx} {p q pos pos2 : Pos}
theorem pe_lrg {args : List Expr} {ta : TA} (hc : X.calm = true) (hg : Gl X "list") (hm : X.mg "list" = none) (hg2 : Gl X "range") (hm2 : X.mg "range" = none) (ha : PA X args ta) (hargs : args ≠ [])
    (hs : ∀ a r, args = a :: r → starEach args X.env = (false, eval a X.env) :: starEach r X.env) (hp : ∀ a r, args = a :: r → (backTo pos2 (starEach r X.env)).any (·.1) = false)
    (na : starEach [.Call (.Name "range" q) args [] pos2] X.env = (false, eval (.Call (.Name "range" q) args [] pos2) X.env) :: starEach [] X.env := by rfl) :
    PE X (.Call (.Name "list" p) [.Call (.Name "range" q) args [] pos2] [] pos) (tLrg ta) := by
  refine ⟨fun pins s σ H Q I h => ?_⟩
  cases args with
  | nil => exact absurd rfl hargs
  | cons a rest =>
  refine Call_ (ld_blt I hg hm boot_list (PyProof.Rows.callWith_type1 (args_cons (Call_ (ld_blt I hg2 hm2 boot_range (PyProof.Rows.callWith_type1 (thn (ha.run pos2 pins s σ H _ I h) fun us s1 ⟨vs, H1, I1, r1, q1⟩ => ?_) (hs a rest rfl) (hp a rest rfl)))) na) na))
  obtain ⟨i, j, c, n, hv, ok, q1⟩ := q1
  obtain ⟨⟨c0, c1, c2, c3⟩, c4⟩ := id ok
  have I2 : ∀ (tk : Nat) (ob : Obj), Inv X pins σ H1 { s1 with heap := s1.heap.push ob, toks := tk } := fun tk ob => I1.kept fun b o e => Heap.get?_push_of_some _ e
  rcases hv with ⟨rfl, rfl, rfl⟩ | ⟨rfl, rfl⟩ | rfl
  · cases r1 with
    | cons r rr =>
      cases rr
      obtain ⟨t, rfl⟩ := r
      exact call_range_1 (args_nil (list_rg hc (IsRange.new _ _ _ _ _ _ _) (I2 _ _) ok q1))
  · cases r1 with
    | cons r rr =>
      cases rr with
      | cons r' rr =>
        cases rr
        obtain ⟨t, rfl⟩ := r
        obtain ⟨t', rfl⟩ := r'
        exact call_range_2 (args_nil (list_rg hc (IsRange.new _ _ _ _ _ _ _) (I2 _ _) ok q1))
  · cases r1 with
    | cons r rr =>
      cases rr with
      | cons r' rr =>
        cases rr with
        | cons r'' rr =>
          cases rr
          obtain ⟨t, rfl⟩ := r
          obtain ⟨t', rfl⟩ := r'
          obtain ⟨t'', rfl⟩ := r''
          exact call_range_3 c0 (args_nil (list_rg hc (IsRange.new _ _ _ _ _ _ _) (I2 _ _) ok q1)) (.inl (PyProof.noPylong_small c1))
end
def rngL (i j c : Int) : Option (List D) := if small i = true ∧ small j = true ∧ c ≠ 0 ∧ c.natAbs < 1073741824 ∧ Builtin.Range.small i j c = true ∧ Builtin.Range.rangeSize i j c = (Builtin.Range.rangeSize i j c).toNat ∧ (Builtin.Range.rangeSize i j c).toNat ≤ 2 ^ 24 then some (rowI i c (Builtin.Range.rangeSize i j c).toNat) else none
def lrg : List D → Option (List D)
  | [.int j] => rngL 0 j 1
  | [.int i, .int j] => rngL i j 1
  | [.int i, .int j, .int k] => rngL i j k
  | _ => none
theorem rngL_ok {i j c : Int} {zs : List D} (h : rngL i j c = some zs) : ∃ n, RgL i j c n ∧ zs = rowI i c n := by
  unfold rngL at h
  split at h
  · rename_i hs
    cases h
    exact ⟨_, ⟨⟨hs.2.2.1, hs.2.2.2.1, hs.2.2.2.2.1, hs.2.2.2.2.2.1⟩, hs.2.2.2.2.2.2⟩, rfl⟩
  · cases h
theorem reps_rowI {A : Addr → Prop} {H : Hp} {i c : Int} : ∀ (l : List Nat), Reps A H (l.map fun (k : Nat) => V.int (i + (k : Int) * c)) (l.map fun (k : Nat) => PyData.int (i + (k : Int) * c))
  | [] => .nil
  | _ :: r => .cons (.int _) (reps_rowI r)
def rLrg (a : AR) : ER := fun d => bd (a d) fun xs d1 => ob (lrg xs) fun zs => some (.list zs, d1)
theorem simLrg {ta : TA} {a : AR} (sa : SimA κ ta a) : SimN κ (tLrg ta) (rLrg a) := fun c σ H d own R x d' h Q q => by
  obtain ⟨xs, d1, e, h⟩ := of_bd h
  obtain ⟨zs, e2, h⟩ := of_ob h
  cases h
  refine sa c σ H d own R xs _ e _ fun vs H1 own1 S rs => ?_
  have fin : ∀ {i j k : Int}, rngL i j k = some zs → (vs = [.int j] ∧ i = 0 ∧ k = 1 ∨ vs = [.int i, .int j] ∧ k = 1 ∨ vs = [.int i, .int j, .int k]) →
      ∃ (i j c : Int) (n : Nat), (vs = [.int j] ∧ i = 0 ∧ c = 1 ∨ vs = [.int i, .int j] ∧ c = 1 ∨ vs = [.int i, .int j, .int c]) ∧ RgL i j c n ∧ ∀ p, H1 p = none → Q (.ref p) (upd H1 p (.lst ((List.range n).map fun (k : Nat) => V.int (i + (k : Int) * c)))) := fun {i j k} hr hv => by
    obtain ⟨n, ok, rfl⟩ := rngL_ok hr
    exact ⟨i, j, k, n, hv, ok, end_opN R S (t := fun Q => ∀ p, H1 p = none → Q (.ref p) (upd H1 p (.lst ((List.range n).map fun (m : Nat) => V.int (i + (m : Int) * k))))) (fun Q q p hp => q p _ hp (reps_rowI _)) q⟩
  unfold lrg at e2
  split at e2
  · cases rs with
    | cons r rs =>
      cases rs
      cases r
      exact fin e2 (.inl ⟨rfl, rfl, rfl⟩)
  · cases rs with
    | cons r rs =>
      cases rs with
      | cons r' rs =>
        cases rs
        cases r
        cases r'
        exact fin e2 (.inr (.inl ⟨rfl, rfl⟩))
  · cases rs with
    | cons r rs =>
      cases rs with
      | cons r' rs =>
        cases rs with
        | cons r'' rs =>
          cases rs
          cases r
          cases r'
          cases r''
          exact fin e2 (.inr (.inr rfl))
  · cases e2

/-! ### for x in e: a list, a tuple or a text -/
def iAny (K : PySem.W.Frag) (tl : TE) : TI := fun σ H R => tl σ H fun x H1 => (∃ a, x = .ref a ∧ (∃ xs, SqL K H1 a xs) ∧ R (Itl K a) H1) ∨ (∃ a, x = .ref a ∧ (∃ xs, SqT K H1 a xs) ∧ R (Itt K a) H1) ∨ ∃ z, x = .str z ∧ R (Its z) H1
theorem pi_any {X : Cx} {tg e : Expr} {te : TE} (he : PE X e te) : PI X tg e (iAny X.K te) := by
  refine ⟨fun pins s σ H R I h => ?_⟩
  refine thn (he.run pins s σ H _ I h) fun v s1 ⟨x, H1, I1, r1, q1⟩ => ?_
  have pv : PE X e (fun σ' H' Q => te σ' H' Q) := he
  rcases q1 with ⟨a, ex, ⟨xs, hq⟩, q⟩ | ⟨a, ex, ⟨xs, hq⟩, q⟩ | ⟨z, ex, q⟩
  · subst ex
    cases r1
    obtain ⟨its, rv, p, hz⟩ := I1.list hq
    refine wpAny_pyIter_list p.isList ?_
    refine ⟨s1.heap.objs.size, [s1.heap.objs.size], _, _, H1, rfl, I1.kept (t' := s1.toks) fun b o e => Heap.get?_push_of_some _ e, turn_list a _, ⟨_, Heap.get?_push_size _ rfl, rfl, rfl⟩, fun b hb => ?_, q⟩
    have e : b = s1.heap.objs.size := by simpa using hb
    subst e
    exact I1.fpOk (Nat.le_refl _) (I1.hok.fresh (Nat.le_refl _))
  · subst ex
    cases r1
    obtain ⟨its, rv, p, hz⟩ := I1.tuple hq
    refine wpAny_pyIter_tuple (show s1.heap.IsTuple a its.toArray from p) ?_
    refine ⟨s1.heap.objs.size, [s1.heap.objs.size], _, _, H1, rfl, I1.kept (t' := s1.toks) fun b o e => Heap.get?_push_of_some _ e, turn_tuple a _, ⟨_, Heap.get?_push_size _ rfl, rfl, rfl⟩, fun b hb => ?_, q⟩
    have e : b = s1.heap.objs.size := by simpa using hb
    subst e
    exact I1.fpOk (Nat.le_refl _) (I1.hok.fresh (Nat.le_refl _))
  · subst ex
    obtain ⟨t, rfl⟩ := r1
    cases ha : z.cps.all (· < 128)
    · exact wpAny_pyIter_wide ha (pi_one (tk := s1.toks) I1 _ (turn_str _ z t "str_iterator" (.inr rfl)) ⟨_, Heap.get?_push_size _ rfl, rfl, rfl⟩ q)
    · exact wpAny_pyIter_ascii ha (pi_one (tk := s1.toks) I1 _ (turn_str _ z t "str_ascii_iterator" (.inl rfl)) ⟨_, Heap.get?_push_size _ rfl, rfl, rfl⟩ q)
def itemsOf : D → Option (List D)
  | .list xs => some xs
  | .tuple xs => some xs
  | .str z => some (chars z)
  | _ => none
def iX (a : ER) : IR := fun d => bd (a d) fun x d1 => ob (itemsOf x) fun xs => some (xs, d1)
theorem simIX {K : PySem.W.Frag} {te : TE} {a : ER} (sa : SimE κ te a) : SimI κ (iAny K te) (iX a) := fun c σ H d own R xs d' h Q q => by
  obtain ⟨x, d1, e, h⟩ := of_bd h
  obtain ⟨ys, e2, h⟩ := of_ob h
  cases h
  cases x with
  | list zs =>
    cases e2
    refine sa c σ H d own R _ _ e _ fun v H1 own1 S r => ?_
    cases r with
    | lst na hv rs => exact .inl ⟨_, rfl, ⟨_, .inl (.inl hv)⟩, q _ H1 own1 S (walkList na hv rs)⟩
  | tuple zs =>
    cases e2
    refine sa c σ H d own R _ _ e _ fun v H1 own1 S r => ?_
    cases r with
    | @tup a vs _ na hv rs =>
      refine .inr (.inl ⟨_, rfl, ⟨_, .inl (.inl hv)⟩, q _ H1 own1 S ?_⟩)
      have hid : hide own1 H1 a = some (.tup vs) := by rw [hide_not fun z => na (.inr z)]; exact hv
      refine ⟨⟨fun H => SqT K H a vs, YAt vs, by rw [← rs.len]; exact walk_tup, fun c' σ2 H2 d2 own2 e0 ef R2 => .inl (.inl (R2.keep a _ (by rw [e0]; exact hid) (by rw [ef]; intro z; cases z))), ?_⟩⟩
      rintro i x c' σ2 H2 d2 own2 v H3 e0 ef hO R2 hx ⟨rfl, hv⟩
      obtain ⟨v', h1, r1⟩ := rs.get hx
      rw [hv] at h1
      cases h1
      exact ⟨Ex.refl _, r1.tr fun b o n z => later e0 ef hO R2 n z⟩
  | str s =>
    cases e2
    refine sa c σ H d own R _ _ e _ fun v H1 own1 S r => ?_
    cases r
    refine .inr (.inr ⟨s, rfl, q _ H1 own1 S ⟨⟨fun _ => True, _, by rw [chars_len]; exact walk_str, fun _ _ _ _ _ _ _ _ => trivial, ?_⟩⟩⟩)
    rintro i x c' σ2 H2 d2 own2 v H3 e0 ef hO R2 hx ⟨rfl, cc, h1, rfl⟩
    refine ⟨Ex.refl _, ?_⟩
    have e2 : s.cps.toList[i]? = some cc := by rw [Array.getElem?_toList]; exact h1
    have e3 : (chars s)[i]? = some (.str ⟨#[cc]⟩) := by
      unfold chars
      rw [List.getElem?_map, e2]
      rfl
    rw [e3] at hx
    cases hx
    exact .str _
  | _ => cases e2
end DK
end
section
set_option maxRecDepth 100000
namespace DK
open PySem PySem.Spec PyProof.Rows L2
variable {κ : XI}

/-! ### dicts -/
def keyOf : D → Option Key
  | .int i => some (.inl i)
  | .str x => some (.inr x)
  | _ => none
theorem keyOf_kD {x : D} {k : Key} (h : keyOf x = some k) : x = kD k := by
  unfold keyOf at h
  split at h <;> cases h <;> rfl
theorem vw_key {A : Addr → Prop} {H : Hp} {v : V} {x : D} {k : Key} (r : Vw A H v x) (h : keyOf x = some k) : v = kV k := by
  rw [keyOf_kD h] at r
  cases k with
  | inl i => exact r.int
  | inr s => exact r.str
def isKey (k : Key) (x : D) : Bool := match k, x with
  | .inl i, .int j => i == j
  | .inr s, .str t => decide (s = t)
  | _, _ => false
theorem isKey_kD (k j : Key) : isKey k (kD j) = decide (j = k) := by
  cases k with
  | inl a => cases j with
    | inl b => rw [key_ll]; show (a == b) = (b == a); exact Bool.eq_iff_iff.mpr ⟨fun h => by simp at h ⊢; exact h.symm, fun h => by simp at h ⊢; exact h.symm⟩
    | inr b => rw [key_rl]; rfl
  | inr a => cases j with
    | inl b => rw [key_lr]; rfl
    | inr b => rw [key_rr]; show decide (a = b) = decide (b = a); exact decide_eq_decide.mpr eq_comm
def getD' (es : List (D × D)) (k : Key) : Option D := (es.find? fun e => isKey k e.1).map (·.2)
def putD (es : List (D × D)) (k : Key) (x : D) : List (D × D) := if (es.any fun e => isKey k e.1) = true then es.map (fun e => if isKey k e.1 = true then (e.1, x) else e) else es ++ [(kD k, x)]
section
variable {A : Addr → Prop} {H : Hp}
theorem RepKs.find : ∀ {kvs : List (Key × V)} {es : List (D × D)} (k : Key), RepKs A H kvs es → (getD' es k = none ∧ valV kvs k = none) ∨ ∃ v x, getD' es k = some x ∧ valV kvs k = some v ∧ Rep A H v x
  | _, _, k, .nil => .inl ⟨rfl, rfl⟩
  | (j, v) :: kvs, (_, x) :: es, k, .cons r t => by
    by_cases e : j = k
    · right
      refine ⟨v, x, ?_, ?_, r⟩
      · unfold getD'
        rw [List.find?_cons_of_pos (by rw [isKey_kD]; exact decide_eq_true e)]
        rfl
      · exact valV_pos e
    · have ih := RepKs.find k t
      have e1 : getD' ((kD j, x) :: es) k = getD' es k := by
        unfold getD'
        rw [List.find?_cons_of_neg (by rw [isKey_kD, decide_eq_false e]; decide)]
      have e2 : valV ((j, v) :: kvs) k = valV kvs k := valV_neg e
      rw [e1, e2]
      exact ih
theorem RepKs.any : ∀ {kvs : List (Key × V)} {es : List (D × D)} (k : Key), RepKs A H kvs es → (es.any fun e => isKey k e.1) = kvs.any fun kv => decide (kv.1 = k)
  | _, _, k, .nil => rfl
  | (j, v) :: kvs, (_, x) :: es, k, .cons r t => by
    rw [List.any_cons, List.any_cons, RepKs.any k t, isKey_kD]
theorem RepKs.mapPut : ∀ {kvs : List (Key × V)} {es : List (D × D)} (k : Key) {v : V} {x : D}, RepKs A H kvs es → Rep A H v x → RepKs A H (kvs.map fun kv => if kv.1 = k then (kv.1, v) else kv) (es.map fun e => if isKey k e.1 = true then (e.1, x) else e)
  | _, _, k, v, x, .nil, _ => .nil
  | (j, w) :: kvs, (_, y) :: es, k, v, x, .cons r t, q => by
    have ih := RepKs.mapPut k t q
    rw [List.map_cons, List.map_cons]
    by_cases e : j = k
    · rw [if_pos e, if_pos (by rw [isKey_kD]; exact decide_eq_true e)]
      exact .cons q ih
    · rw [if_neg e, if_neg (by rw [isKey_kD, decide_eq_false e]; decide)]
      exact .cons r ih
theorem RepKs.append : ∀ {kvs kws : List (Key × V)} {es fs : List (D × D)}, RepKs A H kvs es → RepKs A H kws fs → RepKs A H (kvs ++ kws) (es ++ fs)
  | _, _, _, _, .nil, s => s
  | _, _, _, _, .cons r t, s => .cons r (RepKs.append t s)
theorem RepKs.put {kvs : List (Key × V)} {es : List (D × D)} {k : Key} {v : V} {x : D} (r : RepKs A H kvs es) (q : Rep A H v x) : RepKs A H (putK kvs k v) (putD es k x) := by
  unfold putK putD
  rw [r.any k]
  by_cases e : (kvs.any fun kv => decide (kv.1 = k)) = true
  · rw [if_pos e, if_pos e]
    exact r.mapPut k q
  · rw [if_neg e, if_neg e]
    exact r.append (.cons q .nil)
end
/-- {} -/
def rDNew : ER := fun d => some (.dict [], d)
theorem simDNew : SimN κ tDNewK rDNew := fun c σ H d own R x d' h Q q p hp => by
  cases h
  refine q p (upd H p (.dK [])) own ?_ ⟨?_, ?_⟩ ⟨[], upd_same, .nil⟩
  · refine R.enter.more (Ex.new hp) (fun a z => .inl z) (fun a z => z.elim .inl fun e => .inr (by rw [e]; exact hp)) fun a z => ?_
    rcases z with z | z
    · obtain ⟨o, e⟩ := R.dom a z
      exact ⟨o, Ex.new hp a o e⟩
    · exact ⟨_, by rw [z]; exact upd_same⟩
  · intro z
    obtain ⟨o, e⟩ := R.dom p z
    rw [hp] at e; cases e
  · cases z : hide own H p with
    | none => rfl
    | some o => rw [(of_hide z).1] at hp; cases hp
/-- d[k] -/
def rDGet (a b : BR) : ER := fun d => bd (a d) fun x d1 => bd (b d1) fun y d2 => ob (x.get d2) fun u => ob (y.get d2) fun w => match u with
  | .dict es => ob (keyOf w) fun k => ob (getD' es k) fun z => some (z, d2)
  | _ => none
theorem simDGet {td ty : TE} {a b : BR} (sa : SimB κ td a) (sb : SimB κ ty b) : SimE κ (tDGet td ty) (rDGet a b) := fun c σ H d own R x d' h Q q => by
  obtain ⟨x1, d1, e1, h⟩ := of_bd h
  obtain ⟨x2, d2, e2, h⟩ := of_bd h
  obtain ⟨u, e3, h⟩ := of_ob h
  obtain ⟨w, e4, h⟩ := of_ob h
  cases u with
  | dict es =>
    obtain ⟨k, e5, h⟩ := of_ob h
    obtain ⟨z, e6, h⟩ := of_ob h
    cases h
    refine sa c σ H d own R x1 d1 e1 _ fun v1 H1 own1 S1 b1 => sb c σ H1 d1 own1 (R.leave S1) x2 _ e2 _ fun v2 H2 own2 S2 b2 => ?_
    have R2 := R.leave (S1.leave S2)
    obtain ⟨p, kvs, rfl, hp, rk⟩ := ((b1.carry (R.leave S1) S2).vw R2 e3).dct
    have ek := vw_key (b2.vw R2 e4) e5
    rcases rk.find k with ⟨n, _⟩ | ⟨v, x, h1, h2, r⟩
    · rw [n] at e6; cases e6
    · rw [h1] at e6
      cases e6
      exact ⟨p, v, rfl, by rw [ek, ← h2]; exact DGet.k hp, q v H2 own2 (S1.leave S2) r⟩
  | _ => cases h
/-- d.get(k), d.get(k, x) -/
def rDGet1 (a b : BR) : ER := fun d => bd (a d) fun x d1 => match x.get d1 with
  | some (.dict _) => bd (b d1) fun y d2 => ob (x.get d2) fun u => ob (y.get d2) fun w => match u with
    | .dict es => ob (keyOf w) fun k => some ((getD' es k).getD .none, d2)
    | _ => none
  | _ => none
theorem simDGet1 {td ty : TE} {a b : BR} (sa : SimB κ td a) (sb : SimB κ ty b) : SimE κ (tDGet1 td ty) (rDGet1 a b) := fun c σ H d own R x d' h Q q => by
  obtain ⟨x1, d1, e1, h⟩ := of_bd h
  split at h
  · rename_i es0 e0
    obtain ⟨x2, d2, e2, h⟩ := of_bd h
    obtain ⟨u, e3, h⟩ := of_ob h
    obtain ⟨w, e4, h⟩ := of_ob h
    split at h
    · rename_i es
      obtain ⟨k, e5, h⟩ := of_ob h
      cases h
      refine sa c σ H d own R x1 d1 e1 _ fun v1 H1 own1 S1 b1 => ?_
      obtain ⟨p0, kvs0, rfl, hp0, _⟩ := (b1.vw (R.leave S1) e0).dct
      refine ⟨p0, rfl, .inl ⟨kvs0, .inl hp0⟩, sb c σ H1 d1 own1 (R.leave S1) x2 _ e2 _ fun v2 H2 own2 S2 b2 => ?_⟩
      have R2 := R.leave (S1.leave S2)
      obtain ⟨p, kvs, ep, hp, rk⟩ := ((b1.carry (R.leave S1) S2).vw R2 e3).dct
      cases ep
      have ek := vw_key (b2.vw R2 e4) e5
      refine ⟨valV kvs k, by rw [ek]; exact DGet.k hp, ?_⟩
      rcases rk.find k with ⟨n, n2⟩ | ⟨v, x, h1, h2, r⟩
      · rw [n2]
        refine q _ H2 own2 (S1.leave S2) ?_
        rw [n]
        exact .non
      · rw [h2]
        refine q _ H2 own2 (S1.leave S2) ?_
        rw [h1]
        exact r
    · cases h
  · cases h
def rDGet2 (a b : BR) (e : ER) : ER := fun d => bd (a d) fun x d1 => match x.get d1 with
  | some (.dict _) => bd (b d1) fun y d2 => bd (e d2) fun z d3 => ob (x.get d3) fun u => ob (y.get d3) fun w => match u with
    | .dict es => ob (keyOf w) fun k => some ((getD' es k).getD z, d3)
    | _ => none
  | _ => none
theorem simDGet2 {td ty tx : TE} {a b : BR} {e : ER} (sa : SimB κ td a) (sb : SimB κ ty b) (se : SimE κ tx e) : SimE κ (tDGet2 td ty tx) (rDGet2 a b e) := fun c σ H d own R x d' h Q q => by
  obtain ⟨x1, d1, e1, h⟩ := of_bd h
  split at h
  · rename_i es0 e0
    obtain ⟨x2, d2, e2, h⟩ := of_bd h
    obtain ⟨zz, d3, e9, h⟩ := of_bd h
    obtain ⟨u, e3, h⟩ := of_ob h
    obtain ⟨w, e4, h⟩ := of_ob h
    split at h
    · rename_i es
      obtain ⟨k, e5, h⟩ := of_ob h
      cases h
      refine sa c σ H d own R x1 d1 e1 _ fun v1 H1 own1 S1 b1 => ?_
      obtain ⟨p0, kvs0, rfl, hp0, _⟩ := (b1.vw (R.leave S1) e0).dct
      refine ⟨p0, rfl, .inl ⟨kvs0, .inl hp0⟩, sb c σ H1 d1 own1 (R.leave S1) x2 _ e2 _ fun v2 H2 own2 S2 b2 => se c σ H2 d2 own2 (R.leave (S1.leave S2)) zz _ e9 _ fun v3 H3 own3 S3 r3 => ?_⟩
      have R3 := R.leave ((S1.leave S2).leave S3)
      obtain ⟨p, kvs, ep, hp, rk⟩ := (((b1.carry (R.leave S1) S2).carry (R.leave (S1.leave S2)) S3).vw R3 e3).dct
      cases ep
      have ek := vw_key ((b2.carry (R.leave (S1.leave S2)) S3).vw R3 e4) e5
      refine ⟨valV kvs k, by rw [ek]; exact DGet.k hp, ?_⟩
      rcases rk.find k with ⟨n, n2⟩ | ⟨v, x, h1, h2, r⟩
      · rw [n2]
        refine q _ H3 own3 ((S1.leave S2).leave S3) ?_
        rw [n]
        exact r3
      · rw [h2]
        refine q _ H3 own3 ((S1.leave S2).leave S3) ?_
        rw [h1]
        exact r
    · cases h
  · cases h
/-- d[k] = e, d an owned dict -/
def sDPutR (i : Nat) (b : BR) (a : ER) : SR := fun d => bd (a d) fun x d1 => ob (slotD d1[i]?) fun _ => bd (b d1) fun y d2 => ob (y.get d2) fun u => ob (keyOf u) fun k => match d2[i]? with
  | some (.ow (.dict es)) => if es.length < sizeLine then some (.nx (d2.set i (.ow (.dict (putD es k x))))) else none
  | _ => none
theorem simDPut {i : Nat} {te ti : TE} {a : ER} {b : BR} (sb : SimB κ ti b) (sa : SimE κ te a) : SimS κ (sDPut (tVar i) ti te) (sDPutR i b a) := fun c σ H d own R o h De p => by
  obtain ⟨x, d1, e, h⟩ := of_bd h
  obtain ⟨_, e9, h⟩ := of_ob h
  obtain ⟨y, d2, e2, h⟩ := of_bd h
  obtain ⟨u, e3, h⟩ := of_ob h
  obtain ⟨k, e4, h⟩ := of_ob h
  split at h
  · rename_i es e1
    split at h
    · rename_i hl
      cases h
      refine sa c σ H d own R x _ e _ fun v H1 own1 S r => ?_
      have R1 := R.leave S
      obtain ⟨w, σi⟩ := slot_some R1 e9
      refine ⟨w, σi, sb c σ H1 d1 own1 R1 y _ e2 _ fun v2 H2 own2 S2 r2 => ?_⟩
      have R2 := R1.leave S2
      obtain ⟨a1, o1, s1, kvs, hv, rs⟩ := R2.slot i _ e1
      rw [σi] at s1
      cases s1
      have ek := vw_key (r2.vw R2 e3) e4
      refine ⟨a1, upd H2 a1 (.dK (putK kvs k v)), rfl, by rw [ek]; exact DPut.k hv (by rw [rs.len]; exact hl), p σ _ own2 (R2.write (by rw [e1]; rfl) o1 (R2.out i a1 o1) σi ⟨_, upd_same, ?_⟩)⟩
      have t : ∀ b o', ¬ Av c own2 b → H2 b = some o' → ¬ Av c own2 b ∧ upd H2 a1 (.dK (putK kvs k v)) b = some o' := fun b o' n z => ⟨n, by rw [upd_ne (fun e => n (.inr ⟨i, by rw [e]; exact o1⟩))]; exact z⟩
      exact RepKs.put (rs.tr t) ((S2.carry r).tr t)
    · cases h
  · cases h

/-! ### in -/
def rDIn (neg : Bool) : R2 := fun y x H Q => ∃ a o, x = .ref a ∧ DGet H a y o ∧ Q (.bl (if neg then !o.isSome else o.isSome)) H
theorem op_dIn {X : Cx} (hu : X.A.units + 1 < cLine) : OpR X (compareOp .In) (rDIn false) := by
  intro pins s σ H x y v u Q I rx ry h
  obtain ⟨a, o, rfl, g, q⟩ := h
  obtain rfl : u = Value.ref a := ry
  exact d_in hu I g rx fun s3 I3 => ⟨.bl o.isSome, H, I3, rfl, q⟩
theorem op_dNotIn {X : Cx} (hu : X.A.units + 1 < cLine) : OpR X (compareOp .NotIn) (rDIn true) := by
  intro pins s σ H x y v u Q I rx ry h
  obtain ⟨a, o, rfl, g, q⟩ := h
  obtain rfl : u = Value.ref a := ry
  exact d_notIn hu I g rx fun s3 I3 => ⟨.bl (!o.isSome), H, I3, rfl, q⟩
def rSIn (neg : Bool) : R2 := fun x y H Q => ∃ (c : Nat) (z : Str), x = .str ⟨#[c]⟩ ∧ y = .str z ∧ Q (.bl (if neg then !decide (c ∈ z.cps.toList) else decide (c ∈ z.cps.toList))) H
def rInX (K : PySem.W.Frag) : R2 := fun x y H Q => rInD K x y H Q ∨ (rDIn false x y H Q ∨ rSIn false x y H Q)
def rNotInX (K : PySem.W.Frag) : R2 := fun x y H Q => rNotInD K x y H Q ∨ (rDIn true x y H Q ∨ rSIn true x y H Q)
theorem op_inX {X : Cx} (hu : X.A.units + 65 < cLine) : OpR X (compareOp .In) (rInX X.K) := opOr (op_inD hu) (opOr (op_dIn (Nat.lt_of_le_of_lt (by omega) hu)) op_in_sign)
theorem op_notInX {X : Cx} (hu : X.A.units + 65 < cLine) : OpR X (compareOp .NotIn) (rNotInX X.K) := opOr (op_notInD hu) (opOr (op_dNotIn (Nat.lt_of_le_of_lt (by omega) hu)) op_notIn_sign)
def oneCh : D → Option Nat
  | .str z => match z.cps.toList with
    | [c] => some c
    | _ => none
  | _ => none
theorem oneCh_eq {x : D} {c : Nat} (h : oneCh x = some c) : x = .str ⟨#[c]⟩ := by
  unfold oneCh at h
  split at h
  · rename_i z
    split at h
    · rename_i c' e
      cases h
      obtain ⟨l⟩ := z
      obtain ⟨l⟩ := l
      cases e
      rfl
    · cases h
  · cases h
def fIn (neg : Bool) (x y : D) : Option D := match y with
  | .list ds => fInD neg x (.list ds)
  | .dict es => ob (keyOf x) fun k => some (.bool (if neg then !(getD' es k).isSome else (getD' es k).isSome))
  | .str z => ob (oneCh x) fun c => some (.bool (if neg then !decide (c ∈ z.cps.toList) else decide (c ∈ z.cps.toList)))
  | _ => none
theorem find_isSome {A : Addr → Prop} {H : Hp} {kvs : List (Key × V)} {es : List (D × D)} (r : RepKs A H kvs es) (k : Key) : (valV kvs k).isSome = (getD' es k).isSome := by
  rcases r.find k with ⟨n, n2⟩ | ⟨v, x, h1, h2, r⟩
  · rw [n, n2]; rfl
  · rw [h1, h2]; rfl
theorem opIn {K : PySem.W.Frag} : Op2 (rInX K) (fIn false) := fun A H v w x y z dom hx hy h => by
  unfold fIn at h
  split at h
  · have g := opInD (K := K) A H v w x _ z dom hx hy h
    exact fun Q q => .inl (g Q q)
  · obtain ⟨k, e, h⟩ := of_ob h
    cases h
    obtain ⟨a, kvs, rfl, h1, r⟩ := hy.dct
    rw [vw_key hx e]
    refine gives_flat (fun _ => .bl _) fun Q q => .inr (.inl ⟨a, valV kvs k, rfl, DGet.k h1, ?_⟩)
    rw [find_isSome r k]
    exact q
  · obtain ⟨c, e, h⟩ := of_ob h
    cases h
    rw [oneCh_eq e] at hx
    rw [hx.str, hy.str]
    exact gives_flat (fun _ => .bl _) fun Q q => .inr (.inr ⟨c, _, rfl, rfl, q⟩)
  · cases h
theorem opNotIn {K : PySem.W.Frag} : Op2 (rNotInX K) (fIn true) := fun A H v w x y z dom hx hy h => by
  unfold fIn at h
  split at h
  · have g := opNotInD (K := K) A H v w x _ z dom hx hy h
    exact fun Q q => .inl (g Q q)
  · obtain ⟨k, e, h⟩ := of_ob h
    cases h
    obtain ⟨a, kvs, rfl, h1, r⟩ := hy.dct
    rw [vw_key hx e]
    refine gives_flat (fun _ => .bl _) fun Q q => .inr (.inl ⟨a, valV kvs k, rfl, DGet.k h1, ?_⟩)
    rw [find_isSome r k]
    exact q
  · obtain ⟨c, e, h⟩ := of_ob h
    cases h
    rw [oneCh_eq e] at hx
    rw [hx.str, hy.str]
    exact gives_flat (fun _ => .bl _) fun Q q => .inr (.inr ⟨c, _, rfl, rfl, q⟩)
  · cases h
end DK
end
section
set_option maxRecDepth 100000
namespace DK
open PySem PySem.Spec PyProof.Rows L2
variable {κ : XI}

/-! ### built-in calls -/
def rLenX (K : PySem.W.Frag) : List V → Hp → VK → Prop := fun xs H Q => (∃ x n, xs = [x] ∧ LenV K x H n ∧ Q (.int n) H) ∨ ∃ d kvs, xs = [.ref d] ∧ H d = some (.dK kvs) ∧ Q (.int kvs.length) H
def fLen : List D → Option D
  | [.list xs] => some (.int xs.length)
  | [.tuple xs] => some (.int xs.length)
  | [.str z] => if z.length ≤ sizeLine then some (.int z.length) else none
  | [.dict es] => some (.int es.length)
  | _ => none
theorem Vws.one {A : Addr → Prop} {H : Hp} {vs : List V} {x : D} (h : Vws A H vs [x]) : ∃ v, vs = [v] ∧ Vw A H v x := by
  cases h with
  | cons r t =>
    cases t
    exact ⟨_, rfl, r⟩
theorem Vws.two {A : Addr → Prop} {H : Hp} {vs : List V} {x y : D} (h : Vws A H vs [x, y]) : ∃ v w, vs = [v, w] ∧ Vw A H v x ∧ Vw A H w y := by
  cases h with
  | cons r t =>
    obtain ⟨w, rfl, s⟩ := t.one
    exact ⟨_, _, rfl, r, s⟩
theorem opLen {K : PySem.W.Frag} : OpA (rLenX K) fLen := fun A H vs xs z dom hx h => by
  unfold fLen at h
  split at h
  · cases h
    obtain ⟨v, rfl, r⟩ := hx.one
    obtain ⟨a, ws, rfl, h1, rs⟩ := r.lst
    refine gives_flat (fun _ => .int _) fun Q q => .inl ⟨_, ws.length, rfl, .inl ⟨ws, .inl (.inl h1), rfl⟩, ?_⟩
    rw [rs.len]
    exact q
  · cases h
    obtain ⟨v, rfl, r⟩ := hx.one
    obtain ⟨a, ws, rfl, h1, rs⟩ := r.tup
    refine gives_flat (fun _ => .int _) fun Q q => .inl ⟨_, ws.length, rfl, .inr ⟨ws, .inl (.inl h1), rfl⟩, ?_⟩
    rw [rs.len]
    exact q
  · split at h
    · rename_i hl
      cases h
      obtain ⟨v, rfl, r⟩ := hx.one
      rw [r.str]
      exact gives_flat (fun _ => .int _) fun Q q => .inl ⟨_, _, rfl, ⟨hl, rfl⟩, q⟩
    · cases h
  · cases h
    obtain ⟨v, rfl, r⟩ := hx.one
    obtain ⟨a, ws, rfl, h1, rs⟩ := r.dct
    refine gives_flat (fun _ => .int _) fun Q q => .inr ⟨_, ws, rfl, h1, ?_⟩
    rw [rs.len]
    exact q
  · cases h
theorem call_lenX {X : Cx} : CallR X (.builtin "len") (rLenX X.K) := clOr call_len call_lenD
def rInt1 : List V → Hp → VK → Prop := fun xs H Q => (∃ i, xs = [.int i] ∧ Q (.int i) H) ∨ ∃ k, xs = [.bl k] ∧ Q (.int (if k then 1 else 0)) H
def fInt : List D → Option D
  | [.int i] => some (.int i)
  | [.bool k] => some (.int (if k then 1 else 0))
  | _ => none
theorem opInt : OpA rInt1 fInt := fun A H vs xs z dom hx h => by
  unfold fInt at h
  split at h
  · cases h
    obtain ⟨v, rfl, r⟩ := hx.one
    rw [r.int]
    exact gives_flat (fun _ => .int _) fun Q q => .inl ⟨_, rfl, q⟩
  · cases h
    obtain ⟨v, rfl, r⟩ := hx.one
    rw [r.bl]
    exact gives_flat (fun _ => .int _) fun Q q => .inr ⟨_, rfl, q⟩
  · cases h
def fAbs : List D → Option D
  | [.int i] => some (.int (if i < 0 then -i else i))
  | _ => none
theorem opAbs : OpA (fun xs H Q => ∃ i, xs = [.int i] ∧ Q (.int (if i < 0 then -i else i)) H) fAbs := fun A H vs xs z dom hx h => by
  unfold fAbs at h
  split at h
  · cases h
    obtain ⟨v, rfl, r⟩ := hx.one
    rw [r.int]
    exact gives_flat (fun _ => .int _) fun Q q => ⟨_, rfl, q⟩
  · cases h
def intsOf : List D → Option (List Int)
  | [] => some []
  | .int i :: r => ob (intsOf r) fun ns => some (i :: ns)
  | _ :: _ => none
theorem intsOf_eq : ∀ {xs : List D} {ns : List Int}, intsOf xs = some ns → xs = ns.map .int
  | [], ns, h => by
    cases h
    rfl
  | .int i :: r, ns, h => by
    obtain ⟨ms, e, h⟩ := of_ob h
    cases h
    rw [intsOf_eq e]
    rfl
  | .none :: _, _, h => by cases h
  | .bool _ :: _, _, h => by cases h
  | .str _ :: _, _, h => by cases h
  | .list _ :: _, _, h => by cases h
  | .tuple _ :: _, _, h => by cases h
  | .dict _ :: _, _, h => by cases h
theorem intsOf_map : ∀ ns : List Int, intsOf (ns.map .int) = some ns
  | [] => rfl
  | n :: ns => by
    show ob (intsOf (ns.map .int)) _ = _
    rw [intsOf_map ns]
    rfl
def strsOf : List D → Option (List Str)
  | [] => some []
  | .str i :: r => ob (strsOf r) fun ns => some (i :: ns)
  | _ :: _ => none
theorem strsOf_eq : ∀ {xs : List D} {ns : List Str}, strsOf xs = some ns → xs = ns.map .str
  | [], ns, h => by
    cases h
    rfl
  | .str i :: r, ns, h => by
    obtain ⟨ms, e, h⟩ := of_ob h
    cases h
    rw [strsOf_eq e]
    rfl
  | .none :: _, _, h => by cases h
  | .bool _ :: _, _, h => by cases h
  | .int _ :: _, _, h => by cases h
  | .list _ :: _, _, h => by cases h
  | .tuple _ :: _, _, h => by cases h
  | .dict _ :: _, _, h => by cases h
theorem strsOf_map : ∀ ns : List Str, strsOf (ns.map .str) = some ns
  | [] => rfl
  | n :: ns => by
    show ob (strsOf (ns.map .str)) _ = _
    rw [strsOf_map ns]
    rfl
def fSum : List D → Option D
  | [.list xs] => ob (intsOf xs) fun ns => some (.int ns.sum)
  | _ => none
theorem opSum {K : PySem.W.Frag} : OpA (rSum K) fSum := fun A H vs xs z dom hx h => by
  unfold fSum at h
  split at h
  · obtain ⟨ns, e, h⟩ := of_ob h
    cases h
    obtain ⟨v, rfl, r⟩ := hx.one
    obtain ⟨a, ws, rfl, h1, rs⟩ := r.lst
    rw [intsOf_eq e] at rs
    rw [rs.ints] at h1
    exact gives_flat (fun _ => .int _) fun Q q => ⟨a, ns, rfl, .inl (.inl h1), q⟩
  · cases h
/-- list(x) of a list or tuple: a new list -/
def rListOf (K : PySem.W.Frag) : List V → Hp → VK → Prop := fun xs H Q => ∃ p ys, xs = [.ref p] ∧ (SqL K H p ys ∨ SqT K H p ys) ∧ ∀ l, H l = none → Q (.ref l) (upd H l (.lst ys))
def fList : List D → Option (List D)
  | [.list xs] => some xs
  | [.tuple xs] => some xs
  | _ => none
theorem opList {K : PySem.W.Frag} : OpAN (rListOf K) fList := fun A H vs xs z dom hx h => by
  unfold fList at h
  split at h
  · cases h
    obtain ⟨v, rfl, r⟩ := hx.one
    obtain ⟨a, ws, rfl, h1, rs⟩ := r.lst
    exact fun Q q => ⟨a, ws, rfl, .inl (.inl (.inl h1)), fun p hp => q p ws hp rs⟩
  · cases h
    obtain ⟨v, rfl, r⟩ := hx.one
    obtain ⟨a, ws, rfl, h1, rs⟩ := r.tup
    exact fun Q q => ⟨a, ws, rfl, .inr (.inl (.inl h1)), fun p hp => q p ws hp rs⟩
  · cases h
/-- sep.join(texts) -/
def rJoin (K : PySem.W.Frag) : V → List V → Hp → VK → Prop := fun x xs H Q => ∃ a p, ∃ ys : List Str, x = .str a ∧ xs = [.ref p] ∧ (SqL K H p (ys.map V.str) ∨ SqT K H p (ys.map V.str)) ∧
      (ys.map (·.length)).sum + ys.length * a.length ≤ 16777216 ∧ Q (.str (Txt.join a ys)) H
def fJoin : D → List D → Option D
  | .str a, [.list xs] => ob (strsOf xs) fun ys => if (ys.map (·.length)).sum + ys.length * a.length ≤ 16777216 then some (.str (Txt.join a ys)) else none
  | _, _ => none
theorem opJoin {K : PySem.W.Frag} {T : String} : OpM K T (rJoin K) fJoin := fun A H v vs x xs z dom hx hxs h => by
  unfold fJoin at h
  split at h
  · obtain ⟨ys, e, h⟩ := of_ob h
    split at h
    · rename_i hl
      cases h
      obtain ⟨v, rfl, r⟩ := hxs.one
      obtain ⟨a, ws, rfl, h1, rs⟩ := r.lst
      rw [strsOf_eq e] at rs
      rw [rs.strs] at h1
      rw [hx.str]
      exact gives_flat (fun _ => .str _) fun Q q => ⟨_, a, ys, rfl, rfl, .inl (.inl (.inl h1)), hl, q⟩
    · cases h
  · cases h
/-- s.index(t), found -/
def rSIndex : V → List V → Hp → VK → Prop := fun x xs H Q => ∃ a b i rest, x = .str a ∧ xs = [.str b] ∧ Builtin.Str.occurrences a b 0 a.length 1 = i :: rest ∧ Q (.int (i : Nat)) H
def fSIndex : D → List D → Option D
  | .str a, [.str b] => match Builtin.Str.occurrences a b 0 a.length 1 with
    | i :: _ => some (.int (i : Nat))
    | [] => none
  | _, _ => none
theorem opSIndex {K : PySem.W.Frag} {T : String} : OpM K T rSIndex fSIndex := fun A H v vs x xs z dom hx hxs h => by
  unfold fSIndex at h
  split at h
  · split at h
    · rename_i i rest e
      cases h
      obtain ⟨v, rfl, r⟩ := hxs.one
      rw [hx.str, r.str]
      exact gives_flat (fun _ => .int _) fun Q q => ⟨_, _, i, rest, rfl, rfl, e, q⟩
    · cases h
  · cases h
/-- xs.pop(k) -/
theorem Reps.eraseIdx {A : Addr → Prop} {H : Hp} : ∀ {vs : List V} {xs : List D} (i : Nat), Reps A H vs xs → Reps A H (vs.eraseIdx i) (xs.eraseIdx i)
  | _, _, _, .nil => .nil
  | _, _, 0, .cons _ t => t
  | _, _, i + 1, .cons r t => .cons r (Reps.eraseIdx i t)
theorem simPopI {K : PySem.W.Frag} {i : Nat} {te : TE} {b : BR} (sb : SimB κ te b) : SimE κ (tBM K "list" rPopAt (tVar i) (tCons te tNil)) (rPopI i b) := fun c σ H d own R x d' h Q q => by
  unfold rPopI at h
  split at h
  · rename_i xs0 e0
    obtain ⟨a0, o0, s0, vs0, hv0, _⟩ := R.slot i _ e0
    obtain ⟨y, d1, e, h⟩ := of_bd h
    obtain ⟨u, e2, h⟩ := of_ob h
    split at h
    · rename_i k
      split at h
      · rename_i xs e1
        split at h
        · rename_i hk
          obtain ⟨j, e3, h⟩ := of_ob h
          obtain ⟨z, e4, h⟩ := of_ob h
          cases h
          refine ⟨_, s0, .inl ⟨rfl, _, .inl (.inl hv0)⟩, sb c σ H d own R y _ e _ fun v H1 own1 S r => ?_⟩
          have R1 := R.leave S
          obtain ⟨a1, o1, s1, vs, hv, rs⟩ := R1.slot i _ e1
          rw [s0] at s1
          cases s1
          have ek := (r.vw R1 e2).int
          obtain ⟨w, hw, rw'⟩ := rs.get e4
          have t : ∀ b o', ¬ Av c own1 b → H1 b = some o' → ¬ Av c own1 b ∧ upd H1 a0 (.lst (vs.eraseIdx j)) b = some o' := fun b o' n z => ⟨n, by rw [upd_ne (fun e => n (.inr ⟨i, by rw [e]; exact o1⟩))]; exact z⟩
          refine ⟨a0, vs, k, j, w, rfl, by rw [ek], hv, hk.1, hk.2, by rw [rs.len]; exact e3, hw, q w _ own1 (S.write (by rw [e1]; rfl) o1 (S.out i a0 o1) s0 ⟨vs.eraseIdx j, upd_same, ?_⟩) (rw'.tr t)⟩
          exact (rs.tr t).eraseIdx j
        · cases h
      · cases h
    · cases h
  · cases h
def rPopL (i : Nat) : ER := fun d => match d[i]? with
  | some (.ow (.list xs)) => ob xs[xs.length - 1]? fun y => some (y, d.set i (.ow (.list xs.dropLast)))
  | _ => none
theorem Reps.dropLast {A : Addr → Prop} {H : Hp} {vs : List V} {xs : List D} (r : Reps A H vs xs) : Reps A H vs.dropLast xs.dropLast := by
  rw [List.dropLast_eq_take, List.dropLast_eq_take, r.len]
  exact r.take _
theorem simPopL {K : PySem.W.Frag} {i : Nat} : SimE κ (tBM0 K "list" rPop (tVar i)) (rPopL i) := fun c σ H d own R x d' h Q q => by
  unfold rPopL at h
  split at h
  · rename_i xs e1
    obtain ⟨z, e4, h⟩ := of_ob h
    cases h
    have S := R.enter
    obtain ⟨a0, o1, s0, vs, hv, rs⟩ := S.slot i _ e1
    obtain ⟨w, hw, rw'⟩ := rs.get e4
    have t : ∀ b o', ¬ Av c own b → H b = some o' → ¬ Av c own b ∧ upd H a0 (.lst vs.dropLast) b = some o' := fun b o' n z => ⟨n, by rw [upd_ne (fun e => n (.inr ⟨i, by rw [e]; exact o1⟩))]; exact z⟩
    refine ⟨_, s0, .inl ⟨rfl, _, .inl (.inl hv)⟩, a0, vs, w, rfl, rfl, hv, by rw [rs.len]; exact hw, q w _ own (S.write (by rw [e1]; rfl) o1 (S.out i a0 o1) s0 ⟨vs.dropLast, upd_same, ?_⟩) (rw'.tr t)⟩
    exact (rs.tr t).dropLast
  · cases h

/-! ### name op= e -/
def rIpX : TIp := fun x y H Q => (ipI fun i j => i + j) x y H Q
def sAug (i : Nat) (b : BR) (f : Int → Int → Int) : SR := fun d => ob (slotD d[i]?) fun u0 => match u0 with
  | .int x => bd (b d) fun y d1 => ob (y.get d1) fun w => match w with
    | .int j => if notFd d1[i]? = true then some (.nx (d1.set i (.fz (.int (f x j))))) else none
    | _ => none
  | _ => none
theorem simAug {i : Nat} {te : TE} {b : BR} {f : Int → Int → Int} (sb : SimB κ te b) : SimS κ (tAug i te (ipI f)) (sAug i b f) := fun c σ H d own R o h De p => by
  obtain ⟨u0, e0, h⟩ := of_ob h
  split at h
  · rename_i x
    obtain ⟨y, d1, e, h⟩ := of_bd h
    obtain ⟨w, e2, h⟩ := of_ob h
    split at h
    · rename_i j
      split at h
      · rename_i n0
        cases h
        obtain ⟨v, hv⟩ := slot_some R e0
        have ev := (slot_vw R hv e0).int
        subst ev
        refine ⟨.int x, hv, sb c σ H d own R y _ e _ fun v2 H1 own1 S r => ?_⟩
        have R1 := R.leave S
        have e3 := (r.vw R1 e2).int
        exact ⟨x, j, rfl, e3, p _ H1 _ (R1.store n0 (.int _))⟩
      · cases h
    · cases h
  · cases h

/-! ### a def's promise by its body -/
def bodyRun (n k : Nat) (r : SR) (xs : List D) : Option Out := if xs.length = k then r (xs.map .fz ++ List.replicate (n - k) .un) else none
def mOf (n k : Nat) (r : SR) (xs : List D) : Option D := match bodyRun n k r xs with
  | some (.rt y _) => some y
  | some (.nx _) => some .none
  | _ => none
section
variable {P : Program} {w : World} {K : PySem.W.Frag} {mg : Str → Option Value} {base : Heap}
theorem start_rep {A : Addr → Prop} {H : Hp} {vs : List V} {xs : List D} {N : List Str} {k : Nat} (r : Reps A H vs xs) (dom : ∀ a, A a → ∃ o, H a = some o) (hk : xs.length = k) (hn : k ≤ N.length) :
    RepS (κ := κ) ⟨A, H, none, none⟩ (L2.start N vs) H (xs.map .fz ++ List.replicate (N.length - k) .un) (fun _ => none) := by
  have hl := r.len
  refine ⟨?_, fun i s h => ?_, fun i j a e => (by cases e), fun i a e => (by cases e), fun i a e => (by cases e), fun i a e => (by cases e), fun a o e _ => e, dom, fun a e => by cases e⟩
  · unfold L2.start
    simp only [List.length_append, List.length_map, List.length_replicate]
    omega
  · by_cases hi : i < xs.length
    · rw [List.getElem?_append_left (by rw [List.length_map]; exact hi), List.getElem?_map] at h
      cases e : xs[i]? with
      | none => rw [e] at h; cases h
      | some x =>
        rw [e] at h
        cases h
        obtain ⟨v, hv, rv⟩ := r.get e
        refine ⟨rfl, v, ?_, rv.tr fun a o n z => ⟨?_, z⟩⟩
        · unfold L2.start
          rw [List.getElem?_append_left (by rw [List.length_map, hl]; exact hi), List.getElem?_map, hv]
          rfl
        · rintro (q | ⟨j, q⟩)
          · exact n q
          · cases q
    · rw [List.getElem?_append_right (by rw [List.length_map]; omega), List.getElem?_replicate] at h
      split at h
      · cases h
        rfl
      · cases h
theorem run_pure {N ps : List Str} {t : TS} {r : SR} (sim : SimS κ t r) {vs : List V} {H : Hp} {Q : VK} {E : XK} (hn : ps.length ≤ N.length) (h : spP (mOf N.length ps.length r) vs H Q E) : t { nx := fun _ H' => Q .non H', rt := Q } (L2.start N vs) H := by
  obtain ⟨A, xs, y, rs, dom, hm, k⟩ := h
  unfold mOf at hm
  cases e : bodyRun N.length ps.length r xs with
  | none => rw [e] at hm; cases hm
  | some o =>
    rw [e] at hm
    unfold bodyRun at e
    split at e
    · rename_i hk
      have R := start_rep (κ := κ) (N := N) rs dom hk hn
      have fin : ∀ (v : V) (σ' : L2.St) (H' : Hp) (d' : List Slot) (own' : Own1) (x : D), RepS (κ := κ) ⟨A, H, none, none⟩ σ' H' d' own' → Rep (Av (κ := κ) ⟨A, H, none, none⟩ own') H' v x → x = y → Q v H' := fun v σ' H' d' own' x R' r' e => by
        subst e
        exact k v H' (fun a o h => R'.keep a o h (by intro z; cases z)) (r'.tr fun a o n z => ⟨fun q => n (.inl q), z⟩)
      refine sim _ _ _ _ _ R o e _ ?_
      cases o with
      | nx d' =>
        cases hm
        exact fun σ' H' own' R' => fin .non σ' H' d' own' _ R' .non rfl
      | rt x d' =>
        cases hm
        exact fun v σ' H' own' R' r' => fin v σ' H' d' own' _ R' r' rfl
      | bk d' => cases hm
      | ct d' => cases hm
    · cases e
theorem spP_len {m : List D → Option D} {k : Nat} (hm : ∀ xs y, m xs = some y → xs.length = k) : ∀ vs H Q E, spP m vs H Q E → vs.length = k := fun vs H Q E h => by
  obtain ⟨A, xs, y, rs, _, e, _⟩ := h
  rw [rs.len]
  exact hm xs y e
theorem mOf_len {n k : Nat} {r : SR} : ∀ xs y, mOf n k r xs = some y → xs.length = k := fun xs y h => by
  unfold mOf bodyRun at h
  by_cases e : xs.length = k
  · exact e
  · rw [if_neg e] at h
    cases h
/-- a def that draws -/
def feedAt (d : List Slot) : Option FS := match d[(0 : Nat)]? with
  | some (.fd fs) => some fs
  | _ => none
theorem feedAt_eq {d : List Slot} {fs : FS} (h : feedAt d = some fs) : d[0]? = some (.fd fs) := by
  unfold feedAt at h
  split at h
  · rename_i e
    cases h
    exact e
  · cases h
def outF : Out → Option (D × FS)
  | .rt y d => ob (feedAt d) fun fs => some (y, fs)
  | .nx d => ob (feedAt d) fun fs => some (.none, fs)
  | _ => none
def mOfF (n k : Nat) (r : SR) (fs : FS) (xs : List D) : Option (D × FS) := if xs.length + 1 = k then ob (r (Slot.fd fs :: (xs.map .fz ++ List.replicate (n - k) .un))) outF else none
theorem start_repF {A : Addr → Prop} {H : Hp} {fa : Addr} {fs : FS} {vs : List V} {xs : List D} {N : List Str} {k : Nat} (F : Feed A H fa fs) (hA : A fa) (r : Reps A H vs xs) (dom : ∀ a, A a → ∃ o, H a = some o) (hk : xs.length + 1 = k) (hn : k ≤ N.length) :
    RepS (κ := κ) ⟨fun a => A a ∧ a ≠ fa, H, some fa, some fa⟩ (L2.start N (.ref fa :: vs)) H (.fd fs :: (xs.map .fz ++ List.replicate (N.length - k) .un)) (fun i => if i = 0 then some fa else none) := by
  have hl := r.len
  have own0 : ∀ i a, (if i = 0 then some fa else none) = some a → i = 0 ∧ a = fa := fun i a e => by
    by_cases h : i = 0
    · rw [if_pos h] at e
      exact ⟨h, (Option.some.inj e).symm⟩
    · rw [if_neg h] at e
      cases e
  have tr : ∀ a o, ¬ A a → H a = some o → ¬ Av (κ := κ) ⟨fun a => A a ∧ a ≠ fa, H, some fa, some fa⟩ (fun i => if i = 0 then some fa else none) a ∧ H a = some o := fun a o n z => ⟨by
    rintro (q | ⟨j, q⟩)
    · exact n q.1
    · rw [(own0 j a q).2] at n
      exact n hA, z⟩
  refine ⟨?_, fun i s h => ?_, fun i j a e1 e2 => ?_, fun i a e => ?_, fun i a e => ?_, fun i a e q => ?_, fun a o e _ => e, fun a q => dom a q.1, fun a e => ?_⟩
  · unfold L2.start
    simp only [List.length_append, List.length_map, List.length_replicate, List.length_cons]
    omega
  · cases i with
    | zero =>
      cases h
      obtain ⟨l, h1, h2, h3⟩ := F
      exact ⟨fa, rfl, rfl, l, h1, (tr l _ h2 h3).1, h3⟩
    | succ i =>
      rw [List.getElem?_cons_succ] at h
      show RepSlot κ _ H _ none s
      by_cases hi : i < xs.length
      · rw [List.getElem?_append_left (by rw [List.length_map]; exact hi), List.getElem?_map] at h
        cases e : xs[i]? with
        | none => rw [e] at h; cases h
        | some x =>
          rw [e] at h
          cases h
          obtain ⟨v, hv, rv⟩ := r.get e
          refine ⟨rfl, v, ?_, rv.tr tr⟩
          unfold L2.start
          rw [List.map_cons, List.cons_append, List.getElem?_cons_succ, List.getElem?_append_left (by rw [List.length_map, hl]; exact hi), List.getElem?_map, hv]
          rfl
      · rw [List.getElem?_append_right (by rw [List.length_map]; omega), List.getElem?_replicate] at h
        split at h
        · cases h
          rfl
        · cases h
  · rw [(own0 i a e1).1, (own0 j a e2).1]
  · rw [(own0 i a e).1]
    simp
  · right
    rw [(own0 i a e).2]
  · exact q.2 (own0 i a e).2
  · cases e
    exact ⟨rfl, fs, rfl⟩
theorem run_feed {N ps : List Str} {t : TS} {r : SR} (sim : SimS κ t r) {vs : List V} {H : Hp} {Q : VK} {E : XK} (hn : ps.length ≤ N.length) (h : spF (mOfF N.length ps.length r) vs H Q E) : t { nx := fun _ H' => Q .non H', rt := Q } (L2.start N vs) H := by
  obtain ⟨fa, vs', A, fs, xs, y, fs', rfl, F, hA, rs, dom, hm, k⟩ := h
  unfold mOfF at hm
  split at hm
  · rename_i hk
    have R := start_repF (κ := κ) (N := N) F hA rs dom hk hn
    have fin : ∀ (v : V) (σ' : L2.St) (H' : Hp) (d' : List Slot) (own' : Own1) (x : D), RepS (κ := κ) ⟨fun a => A a ∧ a ≠ fa, H, some fa, some fa⟩ σ' H' d' own' → Rep (Av (κ := κ) ⟨fun a => A a ∧ a ≠ fa, H, some fa, some fa⟩ own') H' v x → d'[0]? = some (.fd fs') → x = y → Q v H' := fun v σ' H' d' own' x R' r' hd e => by
      subst e
      obtain ⟨p0, _⟩ := R'.pin fa rfl
      obtain ⟨a, e1, e2, l, f1, f2, f3⟩ := R'.slot 0 _ hd
      rw [p0] at e1
      cases e1
      have tr : ∀ a, ¬ Av (κ := κ) ⟨fun a => A a ∧ a ≠ fa, H, some fa, some fa⟩ own' a → ¬ A a := fun a n q => by
        by_cases e : a = fa
        · exact n (.inr ⟨0, by rw [e]; exact p0⟩)
        · exact n (.inl ⟨q, e⟩)
      exact k v H' (fun a o n h => R'.keep a o h (by intro z; exact n (Option.some.inj z).symm)) ⟨l, f1, tr l f2, f3⟩ (r'.tr fun a o n z => ⟨tr a n, z⟩)
    obtain ⟨o, e, hm⟩ := of_ob hm
    cases o with
    | rt y' d' =>
      obtain ⟨f, e0, hm⟩ := of_ob hm
      cases hm
      exact sim _ _ _ _ _ R _ e _ fun v σ' H' own' R' r' => fin v σ' H' d' own' _ R' r' (feedAt_eq e0) rfl
    | nx d' =>
      obtain ⟨f, e0, hm⟩ := of_ob hm
      cases hm
      exact sim _ _ _ _ _ R _ e _ fun σ' H' own' R' => fin .non σ' H' d' own' _ R' .non (feedAt_eq e0) rfl
    | bk d' => cases hm
    | ct d' => cases hm
  · cases hm
theorem spF_len {m : FS → List D → Option (D × FS)} {k : Nat} (hm : ∀ fs xs y, m fs xs = some y → xs.length + 1 = k) : ∀ vs H Q E, spF m vs H Q E → vs.length = k := fun vs H Q E h => by
  obtain ⟨fa, vs', A, fs, xs, y, fs', rfl, _, _, rs, _, e, _⟩ := h
  rw [List.length_cons, rs.len]
  exact hm fs xs _ e
theorem mOfF_len {n k : Nat} {r : SR} : ∀ fs xs y, mOfF n k r fs xs = some y → xs.length + 1 = k := fun fs xs y h => by
  unfold mOfF at h
  by_cases e : xs.length + 1 = k
  · exact e
  · rw [if_neg e] at h
    cases h
theorem ok_pure {x qual : Str} {st : Stmt} {f : Addr} {fd : FuncData} {N ps : List Str} {k : Nat} {r : SR} (n m : Nat) (F : Fun K x qual st f fd) (S : FnScope N ps (defScope st)) (eN : N.length = n) (ep : ps.length = m) (hn : m ≤ n)
    (body : ∀ (cdv : Value) (A : Around) (outer : List Env) (s : Shared) (H : Hp) (E : XK), Room k (A.deeper (envOfC qual (defScope st) s.heap.objs.size f cdv)) →
      ∃ t, PSs (cxOf CX0 P w K mg base N qual (defScope st) f cdv A outer s H E).nox (defBody st) t ∧ SimS none t r) : FnOk P w K mg base CX0 (k + 1) f fd ps (spP (mOf n m r)) := by
  subst eN ep
  exact F.ok S (spP_len mOf_len) fun cdv A outer s H vs Q E hr h => by
    obtain ⟨t, ht, sim⟩ := body cdv A outer s H E hr
    exact ⟨t, ht, run_pure sim hn h⟩
theorem ok_feed {x qual : Str} {st : Stmt} {f : Addr} {fd : FuncData} {N ps : List Str} {k : Nat} {r : SR} (n m : Nat) (F : Fun K x qual st f fd) (S : FnScope N ps (defScope st)) (eN : N.length = n) (ep : ps.length = m) (hn : m ≤ n)
    (body : ∀ (cdv : Value) (A : Around) (outer : List Env) (s : Shared) (H : Hp) (E : XK), Room k (A.deeper (envOfC qual (defScope st) s.heap.objs.size f cdv)) →
      ∃ t, PSs (cxOf CX0 P w K mg base N qual (defScope st) f cdv A outer s H E).nox (defBody st) t ∧ SimS none t r) : FnOk P w K mg base CX0 (k + 1) f fd ps (spF (mOfF n m r)) := by
  subst eN ep
  exact F.ok S (spF_len mOfF_len) fun cdv A outer s H vs Q E hr h => by
    obtain ⟨t, ht, sim⟩ := body cdv A outer s H E hr
    exact ⟨t, ht, run_feed sim hn h⟩
end
end DK
end
section
set_option maxRecDepth 100000
namespace DK
open PySem PySem.Spec PyProof.Rows L2
variable {κ : XI}

/-! ### xs[i] op= e: reading -/
theorem pget_list {X : Cx} : PGet X (rIxL X.K) := by
  intro pins s σ H o i ov iv Q I ro ri h
  obtain ⟨p, xs, k, z, rfl, rfl, hq, he, q⟩ := h
  cases ro
  obtain ⟨t, rfl⟩ := ri
  obtain ⟨its, r, pl, hz⟩ := I.list hq
  obtain ⟨j, h1, h2, h3, h4, h5⟩ := atI_get he
  obtain ⟨w, ew, rw'⟩ := r.get h2
  have hl := r.length
  have hn := line63
  have fin : EP X pins σ Q w s := ⟨z, H, I, rw', q⟩
  by_cases h0 : 0 ≤ k
  · have hj : k.toNat = j := by
      rw [seqIndex_of h0 h5] at h1
      exact Option.some.inj h1
    exact wpAny_getItem_list pl.isList h0 (by omega) (by rw [hj]; simpa using ew) fin
  · have hj : (k + (its.toArray.size : Int)).toNat = j := by
      rw [seqIndex_neg (by omega) h4] at h1
      rw [List.size_toArray, ← hl]
      exact Option.some.inj h1
    exact wpAny_getItem_list_neg (Q := EP X pins σ Q) pl.isList (by omega) (by rw [List.size_toArray] <;> omega) (by omega) (by rw [hj]; simpa using ew) fin

/-! ### the feed -/
def FS.get (fs : FS) : Int → Option Int
  | 1 => some fs.i
  | 2 => some fs.b
  | 3 => some fs.c
  | _ => none
def FS.put (fs : FS) : Int → Int → Option FS
  | 1, x => some { fs with i := x }
  | 2, x => some { fs with b := x }
  | 3, x => some { fs with c := x }
  | _, _ => none
def fdAt (d : List Slot) (j : Nat) : Option FS := match d[j]? with
  | some (.fd fs) => some fs
  | _ => none
theorem fdAt_eq {d : List Slot} {j : Nat} {fs : FS} (h : fdAt d j = some fs) : d[j]? = some (.fd fs) := by
  unfold fdAt at h
  split at h
  · rename_i e
    cases h
    exact e
  · cases h
theorem FS.get_at {fs : FS} {k x : Int} {l : Addr} (h : fs.get k = some x) : L2.atI [V.ref l, .int fs.i, .int fs.b, .int fs.c] k = some (.int x) := by
  unfold FS.get at h
  split at h <;> cases h <;> rfl
theorem FS.put_at {fs fs' : FS} {k x : Int} {l : Addr} (h : fs.put k x = some fs') : ∃ j, ixN 4 k = some j ∧ [V.ref l, .int fs.i, .int fs.b, .int fs.c].set j (.int x) = [V.ref l, .int fs'.i, .int fs'.b, .int fs'.c] ∧ fs'.ns = fs.ns := by
  unfold FS.put at h
  split at h <;> cases h
  · exact ⟨1, rfl, rfl, rfl⟩
  · exact ⟨2, rfl, rfl, rfl⟩
  · exact ⟨3, rfl, rfl, rfl⟩
/-- feed[k] -/
def rFI (j : Nat) (k : Int) : ER := fun d => ob (fdAt d j) fun fs => ob (fs.get k) fun x => some (.int x, d)
theorem simFI {K : PySem.W.Frag} {j : Nat} {k : Int} : SimE κ (tOp (rIx K) (tVar j) (tC (.int k))) (rFI j k) := fun c σ H d own R x d' h Q q => by
  obtain ⟨fs, e, h⟩ := of_ob h
  obtain ⟨z, e2, h⟩ := of_ob h
  cases h
  obtain ⟨a, o1, s1, l, h1, h2, h3⟩ := R.slot j _ (fdAt_eq e)
  exact ⟨_, s1, .inl ⟨a, _, k, .int z, rfl, rfl, .inl (.inl h1), FS.get_at e2, q _ H own R.enter (.int z)⟩⟩
/-- len(feed[0]) -/
def rFL (j : Nat) : ER := fun d => ob (fdAt d j) fun fs => some (.int fs.ns.length, d)
theorem simFL {K : PySem.W.Frag} {j : Nat} : SimE κ (tCB (rLenX K) (tCons (tOp (rIx K) (tVar j) (tC (.int 0))) tNil)) (rFL j) := fun c σ H d own R x d' h Q q => by
  obtain ⟨fs, e, h⟩ := of_ob h
  cases h
  obtain ⟨a, o1, s1, l, h1, h2, h3⟩ := R.slot j _ (fdAt_eq e)
  refine ⟨_, s1, .inl ⟨a, _, 0, .ref l, rfl, rfl, .inl (.inl h1), rfl, .inl ⟨.ref l, (fs.ns.map V.int).length, rfl, .inl ⟨_, .inl (.inl h3), rfl⟩, ?_⟩⟩⟩
  rw [List.length_map]
  exact q _ H own R.enter (.int _)
/-- feed[0][feed[1]] -/
def rFN (j : Nat) : ER := fun d => ob (fdAt d j) fun fs => ob (L2.atI fs.ns fs.i) fun x => some (.int x, d)
theorem atI_map {α β : Type} {f : α → β} {xs : List α} {i : Int} {x : α} (h : L2.atI xs i = some x) : L2.atI (xs.map f) i = some (f x) := by
  unfold L2.atI at h ⊢
  rw [List.length_map]
  cases e : ixN xs.length i with
  | none => rw [e] at h; cases h
  | some j =>
    rw [e] at h
    show (xs.map f)[j]? = _
    rw [List.getElem?_map, show xs[j]? = some x from h]
    rfl
theorem simFN {K : PySem.W.Frag} {j : Nat} : SimE κ (tOp (rIx K) (tOp (rIx K) (tVar j) (tC (.int 0))) (tOp (rIx K) (tVar j) (tC (.int 1)))) (rFN j) := fun c σ H d own R x d' h Q q => by
  obtain ⟨fs, e, h⟩ := of_ob h
  obtain ⟨z, e2, h⟩ := of_ob h
  cases h
  obtain ⟨a, o1, s1, l, h1, h2, h3⟩ := R.slot j _ (fdAt_eq e)
  refine ⟨_, s1, .inl ⟨a, _, 0, .ref l, rfl, rfl, .inl (.inl h1), rfl, _, s1, .inl ⟨a, _, 1, .int fs.i, rfl, rfl, .inl (.inl h1), rfl, .inl ⟨l, _, fs.i, .int z, rfl, rfl, .inl (.inl h3), atI_map e2, q _ H own R.enter (.int z)⟩⟩⟩⟩
theorem RepS.feed {c : Cc κ} {σ : L2.St} {H : Hp} {d : List Slot} {own : Own1} (R : RepS c σ H d own) {j : Nat} {fs fs' : FS} {k x : Int} (e : d[j]? = some (.fd fs)) (h : fs.put k x = some fs') :
    ∃ (a : Addr) (vs : List V) (i : Nat), σ[j]? = some (some (.ref a)) ∧ H a = some (.lst vs) ∧ ixN vs.length k = some i ∧ RepS c σ (upd H a (.lst (vs.set i (.int x)))) (d.set j (.fd fs')) own := by
  obtain ⟨a, o1, s1, l, h1, h2, h3⟩ := R.slot j _ e
  obtain ⟨i, hi, hs, hn⟩ := FS.put_at (l := l) h
  refine ⟨a, _, i, s1, h1, hi, R.turn o1 (fun b o n z => by rw [upd_ne n]; exact z) ⟨a, rfl, s1, l, ?_, h2, ?_⟩ (.inr rfl)⟩
  · rw [upd_same, hs]
  · rw [upd_ne (fun e => h2 (by rw [e]; exact .inr ⟨j, o1⟩)), h3, hn]
/-- feed[k] = e -/
def sFS (j : Nat) (k : Int) (b : BR) : SR := fun d => bd (b d) fun y d1 => ob (y.get d1) fun u => match u with
  | .int x => ob (fdAt d1 j) fun fs => ob (fs.put k x) fun fs' => some (.nx (d1.set j (.fd fs')))
  | _ => none
theorem simFS {j : Nat} {k : Int} {te : TE} {b : BR} (sb : SimB κ te b) : SimS κ (tAsg te (gSub (tVar j) (tC (.int k)) rSetL)) (sFS j k b) := fun c σ H d own R o h De p => by
  obtain ⟨y, d1, e, h⟩ := of_bd h
  obtain ⟨u, e2, h⟩ := of_ob h
  split at h
  · rename_i x
    obtain ⟨fs, e3, h⟩ := of_ob h
    obtain ⟨fs', e4, h⟩ := of_ob h
    cases h
    refine sb c σ H d own R y _ e _ fun v H1 own1 S r => ?_
    have R1 := R.leave S
    have ev := (r.vw R1 e2).int
    subst ev
    obtain ⟨a, vs, i, s1, h1, hi, R2⟩ := R1.feed (fdAt_eq e3) e4
    exact ⟨_, s1, a, vs, k, i, rfl, rfl, h1, hi, p σ _ own1 R2⟩
  · cases h
/-- feed[k] += e -/
def sFA (j : Nat) (k : Int) (b : BR) : SR := fun d => ob (fdAt d j) fun fs0 => ob (fs0.get k) fun x => bd (b d) fun y d1 => ob (y.get d1) fun u => match u with
  | .int z => ob (fdAt d1 j) fun fs => ob (fs.put k (x + z)) fun fs' => some (.nx (d1.set j (.fd fs')))
  | _ => none
theorem simFA {K : PySem.W.Frag} {j : Nat} {k : Int} {te : TE} {b : BR} (sb : SimB κ te b) : SimS κ (tAugS (tVar j) (tC (.int k)) te (rIxL K) (ipI fun i j => i + j) rSetL) (sFA j k b) := fun c σ H d own R o h De p => by
  obtain ⟨fs0, e0, h⟩ := of_ob h
  obtain ⟨x, e1, h⟩ := of_ob h
  obtain ⟨y, d1, e, h⟩ := of_bd h
  obtain ⟨u, e2, h⟩ := of_ob h
  split at h
  · rename_i z
    obtain ⟨fs, e3, h⟩ := of_ob h
    obtain ⟨fs', e4, h⟩ := of_ob h
    cases h
    obtain ⟨a0, o0, s0, l, h1, h2, h3⟩ := R.slot j _ (fdAt_eq e0)
    refine ⟨_, s0, a0, _, k, .int x, rfl, rfl, .inl (.inl h1), FS.get_at e1, sb c σ H d own R y _ e _ fun v H1 own1 S r => ?_⟩
    have R1 := R.leave S
    have ev := (r.vw R1 e2).int
    obtain ⟨a, vs, i, s1, g1, hi, R2⟩ := R1.feed (fdAt_eq e3) e4
    rw [s0] at s1
    cases s1
    exact ⟨x, z, rfl, ev, a0, vs, k, i, rfl, rfl, g1, hi, p σ _ own1 R2⟩
  · cases h
/-- the feed made -/
def spFeed (K : PySem.W.Frag) : Sp := fun vs H Q _ => ∃ (a : Addr) (ns : List Int), vs = [.ref a] ∧ SqL K H a (ns.map V.int) ∧ ns.length ≤ 63 ∧
  ∀ l p H', l ≠ p → H' l = some (.lst (ns.map V.int)) → H' p = some (.lst [.ref l, .int 0, .int 0, .int 1]) → Q (.ref p) H'
def spLaw (K : PySem.W.Frag) : Sp := fun vs H Q _ => ∃ (a : Addr) (ns : List Int), vs = [.ref a] ∧ SqL K H a (ns.map V.int) ∧ ns.length ≤ 63 ∧ ∀ H', Q (.bl true) H'
theorem run_law {K : PySem.W.Frag} {N : List Str} {t : TS} {r : SR} (sim : SimS none t r) {vs : List V} {H : Hp} {Q : VK} {E : XK} (hn : 2 ≤ N.length) (m : ∀ ns : List Int, ns.length ≤ 63 → ∃ d', r (.un :: .fd ⟨ns, 0, 0, 1⟩ :: List.replicate (N.length - 2) .un) = some (.rt (.bool true) d')) (h : spLaw K vs H Q E) :
    tSeq (tAsg (tCall (spFeed K) [] E0 (tCons (tVar 0) tNil)) (gName 1)) t { nx := fun _ H' => Q .non H', rt := Q } (L2.start N vs) H := by
  obtain ⟨a, ns, rfl, hs, hl, k⟩ := h
  obtain ⟨d', hd⟩ := m ns hl
  refine ⟨.ref a, rfl, a, ns, rfl, hs, hl, fun l p H' nlp h1 h2 => ?_⟩
  have own1 : ∀ i b, (if i = 1 then some p else none) = some b → i = 1 ∧ b = p := fun i b e => by
    by_cases h : i = 1
    · rw [if_pos h] at e
      exact ⟨h, (Option.some.inj e).symm⟩
    · rw [if_neg h] at e
      cases e
  refine sim ⟨fun _ => False, fun _ => none, none, none⟩ _ H' (.un :: .fd ⟨ns, 0, 0, 1⟩ :: List.replicate (N.length - 2) .un) (fun i => if i = 1 then some p else none) ?_ _ hd _ fun v σ' H2 own' R r => by
    cases r
    exact k H2
  obtain ⟨x, y, N', rfl⟩ : ∃ x y N', N = x :: y :: N' := by
    match N, hn with
    | x :: y :: N', _ => exact ⟨x, y, N', rfl⟩
  refine ⟨?_, fun i s h => ?_, fun i j b e1 e2 => ?_, fun i b e => ?_, fun i b e => .inl rfl, fun i b e q => q, ?_, ?_, ?_⟩
  · simp [L2.start]
  · match i, h with
    | 0, h =>
      cases h
      rfl
    | 1, h =>
      cases h
      refine ⟨p, rfl, rfl, l, h2, ?_, h1⟩
      rintro (q | ⟨j, q⟩)
      · exact q
      · exact nlp (own1 j l q).2
    | i + 2, h =>
      rw [List.getElem?_cons_succ, List.getElem?_cons_succ, List.getElem?_replicate] at h
      split at h
      · cases h
        rfl
      · cases h
  · rw [(own1 i b e1).1, (own1 j b e2).1]
  · rw [(own1 i b e).1]
    simp
  · intro b o e _
    cases e
  · intro b q
    exact absurd q id
  · intro b e
    cases e
end DK
end
section
set_option maxRecDepth 100000
namespace DK
open PySem PySem.Spec PyProof.Rows L2
section
variable {X : Cx}
theorem op_ltX : OpR X (compareOp .Lt) (rCmp ltI ltS) := opOr op_lt op_lt_str
theorem op_leX : OpR X (compareOp .LtE) (rCmp leI leS) := opOr op_le (by
  intro pins s σ H x y v u Q I rx ry h
  obtain ⟨i, j, rfl, rfl, q⟩ := h
  refine op_le_str pins s σ H _ _ v u Q I rx ry ⟨i, j, rfl, rfl, ?_⟩
  first | exact q | simpa using q)
theorem op_gtX : OpR X (compareOp .Gt) (rCmp gtI gtS) := opOr op_gt (by
  intro pins s σ H x y v u Q I rx ry h
  obtain ⟨i, j, rfl, rfl, q⟩ := h
  refine op_gt_str pins s σ H _ _ v u Q I rx ry ⟨i, j, rfl, rfl, ?_⟩
  first | exact q | simpa using q)
theorem op_geX : OpR X (compareOp .GtE) (rCmp geI geS) := opOr op_ge (by
  intro pins s σ H x y v u Q I rx ry h
  obtain ⟨i, j, rfl, rfl, q⟩ := h
  refine op_ge_str pins s σ H _ _ v u Q I rx ry ⟨i, j, rfl, rfl, ?_⟩
  first | exact q | simpa using q)
end
def fNeg : D → Option D
  | .int i => some (.int (-i))
  | _ => none
theorem opNeg : Op1 (rU fun i => .int (-i)) fNeg := fun A H v x z dom hx h => by
  unfold fNeg at h
  split at h
  · cases h
    rw [hx.int]
    exact gives_flat (fun _ => .int _) fun Q q => ⟨_, rfl, q⟩
  · cases h
def fPow : D → D → Option D
  | .int i, .int j => if 0 ≤ j ∧ j ≤ 1000000 ∧ i.natAbs < 2 ^ 64 then some (.int (i ^ j.toNat)) else none
  | _, _ => none
theorem opPow : Op2 (rI CPow fun i j => .int (i ^ j.toNat)) fPow := fun A H v w x y z dom hx hy h => by
  unfold fPow at h
  split at h
  · split at h
    · rename_i hj
      cases h
      rw [hx.int, hy.int]
      exact gives_flat (fun _ => .int _) fun Q q => ⟨_, _, rfl, rfl, hj, q⟩
    · cases h
  · cases h
/-- a * b: ints; a text or a list some times -/
def rMulX : R2 := fun x y H Q => (rI CMulW fun i j => .int (i * j)) x y H Q ∨ (rMulS x y H Q ∨ rRep x y H Q)
theorem op_mulS {X : Cx} : OpR X (binaryOp .Mult) rMulS := by
  intro pins s σ H x y v u Q I rx ry h
  obtain ⟨z, k, rfl, rfl, h1, h2, h3, q⟩ := h
  obtain ⟨t, rfl⟩ := rx
  obtain ⟨t', rfl⟩ := ry
  have hs : sizeLine = 16777216 := sizeLine_eq
  have e0 : z.length = z.cps.toList.length := by rw [Array.length_toList]; rfl
  refine PySem.P.mul_str ?_ (fun hn _ => ?_) (fun hn _ => ?_) ?_
  · rw [decide_eq_false (by omega), decide_eq_false (by omega)]
    rfl
  · have h4 : (z.length : Int) * k ≤ 2 ^ 63 - 1 := by
      have : ((z.length * k.toNat : Nat) : Int) ≤ 16777216 := by omega
      rw [Int.natCast_mul, Int.toNat_of_nonneg (by omega)] at this
      omega
    have := (Int.le_ediv_iff_mul_le (by omega : 0 < k)).mpr h4
    omega
  · show decide _ = false
    exact decide_eq_false (by first | omega | (rw [← hs]; omega))
  · by_cases hn : k < 1
    · rw [if_pos hn]
      have e : repS z k = Str.empty := by
        unfold repS
        rw [show k.toNat = 0 by omega]
        rfl
      rw [e] at q
      exact ⟨by decide, .str Str.empty, H, I.tok _, ⟨_, rfl⟩, q⟩
    · rw [if_neg hn]
      have fl : ∀ (n : Nat) (acc : Array Nat), ((List.replicate n z.cps).foldl (· ++ ·) acc).toList = acc.toList ++ (List.replicate n z.cps.toList).flatten := by
        intro n
        induction n with
        | zero => intro acc; simp
        | succ n ih => intro acc; rw [List.replicate_succ, List.foldl_cons, ih, List.replicate_succ, List.flatten_cons, Array.toList_append, List.append_assoc]
      by_cases h1 : (k == 1 || z.length == 0) = true
      · rw [if_pos h1]
        have e : repS z k = z := by
          obtain ⟨⟨l⟩⟩ := z
          rw [Bool.or_eq_true, beq_iff_eq, beq_iff_eq] at h1
          unfold repS
          rcases h1 with h1 | h1
          · rw [h1]
            simp
          · rw [e0] at h1
            have : l = [] := List.eq_nil_of_length_eq_zero h1
            subst this
            congr 1
            simp
        rw [e] at q
        exact ⟨.str z, H, I, ⟨t, rfl⟩, q⟩
      · rw [if_neg h1]
        have e : (⟨(List.replicate k.toNat z.cps).foldl (· ++ ·) #[]⟩ : Str) = repS z k := by
          unfold repS
          congr 1
          have := fl k.toNat #[]
          rw [← Array.toList_inj, this]
          simp
        rw [e]
        refine ⟨?_, .str (repS z k), H, I.tok _, ⟨_, rfl⟩, q⟩
        have hl : (repS z k).length = z.length * k.toNat := by
          show ((List.replicate k.toNat z.cps.toList).flatten.toArray).size = _
          rw [List.size_toArray, List.length_flatten, List.map_replicate, List.sum_replicate_nat, e0, Nat.mul_comm]
        rw [hl]
        exact h3
theorem op_mulX {X : Cx} : OpR X (binaryOp .Mult) rMulX := opOr op_mulW (opOr op_mulS op_rep)
def fMul : D → D → Option D
  | .int i, .int j => if i.natAbs.log2 + j.natAbs.log2 < 1000000 then some (.int (i * j)) else none
  | .str z, .int k => if -(2 ^ 63) ≤ k ∧ k < 2 ^ 63 ∧ z.length * k.toNat ≤ sizeLine then some (.str (repS z k)) else none
  | .list xs, .int k => if -(2 ^ 63) ≤ k ∧ k < 2 ^ 63 ∧ xs.length * k.toNat ≤ sizeLine then some (.list (List.replicate k.toNat xs).flatten) else none
  | _, _ => none
def fRepL : D → D → Option (List D)
  | .list xs, .int k => if -(2 ^ 63) ≤ k ∧ k < 2 ^ 63 ∧ xs.length * k.toNat ≤ sizeLine then some (List.replicate k.toNat xs).flatten else none
  | _, _ => none
theorem Reps.rep {A : Addr → Prop} {H : Hp} {vs : List V} {xs : List D} (r : Reps A H vs xs) : ∀ n : Nat, Reps A H (List.replicate n vs).flatten (List.replicate n xs).flatten
  | 0 => .nil
  | n + 1 => by
    rw [List.replicate_succ, List.flatten_cons, List.replicate_succ, List.flatten_cons]
    exact r.append (Reps.rep r n)
theorem opRepN : Op2N rMulX fRepL := fun A H v w x y z dom hx hy h => by
  unfold fRepL at h
  split at h
  · split at h
    · rename_i hl
      cases h
      obtain ⟨a, vs, rfl, h1, r1⟩ := hx.lst
      rw [hy.int]
      exact fun Q q => .inr (.inr ⟨a, _, vs, rfl, rfl, h1, hl.1, hl.2.1, by rw [r1.len]; exact hl.2.2, fun p hp => q p _ hp (r1.rep _)⟩)
    · cases h
  · cases h
theorem opMul : Op2 rMulX fMul := fun A H v w x y z dom hx hy h => by
  unfold fMul at h
  split at h
  · split at h
    · rename_i hj
      cases h
      rw [hx.int, hy.int]
      exact gives_flat (fun _ => .int _) fun Q q => .inl ⟨_, _, rfl, rfl, hj, q⟩
    · cases h
  · split at h
    · rename_i hj
      cases h
      rw [hx.str, hy.int]
      exact gives_flat (fun _ => .str _) fun Q q => .inr (.inl ⟨_, _, rfl, rfl, hj.1, hj.2.1, hj.2.2, q⟩)
    · cases h
  · rename_i xs k
    split at h
    · rename_i hj
      cases h
      exact givesN_gives dom (opRepN A H v w _ _ _ dom hx hy (by unfold fRepL; exact if_pos hj))
    · cases h
  · cases h
end DK
end
section
set_option maxRecDepth 100000
namespace DK
open PySem PySem.Spec PyProof.Rows L2
variable {κ : XI}
def sRetN : SR := fun d => some (.rt .none d)
theorem simRetN : SimS κ tRetN sRetN := fun c σ H d own R o h De p => by
  cases h
  exact p .non σ H own R .non
/-- a, b = x, y -/
def sPar (i j : Nat) (a : AR) : SR := fun d => bd (a d) fun xs d1 => match xs with
  | [x, y] => if notFd d1[i]? = true ∧ notFd d1[j]? = true ∧ i ≠ j then some (.nx ((d1.set i (.fz x)).set j (.fz y))) else none
  | _ => none
theorem simPar {i j : Nat} {ta : TA} {a : AR} (sa : SimA κ ta a) : SimS κ (tPar i j ta) (sPar i j a) := fun c σ H d own R o h De p => by
  obtain ⟨xs, d1, e, h⟩ := of_bd h
  split at h
  · rename_i x y
    split at h
    · rename_i hn
      cases h
      refine sa c σ H d own R _ _ e _ fun vs H1 own1 S rs => ?_
      cases rs with
      | cons r rs =>
        cases rs with
        | cons r' rs =>
          cases rs
          have R1 := R.leave S
          refine ⟨_, _, rfl, p _ H1 _ ((R1.store hn.1 r).store ?_ (r'.tr fun a o n z => ⟨Av_drop n, z⟩))⟩
          rw [List.getElem?_set_ne hn.2.2]
          exact hn.2.1
    · cases h
  · cases h
/-- any value as a test -/
def truD : D → Option Bool
  | .none => some false
  | .bool b => some b
  | .int i => some (i != 0)
  | .str z => if z.length ≤ sizeLine then some ((z.length : Int) != 0) else none
  | .list xs => some (!xs.isEmpty)
  | .tuple xs => some (!xs.isEmpty)
  | .dict _ => none
end DK
end
section
set_option maxRecDepth 100000
/-! zip over lists and texts in any mix -/
namespace DK
open PySem PySem.Spec PyProof.Rows L2
variable {κ : XI}
/-- what zip draws from -/
inductive Src
  | tx (x : Str)
  | ls (a : Addr)
def Src.val : Src → V
  | .tx x => .str x
  | .ls a => .ref a
def txV (x : Str) : List V := x.cps.toList.map fun c => V.str ⟨#[c]⟩
def Src.has (K : PySem.W.Frag) (H : Hp) : Src → List V → Prop
  | .tx x, xs => xs = txV x
  | .ls a, xs => SqL K H a xs
def Src.itr (h : Heap) (i : Addr) (k : Nat) : Src → Prop
  | .tx x => ∃ t, h.IsStrIter i (strIterType x) x t k
  | .ls a => h.IsListIter i a k
def Src.low (n : Addr) : Src → Prop
  | .tx _ => True
  | .ls a => a < n
theorem Src.itr_at {sr : Src} {h h' : Heap} {i : Addr} {k : Nat} (st : sr.itr h i k) (e : ∀ o, h.get? i = some o → h'.get? i = some o) : sr.itr h' i k := by
  cases sr with
  | tx x =>
    obtain ⟨t, o, h1, h2, h3⟩ := st
    exact ⟨t, o, e o h1, h2, h3⟩
  | ls a => exact Heap.IsListIter.at st e
theorem Src.itr_obj {sr : Src} {h : Heap} {i : Addr} {k : Nat} (st : sr.itr h i k) : ∃ o, h.get? i = some o ∧ ∀ v, o.data ≠ .cell v := by
  cases sr with
  | tx x =>
    obtain ⟨t, o, h1, h2, h3⟩ := st
    exact ⟨o, h1, fun v z => by rw [h3] at z; cases z⟩
  | ls a =>
    obtain ⟨o, h1, h2, h3⟩ := st
    exact ⟨o, h1, fun v z => by rw [h3] at z; cases z⟩
/-- the drawing of a source, as it stands -/
structure SrcDraws (X : Cx) (sr : Src) (i : Addr) (xs : List V) (k : Nat) (h : Heap) (fp : List Addr) (P : Nat → Value → Prop) (St : Nat → Heap → Prop) : Prop where
  draws : Draws X.prog X.w X.A.in1 i fp xs.length P St
  now : St k h
  back : ∀ j g, St j g → sr.itr g i j
  item : ∀ j u, P j u → ∃ v, xs[j]? = some v ∧ RelV v u
  own : i ∈ fp
  only : ∀ b ∈ fp, b = i ∨ sr = .ls b
theorem src_draws {X : Cx} {pins : List (Addr × Obj)} {σ : L2.St} {H : Hp} {s : Shared} {sr : Src} {i : Addr} {xs : List V} {k : Nat} (I : Inv X pins σ H s) (hc : X.calm = true) (hs : sr.has X.K H xs) (hi : sr.itr s.heap i k) (ne : sr ≠ .ls i) :
    ∃ fp P St, SrcDraws X sr i xs k s.heap fp P St := by
  cases sr with
  | tx x =>
    obtain ⟨t, st⟩ := hi
    obtain rfl : xs = txV x := hs
    have hl : (txV x).length = x.cps.size := by unfold txV; rw [List.length_map, Array.length_toList]
    refine ⟨[i], _, _, ⟨by rw [hl]; exact Draws.text (A := X.A.in1) (I.ok.hd hc) i x t, st, fun j g q => ⟨t, q⟩, fun j u p => ?_, List.mem_singleton.mpr rfl, fun b hb => .inl (List.mem_singleton.mp hb)⟩⟩
    obtain ⟨c, v, e, rfl⟩ := p
    refine ⟨.str ⟨#[c]⟩, ?_, ⟨v, rfl⟩⟩
    unfold txV
    rw [List.getElem?_map, Array.getElem?_toList, e]
    rfl
  | ls a =>
    obtain ⟨its, rv, p, _⟩ := I.list hs
    have hl := rv.length
    have na : a ≠ i := fun z => ne (by rw [z])
    refine ⟨[i, a], (fun j v => its.toArray[j]? = some v), (fun j h => h.IsListIter i a j ∧ h.IsList a its.toArray), ⟨by rw [hl, ← List.size_toArray]; exact Draws.list (A := X.A.in1) (I.ok.hd hc) i a na its.toArray, ⟨hi, p.isList⟩, fun j g q => q.1, fun j u q => ?_, List.mem_cons_self, fun b hb => ?_⟩⟩
    · have q : its[j]? = some u := by simpa using q
      have hj : j < xs.length := by
        rw [hl]
        exact (List.getElem?_eq_some_iff.mp q).1
      obtain ⟨v, hv, rv2⟩ := rv.get (List.getElem?_eq_getElem hj)
      rw [q] at hv
      cases hv
      exact ⟨_, List.getElem?_eq_getElem hj, rv2⟩
    · rcases List.mem_cons.mp hb with z | z
      · exact .inl z
      · rw [List.mem_singleton.mp z]
        exact .inr rfl
/-- the sources as they stand at each turn, the items in new pairs -/
def Itg (K : PySem.W.Frag) (a b : Src) : It :=
  ⟨fun i H => ∃ xs ys, a.has K H xs ∧ b.has K H ys ∧ i < min xs.length ys.length,
    fun i H v H' => ∃ T x y, v = .ref T ∧ H T = none ∧ H' = upd H T (.tup [x, y]) ∧ (∀ xs, a.has K H xs → xs[i]? = some x) ∧ ∀ ys, b.has K H ys → ys[i]? = some y,
    fun i H => ∃ xs ys, a.has K H xs ∧ b.has K H ys ∧ i = min xs.length ys.length⟩
theorem has_inj {X : Cx} {pins : List (Addr × Obj)} {σ : L2.St} {H : Hp} {s : Shared} {sr : Src} {xs ys : List V} (I : Inv X pins σ H s) (h1 : sr.has X.K H xs) (h2 : sr.has X.K H ys) : xs = ys := by
  cases sr with
  | tx x => exact h1.trans h2.symm
  | ls a => exact I.list_inj h1 h2
structure ZipAp (a b : Src) (z TI TO i1 i2 : Addr) : Prop where
  sep : ∀ fp1 fp2 : List Addr, i1 ∈ fp1 → i2 ∈ fp2 → (∀ c ∈ fp1, c = i1 ∨ a = .ls c) → (∀ c ∈ fp2, c = i2 ∨ b = .ls c) → ZipSep2 z TI TO i1 i2 fp1 fp2
  na : a ≠ .ls i1
  nb : b ≠ .ls i2
theorem turn_zipG {P : Program} {w : World} {K : PySem.W.Frag} {elts : List Expr} {kk : Nat} {tpos : Pos} {a b : Src} {z TI TO i1 i2 : Addr} (D : ZipAp a b z TI TO i1 i2) :
    Turn P w K (.Tuple elts kk tpos) (Itg K a b) [z, TI, TO, i1, i2] z (fun i h => IsZip h z TI TO .none ∧ IsTupOf2 h TI (.ref i1) (.ref i2) ∧ (∃ x y, IsTupOf2 h TO x y) ∧ a.itr h i1 i ∧ b.itr h i2 i) where
  mem := List.mem_cons_self
  obj := fun i h st c hc => by
    obtain ⟨hz, hTI, ⟨x, y, hTO⟩, h1, h2⟩ := st
    have e' : c = z ∨ c = TI ∨ c = TO ∨ c = i1 ∨ c = i2 := by simpa using hc
    rcases e' with rfl | rfl | rfl | rfl | rfl
    · exact ⟨_, hz, fun v q => nomatch q⟩
    · exact ⟨_, hTI, fun v q => nomatch q⟩
    · exact ⟨_, hTO, fun v q => nomatch q⟩
    · exact Src.itr_obj h1
    · exact Src.itr_obj h2
  keep := fun i h h' st k => by
    obtain ⟨hz, hTI, ⟨x, y, hTO⟩, h1, h2⟩ := st
    exact ⟨k z (by simp) _ hz, k TI (by simp) _ hTI, ⟨x, y, k TO (by simp) _ hTO⟩, Src.itr_at h1 (k i1 (by simp)), Src.itr_at h2 (k i2 (by simp))⟩
  item := by
    intro X hP hw hK hc i pins s σ H E I hf st hg
    subst hP hw hK
    obtain ⟨hz, hTI, hTO, h1, h2⟩ := st
    obtain ⟨xs, ys, hx, hy, hi⟩ := hg
    obtain ⟨fp1, P1, St1, S1⟩ := src_draws I hc hx h1 D.na
    obtain ⟨fp2, P2, St2, S2⟩ := src_draws I hc hy h2 D.nb
    have W := GoesN.zip2 (elts := elts) (x1 := kk) (pos := tpos) (D.sep fp1 fp2 S1.own S2.own S1.only S2.only) S1.draws S2.draws
    refine W.goes i s _ E hi ⟨hz, hTI, hTO, S1.now, S2.now⟩ fun v h' tk hY st' hk ht => ?_
    obtain ⟨T, x, y, rfl, hT, px, py, tT⟩ := hY
    obtain ⟨vx, ex, rx⟩ := S1.item i x px
    obtain ⟨vy, ey, ry⟩ := S2.item i y py
    obtain ⟨oT, hoT, hcT, hfT, hdT⟩ := tT
    have new : ObjOk X.prog X.w (upd H T (.tup [vx, vy])) h' T (.tup [vx, vy]) := ⟨by show 2 ≤ sizeLine; decide, [x, y], .cons rx (.cons ry .nil), ⟨_, hoT, hcT, hfT, hdT⟩⟩
    have I1 : Inv X pins σ (upd H T (.tup [vx, vy])) { s with heap := h', toks := tk } := I.turnedNew (ch := [z, TI, TO, i1, i2]) (fun c o hb q => hk c o (fun q' => hb (by
      have e' : c = z ∨ c = TO ∨ c = i1 ∨ c = i2 := by simpa using q'
      rcases e' with e | e | e | e <;> simp [e])) q) hf hT new
    refine ⟨.ref T, _, I1, rfl, ⟨T, vx, vy, rfl, I.hok.fresh hT, rfl, fun l hl => by rw [has_inj I hl hx]; exact ex, fun l hl => by rw [has_inj I hl hy]; exact ey⟩, ⟨st'.1, st'.2.1, st'.2.2.1, S1.back _ _ st'.2.2.2.1, S2.back _ _ st'.2.2.2.2⟩, fun c hcm => ?_⟩
    have hlt : c < s.heap.objs.size := by
      have e' : c = z ∨ c = TI ∨ c = TO ∨ c = i1 ∨ c = i2 := by simpa using hcm
      obtain ⟨x0, y0, hTO⟩ := hTO
      rcases e' with rfl | rfl | rfl | rfl | rfl
      · exact Heap.lt_size hz
      · exact Heap.lt_size hTI
      · exact Heap.lt_size hTO
      · obtain ⟨_, e1, _⟩ := Src.itr_obj h1
        exact Heap.lt_size e1
      · obtain ⟨_, e1, _⟩ := Src.itr_obj h2
        exact Heap.lt_size e1
    rw [upd_ne (Nat.ne_of_lt (Nat.lt_of_lt_of_le hlt hT))]
    exact (hf c hcm).1
  done := by
    intro X hP hw hK hc i pins s σ H E I hf st hg
    subst hP hw hK
    obtain ⟨hz, hTI, hTO, h1, h2⟩ := st
    obtain ⟨xs, ys, hx, hy, rfl⟩ := hg
    obtain ⟨fp1, P1, St1, S1⟩ := src_draws I hc hx h1 D.na
    obtain ⟨fp2, P2, St2, S2⟩ := src_draws I hc hy h2 D.nb
    have W := GoesN.zip2 (elts := elts) (x1 := kk) (pos := tpos) (D.sep fp1 fp2 S1.own S2.own S1.only S2.only) S1.draws S2.draws
    exact W.stops s _ E ⟨hz, hTI, hTO, S1.now, S2.now⟩ fun h' tk hk ht => I.turnedL (t' := tk) (ch := [z, TI, TO, i1, i2]) (fun c o hb q => hk c o (fun q' => hb (by
      have e' : c = z ∨ c = TO ∨ c = i1 ∨ c = i2 := by simpa using q'
      rcases e' with e | e | e | e <;> simp [e])) q) hf
  self := fun A i s Q E st h => wpAny_pyIter_zip st.1 h
def iZipG (K : PySem.W.Frag) (ta : TA) : TI := fun σ H R => ta σ H fun vs H1 => ∃ a b xs ys, vs = [a.val, b.val] ∧ Src.has K H1 a xs ∧ Src.has K H1 b ys ∧ R (Itg K a b) H1
/-- how a source begins -/
theorem src_begins {X : Cx} {pins : List (Addr × Obj)} {σ : L2.St} {H : Hp} {s : Shared} {sr : Src} {xs : List V} {u : Value} (I : Inv X pins σ H s) (hs : sr.has X.K H xs) (r : RelV sr.val u) :
    ∃ o G, Begins u o G ∧ G s.heap ∧ (∀ h i, h.get? i = some o → sr.itr h i 0) ∧ sr.low s.heap.objs.size := by
  cases sr with
  | tx x =>
    obtain ⟨t, rfl⟩ := r
    exact ⟨_, _, begins_text x t, trivial, fun h i e => ⟨t, _, e, rfl, rfl⟩, trivial⟩
  | ls a =>
    obtain rfl : u = Value.ref a := r
    obtain ⟨its, rv, p, _⟩ := I.list hs
    exact ⟨_, _, begins_list a its.toArray, p.isList, fun h i e => ⟨_, e, rfl, rfl⟩, p.lt⟩
theorem low_ls {a : Src} {n : Nat} (h : a.low n) : ∀ c : Nat, a = .ls c → c < n := fun c e => by
  subst e
  exact h
theorem zip_apart {a b : Src} {n : Nat} (ha : a.low n) (hb : b.low n) : ZipAp a b (n + 4 : Nat) (n + 2 : Nat) (n + 3 : Nat) n (n + 1 : Nat) := by
  have fa := low_ls ha
  have fb := low_ls hb
  refine ⟨fun fp1 fp2 m1 m2 o1 o2 => ?_, fun z => Nat.lt_irrefl _ (fa _ z), fun z => absurd (fb _ z) (Nat.not_lt.mpr (Nat.le_succ n))⟩
  have n1 : ∀ c : Nat, n < c → c ∉ (fp1 : List Nat) := fun c h m => by
    rcases o1 c m with e | e
    · have e : c = n := e
      omega
    · have := fa c e
      omega
  have n2 : ∀ c : Nat, n ≤ c → c ≠ n + 1 → c ∉ (fp2 : List Nat) := fun c h k m => by
    rcases o2 c m with e | e
    · exact k e
    · have := fb c e
      omega
  have d : ∀ i j : Nat, i ≠ j → (n + i : Nat) ≠ n + j := fun i j h => by omega
  exact ⟨d 2 4 (by decide), d 3 4 (by decide), d 2 3 (by decide), d 2 0 (by decide), m1, n1 (n + 4) (by omega), n1 (n + 3) (by omega), d 2 1 (by decide), m2, n2 (n + 4) (by omega) (by omega), n2 (n + 3) (by omega) (by omega), n2 n (by omega) (by omega), n1 (n + 1) (by omega)⟩
theorem pi_zipG {X : Cx} {e e2 : Expr} {ta : TA} {p pos tpos : Pos} {elts : List Expr} {kk : Nat} (hg : Gl X "zip") (hm : X.mg "zip" = none) (ha : PA X [e, e2] ta)
    (hs : starEach [e, e2] X.env = (false, eval e X.env) :: starEach [e2] X.env := by rfl) (hpl : (backTo pos (starEach [e2] X.env)).any (·.1) = false := by rfl) :
    PI X (.Tuple elts kk tpos) (.Call (.Name "zip" p) [e, e2] [] pos) (iZipG X.K ta) := by
  refine ⟨fun pins s σ H R I h => ?_⟩
  refine Call_ (ld_blt I hg hm PyProof.Rows.boot_zip (PyProof.Rows.callWith_type1 (thn (ha.run pos pins s σ H _ I h) fun us s1 ⟨vs, H1, I1, r1, a, b, xs, ys, ex, q1, q2, q⟩ => ?_) hs hpl))
  subst ex
  cases r1 with
  | cons ra rr =>
    cases rr with
    | cons rb rr =>
      cases rr
      obtain ⟨o1, G1, B1, g1, t1, w1⟩ := src_begins I1 q1 ra
      obtain ⟨o2, G2, B2, g2, t2, w2⟩ := src_begins I1 q2 rb
      refine zip_begins2 B1 B2 g1 g2 fun h' hz hTI hTO e1 e2 hsz hk => wpAny_pyIter_zip hz ?_
      have I2 : Inv X pins σ H1 { s1 with heap := h' } := I1.kept (t' := s1.toks) hk
      refine ⟨_, [s1.heap.objs.size + 4, s1.heap.objs.size + 2, s1.heap.objs.size + 3, s1.heap.objs.size, s1.heap.objs.size + 1], _, _, H1, rfl, I2, turn_zipG (zip_apart w1 w2), ⟨hz, hTI, ⟨_, _, hTO⟩, t1 _ _ e1, t2 _ _ e2⟩, fun c hc => ?_, q⟩
      have e' : c = s1.heap.objs.size + 4 ∨ c = s1.heap.objs.size + 2 ∨ c = s1.heap.objs.size + 3 ∨ c = s1.heap.objs.size ∨ c = s1.heap.objs.size + 1 := by simpa using hc
      have hle : s1.heap.objs.size ≤ c := by
        rcases e' with e' | e' | e' | e' | e' <;> rw [e'] <;> first | exact Nat.le_refl _ | exact Nat.le_add_right _ _
      exact I1.fpOk hle (I1.hok.fresh hle)
/-! the run -/
def srcItems : D → Option (List D)
  | .list xs => some xs
  | .str z => some (chars z)
  | _ => none
def iZG (a : AR) : IR := fun d => bd (a d) fun us d1 => match us with
  | [x, y] => ob (srcItems x) fun xs => ob (srcItems y) fun ys => some (pairsOf xs ys, d1)
  | _ => none
/-- a source's items, wherever the heap keeps what is not written -/
theorem src_rep {K : PySem.W.Frag} {A : Addr → Prop} {H : Hp} {v : V} {x : D} {xs : List D} (r : Rep A H v x) (e : srcItems x = some xs) :
    ∃ (sr : Src) (ws : List V), v = sr.val ∧ Reps A H ws xs ∧ ∀ H' : Hp, (∀ a o, ¬ A a → H a = some o → H' a = some o) → sr.has K H' ws := by
  cases x with
  | list zs =>
    cases e
    cases r with
    | @lst a ws _ na hv rs => exact ⟨.ls a, ws, rfl, rs, fun H' h => .inl (.inl (h a _ na hv))⟩
  | str z =>
    cases e
    cases r
    refine ⟨.tx z, txV z, rfl, ?_, fun _ _ => rfl⟩
    unfold txV chars
    induction z.cps.toList with
    | nil => exact .nil
    | cons c l ih => exact .cons (.str _) ih
  | _ => cases e
theorem walk_zipG {K : PySem.W.Frag} {a b : Src} {xs ys : List V} {n : Nat} (hn : n = min xs.length ys.length) : Walk (Itg K a b) n (fun H => a.has K H xs ∧ b.has K H ys) (YPair (fun i => xs[i]?) (fun i => ys[i]?)) := by
  subst hn
  refine ⟨fun i _ hi q => ⟨xs, ys, q.1, q.2, hi⟩, fun _ q => ⟨xs, ys, q.1, q.2, rfl⟩, fun i H v H' _ q y => ?_⟩
  obtain ⟨T, x, z, h1, h2, h3, h4, h5⟩ := y
  exact ⟨T, x, z, h1, h2, h3, h4 xs q.1, h5 ys q.2⟩
theorem simIZG {K : PySem.W.Frag} {ta : TA} {a : AR} (sa : SimA κ ta a) : SimI κ (iZipG K ta) (iZG a) := fun c σ H d own R xs d' h Q q => by
  obtain ⟨us, d1, e, h⟩ := of_bd h
  refine sa c σ H d own R us d1 e _ fun vs H1 own1 S rs => ?_
  split at h
  · rename_i x y
    obtain ⟨ws, ew, h⟩ := of_ob h
    obtain ⟨zs, ez, h⟩ := of_ob h
    cases h
    cases rs with
    | cons r rs =>
      cases rs with
      | cons r' rs =>
      cases rs
      obtain ⟨s1, w1, rfl, p1, k1⟩ := src_rep (K := K) r ew
      obtain ⟨s2, w2, rfl, p2, k2⟩ := src_rep (K := K) r' ez
      refine ⟨s1, s2, w1, w2, rfl, k1 H1 fun _ _ _ z => z, k2 H1 fun _ _ _ z => z, q _ H1 own1 S ?_⟩
      refine ⟨⟨fun H => s1.has K H w1 ∧ s2.has K H w2, _, by rw [pairsOf_len]; exact walk_zipG (xs := w1) (ys := w2) (by rw [p1.len, p2.len]), fun c' σ2 H2 d2 own2 e0 ef R2 => ?_, ?_⟩⟩
      · have kp : ∀ a o, ¬ Av (c.at own H) own1 a → H1 a = some o → H2 a = some o := fun a o na hv => R2.keep a _ (by rw [e0, hide_not fun z => na (.inr z)]; exact hv) (by rw [ef]; intro z; cases z)
        exact ⟨k1 H2 kp, k2 H2 kp⟩
      · rintro i x c' σ2 H2 d2 own2 v H3 e0 ef hO R2 hx ⟨T, v1, v2, rfl, nT, e3, h1, h2⟩
        obtain ⟨x1, x2, g1, g2, rfl⟩ := pairsOf_get hx
        obtain ⟨w, h3, r3⟩ := p1.get g1
        obtain ⟨w', h4, r4⟩ := p2.get g2
        have h1' : w1[i]? = some v1 := h1
        have h2' : w2[i]? = some v2 := h2
        rw [h1'] at h3
        cases h3
        rw [h2'] at h4
        cases h4
        exact pairRep nT R2.domA e3 (r3.tr fun b o n z => later e0 ef hO R2 n z) (r4.tr fun b o n z => later e0 ef hO R2 n z)
  · cases h
end DK
end
section
set_option maxRecDepth 100000
/-! sorted of ints and of texts, any number of them -/
namespace DK
open PySem PySem.Spec PyProof.Rows L2
/-! ### texts in order -/
def sv : Value → Str
  | .str x _ => x
  | _ => ⟨#[]⟩
def ltC (a b : Str) : Bool := decide (a.cps.toList < b.cps.toList)
def ltSv (v u : Value) : Bool := ltC (sv v) (sv u)
theorem lex_total (a b : List Nat) : ¬ a < b → ¬ b < a → a = b := fun h1 h2 => List.le_antisymm h2 h1
theorem ltC_asymm {a b : Str} (h : ltC a b = true) : ltC b a = false := decide_eq_false fun z => List.lt_irrefl _ (List.lt_trans (of_decide_eq_true h) z)
theorem ltC_trans' {a b c : Str} (h1 : ltC b a = false) (h2 : ltC c b = false) : ltC c a = false :=
  decide_eq_false fun z => by
    have k1 := of_decide_eq_false h1
    have k2 := of_decide_eq_false h2
    by_cases k : a.cps.toList < b.cps.toList
    · exact k2 (List.lt_trans z k)
    · rw [lex_total _ _ k k1] at z
      exact k2 z
theorem swo_str : SrtO.Swo ltSv := ⟨fun x y h => ltC_asymm h, fun x y z h1 h2 => ltC_trans' h1 h2⟩
theorem strs_mem : ∀ {vs : List Value} {ns : List Str}, StrsAre vs ns → ∀ v ∈ vs, ∃ i t, v = Value.str i t
  | _, _, .nil, v, h => absurd h (by simp)
  | _, _, .cons n t r, v, h => by
    rcases List.mem_cons.mp h with e | h
    · exact ⟨n, t, e⟩
    · exact strs_mem r v h
theorem strs_sv : ∀ {vs : List Value}, (∀ v ∈ vs, ∃ i t, v = Value.str i t) → StrsAre vs (vs.map sv)
  | [], _ => .nil
  | v :: vs, h => by
    obtain ⟨i, t, e⟩ := h v List.mem_cons_self
    subst e
    exact .cons i t (strs_sv fun u hu => h u (List.mem_cons_of_mem _ hu))
theorem sv_strs : ∀ {vs : List Value} {ns : List Str}, StrsAre vs ns → vs.map sv = ns
  | _, _, .nil => rfl
  | _, _, .cons n t r => congrArg (n :: ·) (sv_strs r)
theorem strs_can {prog : Program} {w : World} {A : Around} {s : Shared} {a : Addr} {vs : List Value} {ns : List Str} (hI : StrsAre vs ns) (h2 : 2 ≤ vs.length) : SrtO.SortableO prog w A s a vs ltSv := by
  intro h' _
  refine ⟨oneType', fun Q E hq => ?_, fun p q hm hm' => ?_⟩
  · match vs, hI, h2 with
    | v1 :: v2 :: rest, hI, _ =>
      rw [keyKind_strs hI]
      exact wpAny_pure hq
    | [], _, h => exact absurd h (by decide)
    | [v], _, h => exact absurd h (by simp)
  · obtain ⟨x, t, e⟩ := strs_mem hI _ hm
    obtain ⟨y, u, e'⟩ := strs_mem hI _ hm'
    show wpAny (model prog w) A (keyLt' oneType' p.1 q.1) (fun r s' => s' = _ ∧ r = ltSv p.1 q.1) (fun _ _ => False) _
    rw [e, e', keyLt'_oneType]
    exact oneLt_str ⟨rfl, rfl⟩
def leC (a b : Str) : Prop := ltC b a = false
/-- sorted(xs) of texts -/
def rSortTx (K : PySem.W.Frag) : List V → Hp → VK → Prop := fun vs H Q => ∃ (a : Addr) (ss : List Str), vs = [V.ref a] ∧ SqL K H a (ss.map V.str) ∧
  ∀ (ts : List Str) (p : Addr), ts.Perm ss → ts.Pairwise leC → H p = none → Q (.ref p) (upd H p (.lst (ts.map V.str)))
theorem cr_sortTx {X : Cx} : CallR X (.builtin "sorted") (rSortTx X.K) := by
  intro pins s σ H vs us Q I r h
  obtain ⟨a, ss, rfl, hs, q⟩ := h
  obtain ⟨its, rv, hl, hz⟩ := I.list hs
  have hu : us = [Value.ref a] := Vals.ref1 r
  subst hu
  have hi := rv.strs
  refine SrtO.sorted_ord swo_str hl.isList (by rw [← rv.length]; exact hz) (fun h2 g c _ _ => strs_can hi h2) fun out o1 o2 => ?_
  have om : ∀ v ∈ out, ∃ i t, v = Value.str i t := fun v hv => strs_mem hi v (o2.perm.mem_iff.mp hv)
  have op : (out.map sv).Perm ss := by
    have := o2.perm.map sv
    rw [sv_strs hi] at this
    exact this
  have oo : (out.map sv).Pairwise leC := List.pairwise_map.mpr (o1.imp fun {x y} z => z)
  obtain ⟨ep, he'⟩ := PyProof.Rows.sortedAll_at s.heap its out.toArray
  have hlen : ((out.map sv).map V.str).length ≤ sizeLine := by
    rw [List.length_map, op.length_eq]
    rw [List.length_map] at hz
    exact hz
  refine ⟨.ref _, upd H (s.heap.objs.size + 1) (.lst ((out.map sv).map V.str)), I.laid (t' := s.toks) (fun _ _ => PyProof.Rows.sortedAll_old) (Nat.le_succ _) ⟨hlen, out, ep, vals_of_strs (strs_sv om), he'⟩, rfl, ?_⟩
  exact q _ _ op oo (I.hok.fresh (Nat.le_succ _))
/-! ### a list put in order, as a function -/
section
variable {α : Type} (lt : α → α → Bool)
def ins (x : α) : List α → List α
  | [] => [x]
  | y :: r => if lt y x = true then y :: ins x r else x :: y :: r
def isort : List α → List α
  | [] => []
  | x :: r => ins lt x (isort r)
theorem ins_perm (x : α) : ∀ l : List α, (ins lt x l).Perm (x :: l)
  | [] => List.Perm.refl _
  | y :: r => by
    unfold ins
    by_cases h : lt y x = true
    · rw [if_pos h]
      exact ((ins_perm x r).cons y).trans (List.Perm.swap x y r)
    · rw [if_neg h]
theorem isort_perm : ∀ l : List α, (isort lt l).Perm l
  | [] => List.Perm.refl _
  | x :: r => (ins_perm lt x _).trans ((isort_perm r).cons x)
/-- an order that tells all apart -/
structure Ord : Prop where
  as : ∀ x y, lt x y = true → lt y x = false
  tr : ∀ x y z, lt y x = false → lt z y = false → lt z x = false
  eq : ∀ x y, lt x y = false → lt y x = false → x = y
variable {lt}
theorem ins_srt (O : Ord lt) (x : α) : ∀ l : List α, l.Pairwise (fun a b => lt b a = false) → (ins lt x l).Pairwise (fun a b => lt b a = false)
  | [], _ => List.pairwise_singleton _ _
  | y :: r, h => by
    obtain ⟨h1, h2⟩ := List.pairwise_cons.mp h
    unfold ins
    by_cases k : lt y x = true
    · rw [if_pos k]
      refine List.pairwise_cons.mpr ⟨fun z hz => ?_, ins_srt O x r h2⟩
      rcases List.mem_cons.mp ((ins_perm lt x r).mem_iff.mp hz) with e | e
      · rw [e]
        exact O.as _ _ k
      · exact h1 z e
    · rw [if_neg k]
      have k : lt y x = false := by simpa using k
      refine List.pairwise_cons.mpr ⟨fun z hz => ?_, h⟩
      rcases List.mem_cons.mp hz with e | e
      · rw [e]
        exact k
      · exact O.tr _ _ _ k (h1 z e)
theorem isort_srt (O : Ord lt) : ∀ l : List α, (isort lt l).Pairwise (fun a b => lt b a = false)
  | [] => .nil
  | x :: r => ins_srt O x _ (isort_srt O r)
theorem srt_uniq (O : Ord lt) : ∀ {l m : List α}, l.Pairwise (fun a b => lt b a = false) → m.Pairwise (fun a b => lt b a = false) → l.Perm m → l = m
  | [], m, _, _, p => (List.Perm.nil_eq p)
  | x :: l, [], _, _, p => absurd p.length_eq (by simp)
  | x :: l, y :: m, h1, h2, p => by
    obtain ⟨a1, a2⟩ := List.pairwise_cons.mp h1
    obtain ⟨b1, b2⟩ := List.pairwise_cons.mp h2
    have e : x = y := by
      rcases List.mem_cons.mp (p.mem_iff.mp List.mem_cons_self) with e | e
      · exact e
      · rcases List.mem_cons.mp (p.mem_iff.mpr List.mem_cons_self) with e2 | e2
        · exact e2.symm
        · exact O.eq _ _ (b1 x e) (a1 y e2)
    subst e
    rw [srt_uniq O a2 b2 (List.Perm.cons_inv p)]
end
def ltZ (i j : Int) : Bool := decide (i < j)
theorem ordZ : Ord ltZ := ⟨fun x y h => decide_eq_false (by have := of_decide_eq_true h; omega), fun x y z h k => decide_eq_false (by have := of_decide_eq_false h; have := of_decide_eq_false k; omega), fun x y h k => by have := of_decide_eq_false h; have := of_decide_eq_false k; omega⟩
theorem str_ext {a b : Str} (h : a.cps.toList = b.cps.toList) : a = b := by
  cases a
  cases b
  exact congrArg Str.mk (Array.toList_inj.mp h)
theorem ordC : Ord ltC := ⟨fun x y h => ltC_asymm h, fun x y z h k => ltC_trans' h k, fun x y h k => str_ext (lex_total _ _ (of_decide_eq_false h) (of_decide_eq_false k))⟩
def rSortX (K : PySem.W.Frag) : List V → Hp → VK → Prop := fun vs H Q => rSortedI K vs H Q ∨ rSortTx K vs H Q
theorem cr_sortX {X : Cx} : CallR X (.builtin "sorted") (rSortX X.K) := by
  intro pins s σ H vs us Q I r h
  rcases h with h | h
  · exact cr_sortedI pins s σ H vs us Q I r h
  · exact cr_sortTx pins s σ H vs us Q I r h
def fSort : List D → Option (List D)
  | [.list xs] => match intsOf xs with
    | some ns => some ((isort ltZ ns).map .int)
    | none => match strsOf xs with
      | some ss => some ((isort ltC ss).map .str)
      | none => none
  | _ => none
theorem opSort {K : PySem.W.Frag} : OpAN (rSortX K) fSort := fun A H vs xs z dom hx h => by
  unfold fSort at h
  split at h
  · obtain ⟨v, rfl, r⟩ := hx.one
    obtain ⟨a, ws, rfl, h1, rs⟩ := r.lst
    split at h
    · rename_i ns e
      cases h
      rw [intsOf_eq e] at rs
      rw [rs.ints] at h1
      refine fun Q q => .inl ⟨a, ns, rfl, .inl (.inl h1), fun ms p pm pw hp => ?_⟩
      have : ms = isort ltZ ns := srt_uniq ordZ (pw.imp fun {i j} k => decide_eq_false (by omega)) (isort_srt ordZ ns) (pm.trans (isort_perm ltZ ns).symm)
      subst this
      exact q p _ hp (Reps.of_ints _)
    · split at h
      · rename_i ss e
        cases h
        rw [strsOf_eq e] at rs
        rw [rs.strs] at h1
        refine fun Q q => .inr ⟨a, ss, rfl, .inl (.inl h1), fun ms p pm pw hp => ?_⟩
        have : ms = isort ltC ss := srt_uniq ordC pw (isort_srt ordC ss) (pm.trans (isort_perm ltC ss).symm)
        subst this
        exact q p _ hp (Reps.of_strs _)
      · cases h
  · cases h
end DK
end
section
set_option maxRecDepth 100000
/-! isinstance, all, any, sorted and min and max of any data, text methods, list.index -/
namespace DK
open PySem PySem.Spec PyProof.Rows L2
variable {κ : XI}

/-! ### isinstance -/
def tyName : D → String
  | .none => "NoneType"
  | .bool _ => "bool"
  | .int _ => "int"
  | .str _ => "str"
  | .list _ => "list"
  | .tuple _ => "tuple"
  | .dict _ => "dict"
def fIsi (T : String) (x : D) : Option D := (kitB (tyName x) T).map .bool
theorem Vw.tyX {K : PySem.W.Frag} {A : Addr → Prop} {H : Hp} {v : V} {x : D} (h : Vw A H v x) : TyX K H v (.type (tyName x)) := by
  rcases h with h | ⟨a, rfl, h⟩
  · cases h with
    | non => exact .base .non
    | bl b => exact .base (.bl b)
    | int i => exact .base (.int i)
    | str z => exact .base (.str z)
    | lst n e r => exact .base (.lst e)
    | tup n e r => exact .base (.tup e)
    | dct n e r => exact .base (.dK e)
  · cases x with
    | list xs =>
      obtain ⟨vs, e, _⟩ := h
      exact .base (.lst e)
    | dict es =>
      obtain ⟨vs, e, _⟩ := h
      exact .base (.dK e)
    | _ => exact h.elim
theorem opIsi {K : PySem.W.Frag} (T : String) : Op1 (fun v H Q => rIsi K [v, .ty T] H Q) (fIsi T) := fun A H v x z dom hx h => by
  unfold fIsi at h
  cases e : kitB (tyName x) T with
  | none => rw [e] at h; cases h
  | some b =>
    rw [e] at h
    cases h
    exact gives_flat (fun _ => .bl _) fun Q q => ⟨v, .ty T, _, _, b, rfl, .ty T, hx.tyX, kit_ty e, q⟩
theorem simIsi {K : PySem.W.Frag} {T : String} {te : TE} {a : BR} (sa : SimB κ te a) : SimE κ (tCB (rIsi K) (tCons te (tCons (tC (.ty T)) tNil))) (rOp1 (fIsi T) a) := simOp1 (opIsi T) sa

/-! ### all, any -/
def boolsOf : List D → Option (List Bool)
  | [] => some []
  | .bool b :: xs => (boolsOf xs).map (b :: ·)
  | _ => none
theorem boolsOf_eq : ∀ {xs : List D} {bs : List Bool}, boolsOf xs = some bs → xs = bs.map .bool
  | [], bs, h => by cases h; rfl
  | x :: xs, bs, h => by
    cases x with
    | bool b =>
      unfold boolsOf at h
      cases e : boolsOf xs with
      | none => rw [e] at h; cases h
      | some cs =>
        rw [e] at h
        cases h
        rw [List.map_cons, boolsOf_eq e]
    | _ => cases h
theorem boolsOf_map : ∀ bs : List Bool, boolsOf (bs.map .bool) = some bs
  | [] => rfl
  | b :: bs => by
    show (boolsOf (bs.map .bool)).map (b :: ·) = _
    rw [boolsOf_map bs]
    rfl
def fAll : List D → Option D
  | [.list xs] => ob (boolsOf xs) fun bs => some (.bool (bs.all id))
  | _ => none
def fAny : List D → Option D
  | [.list xs] => ob (boolsOf xs) fun bs => some (.bool (bs.any id))
  | _ => none
theorem opAll {K : PySem.W.Frag} : OpA (rAll K) fAll := fun A H vs xs z dom hx h => by
  unfold fAll at h
  split at h
  · obtain ⟨bs, e, h⟩ := of_ob h
    cases h
    obtain ⟨v, rfl, r⟩ := hx.one
    obtain ⟨a, ws, rfl, h1, rs⟩ := r.lst
    rw [boolsOf_eq e] at rs
    rw [rs.bools] at h1
    exact gives_flat (fun _ => .bl _) fun Q q => ⟨a, bs, rfl, .inl (.inl h1), q⟩
  · cases h
theorem opAny {K : PySem.W.Frag} : OpA (rAny K) fAny := fun A H vs xs z dom hx h => by
  unfold fAny at h
  split at h
  · obtain ⟨bs, e, h⟩ := of_ob h
    cases h
    obtain ⟨v, rfl, r⟩ := hx.one
    obtain ⟨a, ws, rfl, h1, rs⟩ := r.lst
    rw [boolsOf_eq e] at rs
    rw [rs.bools] at h1
    exact gives_flat (fun _ => .bl _) fun Q q => ⟨a, bs, rfl, .inl (.inl h1), q⟩
  · cases h

/-! ### sorted, of any data that are alike -/
def okS (ds : List D) : Bool := SeqAt.shaped (.list ds) && (ds.all fun x => ds.all fun y => PySem.W.alike x y) && (ds.all (fun x => match x with | .tuple (_ :: _) => true | _ => false) || ds.all (fun x => match x with | .tuple _ => false | .none => false | _ => true))
theorem okS_of {ds : List D} (h : okS ds = true) : SeqAt.shaped (.list ds) = true ∧ PySem.W.AllAlike ds ∧ PySem.W.Sortable ds := by
  unfold okS at h
  rw [Bool.and_eq_true, Bool.and_eq_true, Bool.or_eq_true] at h
  obtain ⟨⟨h1, h2⟩, h3⟩ := h
  refine ⟨h1, fun d hd d' hd' => ?_, ?_⟩
  · exact List.all_eq_true.mp (List.all_eq_true.mp h2 d hd) d' hd'
  · rcases h3 with h3 | h3
    · left
      intro d hd
      have := List.all_eq_true.mp h3 d hd
      cases d with
      | tuple xs => cases xs with
        | nil => cases this
        | cons x r => exact ⟨x, r, rfl⟩
      | _ => cases this
    · right
      intro d hd
      have := List.all_eq_true.mp h3 d hd
      cases d with
      | tuple xs => cases this
      | none => cases this
      | _ => exact ⟨(by intro z; cases z), (by intro xs z; cases z)⟩
def rSortD (K : PySem.W.Frag) : List V → Hp → VK → Prop := fun vs H Q => ∃ (a : Addr) (ws : List V) (ds : List D), vs = [V.ref a] ∧ SqL K H a ws ∧ DpAll K H ws ds ∧ okS ds = true ∧
  ∀ (ps : List (V × D)) (p : Addr), ps.Perm (ws.zip ds) → ps.Pairwise (fun x y => PySem.W.dataLt y.2 x.2 = false) → H p = none → Q (.ref p) (upd H p (.lst (ps.map (·.1))))
theorem dp_len {K : PySem.W.Frag} {H : Hp} : ∀ {ws : List V} {ds : List D}, DpAll K H ws ds → ws.length = ds.length
  | _, _, .nil => rfl
  | _, _, .cons _ r => by rw [List.length_cons, List.length_cons, dp_len r]
section
open PySem.W
theorem each_zip {X : Cx} {pins : List (Addr × Obj)} {σ : L2.St} {H : Hp} {s : Shared} (I : Inv X pins σ H s) : ∀ {ws : List V} {us : List Value} {ds : List D}, Vals ws us → DpAll X.K H ws ds →
    EachIs (fun (u : Value) (p : V × D) => RelV p.1 u) us (ws.zip ds) ∧ EachIs (fun (u : Value) (p : V × D) => ∃ as, Reads s.heap u p.2 as) us (ws.zip ds)
  | _, _, _, .nil, .nil => ⟨.nil, .nil⟩
  | _, _, _, .cons r rs, .cons d ds => by
    obtain ⟨h1, h2⟩ := each_zip I rs ds
    exact ⟨.cons r h1, .cons (Dp.reads I _ _ _ d r) h2⟩
theorem each_vals : ∀ {us : List Value} {ps : List (V × D)}, EachIs (fun (u : Value) (p : V × D) => RelV p.1 u) us ps → Vals (ps.map (·.1)) us
  | _, _, .nil => .nil
  | _, _, .cons r rs => .cons r (each_vals rs)
theorem lt_as (x y : D) (h : dataLt x y = true) : dataLt y x = false := by
  cases e : dataLt y x with
  | false => rfl
  | true =>
    have h1 : (listOrd itemOrd).blt (keyToks x) (keyToks y) = true := h
    have h2 : (listOrd itemOrd).blt (keyToks y) (keyToks x) = true := e
    have := (listOrd itemOrd).trans _ _ _ h1 h2
    rw [(listOrd itemOrd).irrefl] at this
    cases this
theorem lt_tr (x y z : D) (h1 : dataLt y x = false) (h2 : dataLt z y = false) : dataLt z x = false := by
  cases e : dataLt z x with
  | false => rfl
  | true =>
    have h3 : (listOrd itemOrd).blt (keyToks z) (keyToks x) = true := e
    rcases (listOrd itemOrd).negTrans _ (keyToks y) _ h3 with q | q
    · have h2 : (listOrd itemOrd).blt (keyToks z) (keyToks y) = false := h2
      rw [h2] at q
      cases q
    · have h1 : (listOrd itemOrd).blt (keyToks y) (keyToks x) = false := h1
      rw [h1] at q
      cases q
/-- equal tokens, one datum -/
theorem lt_eq {x y : D} (ha : alike x y = true) (h1 : dataLt x y = false) (h2 : dataLt y x = false) : PyData.eqv x y = true := by
  cases e : PyData.eqv x y with
  | true => rfl
  | false =>
    have t : keyToks x = keyToks y := (listOrd itemOrd).total (keyToks x) (keyToks y) h1 h2
    have h3 := (toks_eqv x y ha).2 e [] [.inl 0]
    rw [t, lex_pre] at h3
    have h4 : PyProof.Rows.lexLt itemOrd (keyToks y) (keyToks y) = false := lex_irrefl _
    rw [h4] at h3
    have h5 : PyProof.Rows.lexLt itemOrd [] [.inl 0] = true := rfl
    rw [h5] at h3
    cases h3
theorem cr_sortD {X : Cx} (hu : X.A.units + 70 < cLine) : CallR X (.builtin "sorted") (rSortD X.K) := by
  intro pins s σ H vs us Q I r h
  obtain ⟨a, ws, ds, rfl, hs, hd, ok, q⟩ := h
  obtain ⟨sh, al, so⟩ := okS_of ok
  obtain ⟨its, rv, hl, hz⟩ := I.list hs
  have hu1 : us = [Value.ref a] := Vals.ref1 r
  subst hu1
  have hlen := dp_len hd
  have hzl : (ws.zip ds).length = ws.length := by rw [List.length_zip, hlen, Nat.min_self]
  obtain ⟨e1, e2⟩ := each_zip I rv hd
  have em : (ws.zip ds).map (fun p => p.2) = ds := List.map_snd_zip (by omega)
  have hdep : ∀ d ∈ ds, d.depth ≤ 64 := fun d hd2 => by
    have h1 := SeqAt.depth_of_shaped sh
    have h2 : ∀ l : List D, ∀ d ∈ l, d.depth ≤ PyData.depthAll l := by
      intro l
      induction l with
      | nil => intro d hd; cases hd
      | cons x l ih =>
        intro d hd
        unfold PyData.depthAll
        rcases List.mem_cons.mp hd with z | z
        · rw [z]; omega
        · have := ih d z
          omega
    have := h2 ds d hd2
    unfold PyData.depth at h1
    omega
  refine sorted_data (s := s) (enc := fun p : V × D => p.2) (bs := ws.zip ds) hl.isList e1 e2 (by rw [em]; exact al) (by rw [em]; exact so) (by rw [hzl]; exact hz) (fun b hb => ?_) fun out ho eo => ?_
  · have : b.2 ∈ ds := by rw [← em]; exact List.mem_map.mpr ⟨b, hb, rfl⟩
    have := hdep _ this
    omega
  · have hp := List.mergeSort_perm (ws.zip ds) (dataLe false fun p : V × D => p.2)
    have hw : ((ws.zip ds).mergeSort (dataLe false fun p : V × D => p.2)).Pairwise (fun x y => dataLt y.2 x.2 = false) := by
      have T := sortLe_total (listOrd itemOrd) false (fun p : V × D => keyToks p.2)
      have := List.pairwise_mergeSort (le := dataLe false fun p : V × D => p.2) (fun a b c => T.trans a b c) (fun a b => by rw [Bool.or_eq_true]; exact T.total a b) (ws.zip ds)
      refine this.imp fun {x y} h => ?_
      have h : (!dataLt y.2 x.2) = true := h
      simpa using h
    obtain ⟨ep, he'⟩ := PyProof.Rows.sortedAll_at s.heap its out.toArray
    have rv2 := each_vals eo
    generalize (ws.zip ds).mergeSort (dataLe false fun p : V × D => p.2) = ps at hp hw rv2 eo
    have hl2 : (ps.map (·.1)).length ≤ sizeLine := by rw [List.length_map, hp.length_eq, hzl]; exact hz
    refine ⟨.ref _, upd H (s.heap.objs.size + 1) (.lst (ps.map (·.1))), I.laid (t' := s.toks) (fun _ _ => PyProof.Rows.sortedAll_old) (Nat.le_succ _) ⟨hl2, out, ep, rv2, he'⟩, rfl, ?_⟩
    exact q ps _ hp hw (I.hok.fresh (Nat.le_succ _))
/-- a list in order, told by its members alone -/
theorem srt_uniqOn {α : Type} {lt : α → α → Bool} : ∀ {l m : List α}, (∀ x ∈ l, ∀ y ∈ l, lt x y = false → lt y x = false → x = y) → l.Pairwise (fun a b => lt b a = false) → m.Pairwise (fun a b => lt b a = false) → l.Perm m → l = m
  | [], m, _, _, _, p => (List.Perm.nil_eq p)
  | x :: l, [], _, _, _, p => absurd p.length_eq (by simp)
  | x :: l, y :: m, h, h1, h2, p => by
    obtain ⟨a1, a2⟩ := List.pairwise_cons.mp h1
    obtain ⟨b1, b2⟩ := List.pairwise_cons.mp h2
    have hy := p.mem_iff.mpr List.mem_cons_self
    have e : x = y := by
      rcases List.mem_cons.mp (p.mem_iff.mp List.mem_cons_self) with e | e
      · exact e
      · rcases List.mem_cons.mp hy with e2 | e2
        · exact e2.symm
        · exact h x List.mem_cons_self y hy (b1 x e) (a1 y e2)
    subst e
    rw [srt_uniqOn (fun u hu v hv => h u (List.mem_cons_of_mem _ hu) v (List.mem_cons_of_mem _ hv)) a2 b2 (List.Perm.cons_inv p)]
theorem ins_srtD (x : D) : ∀ l : List D, l.Pairwise (fun a b => dataLt b a = false) → (ins dataLt x l).Pairwise (fun a b => dataLt b a = false)
  | [], _ => List.pairwise_singleton _ _
  | y :: r, h => by
    obtain ⟨h1, h2⟩ := List.pairwise_cons.mp h
    unfold ins
    by_cases k : dataLt y x = true
    · rw [if_pos k]
      refine List.pairwise_cons.mpr ⟨fun z hz => ?_, ins_srtD x r h2⟩
      rcases List.mem_cons.mp ((ins_perm dataLt x r).mem_iff.mp hz) with e | e
      · rw [e]
        exact lt_as _ _ k
      · exact h1 z e
    · rw [if_neg k]
      have k : dataLt y x = false := by simpa using k
      refine List.pairwise_cons.mpr ⟨fun z hz => ?_, h⟩
      rcases List.mem_cons.mp hz with e | e
      · rw [e]
        exact k
      · exact lt_tr _ _ _ k (h1 z e)
theorem isort_srtD : ∀ l : List D, (isort dataLt l).Pairwise (fun a b => dataLt b a = false)
  | [] => .nil
  | x :: r => ins_srtD x _ (isort_srtD r)
/-! data that == cannot tell apart -/
mutual
theorem eqv_eq2 : ∀ (x y : D), alike x y = true → PyData.eqv x y = true → x = y
  | .none, .none, _, _ => rfl
  | .bool a, .bool b, _, h => by simp [PyData.eqv] at h; rw [h]
  | .int a, .int b, _, h => by simp [PyData.eqv] at h; rw [h]
  | .str a, .str b, _, h => by simp [PyData.eqv] at h; rw [h]
  | .list xs, .list ys, ha, h => by rw [eqvAll_eq xs ys (by simpa [alike] using ha) (by simpa [PyData.eqv] using h)]
  | .tuple xs, .tuple ys, ha, h => by rw [eqvAll_eq xs ys (by simpa [alike] using ha) (by simpa [PyData.eqv] using h)]
  | .none, .bool _, ha, _ | .none, .int _, ha, _ | .none, .str _, ha, _ | .none, .list _, ha, _ | .none, .tuple _, ha, _ | .none, .dict _, ha, _ => by simp [alike] at ha
  | .bool _, .none, ha, _ | .bool _, .int _, ha, _ | .bool _, .str _, ha, _ | .bool _, .list _, ha, _ | .bool _, .tuple _, ha, _ | .bool _, .dict _, ha, _ => by simp [alike] at ha
  | .int _, .none, ha, _ | .int _, .bool _, ha, _ | .int _, .str _, ha, _ | .int _, .list _, ha, _ | .int _, .tuple _, ha, _ | .int _, .dict _, ha, _ => by simp [alike] at ha
  | .str _, .none, ha, _ | .str _, .bool _, ha, _ | .str _, .int _, ha, _ | .str _, .list _, ha, _ | .str _, .tuple _, ha, _ | .str _, .dict _, ha, _ => by simp [alike] at ha
  | .list _, .none, ha, _ | .list _, .bool _, ha, _ | .list _, .int _, ha, _ | .list _, .str _, ha, _ | .list _, .tuple _, ha, _ | .list _, .dict _, ha, _ => by simp [alike] at ha
  | .tuple _, .none, ha, _ | .tuple _, .bool _, ha, _ | .tuple _, .int _, ha, _ | .tuple _, .str _, ha, _ | .tuple _, .list _, ha, _ | .tuple _, .dict _, ha, _ => by simp [alike] at ha
  | .dict _, y, ha, _ => by cases y <;> simp [alike] at ha
theorem eqvAll_eq : ∀ (xs ys : List D), alikeAll xs ys = true → PyData.eqvAll xs ys = true → xs = ys
  | [], [], _, _ => rfl
  | [], _ :: _, _, h => by simp [PyData.eqvAll] at h
  | _ :: _, [], _, h => by simp [PyData.eqvAll] at h
  | x :: xs, y :: ys, ha, h => by
    simp only [alikeAll, Bool.and_eq_true] at ha
    simp only [PyData.eqvAll, Bool.and_eq_true] at h
    rw [eqv_eq2 x y ha.1 h.1, eqvAll_eq xs ys ha.2 h.2]
end
theorem eqv_eq {x y : D} (ha : alike x y = true) (h : PyData.eqv x y = true) : x = y := eqv_eq2 x y ha h
def fSortD : List D → Option (List D)
  | [.list xs] => if okS xs = true then some (isort dataLt xs) else none
  | _ => none
theorem reps_zip {A : Addr → Prop} {H : Hp} : ∀ {ws : List V} {ds : List D}, Reps A H ws ds → ∀ p ∈ ws.zip ds, Rep A H p.1 p.2
  | _, _, .nil, p, hp => by cases hp
  | _, _, .cons r rs, p, hp => by
    rcases List.mem_cons.mp hp with e | e
    · rw [e]; exact r
    · exact reps_zip rs p e
theorem reps_of {A : Addr → Prop} {H : Hp} : ∀ {ps : List (V × D)}, (∀ p ∈ ps, Rep A H p.1 p.2) → Reps A H (ps.map (·.1)) (ps.map (·.2))
  | [], _ => .nil
  | p :: ps, h => .cons (h p List.mem_cons_self) (reps_of fun q hq => h q (List.mem_cons_of_mem _ hq))
theorem opSortD {K : PySem.W.Frag} : OpAN (rSortD K) fSortD := fun A H vs xs z dom hx h => by
  unfold fSortD at h
  split at h
  · rename_i ds
    split at h
    · rename_i ok
      cases h
      obtain ⟨sh, al, so⟩ := okS_of ok
      obtain ⟨v, rfl, r⟩ := hx.one
      obtain ⟨a, ws, rfl, h1, rs⟩ := r.lst
      have hc : PyData.canLayAll0 ds = true := SeqAt.canLay_of_shaped sh
      refine fun Q q => ⟨a, ws, ds, rfl, .inl (.inl h1), Reps.dp rs hc, ok, fun ps p pm pw hp => ?_⟩
      have em : (ws.zip ds).map (fun p => p.2) = ds := List.map_snd_zip (by rw [rs.len]; exact Nat.le_refl _)
      have hpm : (ps.map (·.2)).Perm ds := by
        have := pm.map (fun p => p.2)
        rw [em] at this
        exact this
      have e : ps.map (·.2) = isort dataLt ds := srt_uniqOn (fun x hx y hy a1 a2 => by
        have hx := hpm.mem_iff.mp hx
        have hy := hpm.mem_iff.mp hy
        have hl := al x hx y hy
        exact eqv_eq hl (lt_eq hl a1 a2)) (List.pairwise_map.mpr pw) (isort_srtD ds) (hpm.trans (isort_perm dataLt ds).symm)
      have rr : Reps A H (ps.map (·.1)) (isort dataLt ds) := by
        rw [← e]
        exact reps_of fun p hp => reps_zip rs p (pm.mem_iff.mp hp)
      exact q p _ hp rr
    · cases h
  · cases h

/-! ### min and max of a list -/
def okM (ds : List D) : Bool := SeqAt.shaped (.list ds) && ((ds.all fun x => ds.all fun y => alike x y) && ds.all fun x => match x with | .none => false | _ => true)
theorem okM_of {ds : List D} (h : okM ds = true) : SeqAt.shaped (.list ds) = true ∧ AlikeAll ds := by
  unfold okM at h
  rw [Bool.and_eq_true, Bool.and_eq_true] at h
  obtain ⟨h1, h2, h3⟩ := h
  refine ⟨h1, fun x hx y hy => List.all_eq_true.mp (List.all_eq_true.mp h2 x hx) y hy, fun x hx z => ?_⟩
  have := List.all_eq_true.mp h3 x hx
  rw [z] at this
  cases this
def rBestD (K : PySem.W.Frag) (best : D → List D → D) : List V → Hp → VK → Prop := fun vs H Q => ∃ (a : Addr) (ws : List V) (x : D) (ds : List D), vs = [V.ref a] ∧ SqL K H a ws ∧ DpAll K H ws (x :: ds) ∧ okM (x :: ds) = true ∧
  ∀ (v : V) (i : Nat), ws[i]? = some v → (x :: ds)[i]? = some (best x ds) → Q v H
theorem reads_at {h : Heap} : ∀ {us : List Value} {ds : List D} {as : List Addr}, ReadsAll h us ds as → ∀ {i : Nat} {u : Value}, us[i]? = some u → ∃ d bs, ds[i]? = some d ∧ Reads h u d bs
  | _, _, _, .nil, i, u, e => by simp at e
  | _, _, _, .cons r rs, 0, u, e => by
    simp at e
    subst e
    exact ⟨_, _, rfl, r⟩
  | _, _, _, .cons r rs, i + 1, u, e => by
    obtain ⟨d, bs, e1, e2⟩ := reads_at rs (i := i) (u := u) (by simpa using e)
    exact ⟨d, bs, by simpa using e1, e2⟩
theorem lay_mem : ∀ {ds : List D}, PyData.canLayAll0 ds = true → ∀ d ∈ ds, d.canLay0 = true
  | x :: ds, h, d, hd => by
    simp only [PyData.canLayAll0, Bool.and_eq_true] at h
    rcases List.mem_cons.mp hd with e | e
    · rw [e]; exact h.1
    · exact lay_mem h.2 d e
theorem best_end {X : Cx} {pins : List (Addr × Obj)} {σ : L2.St} {H : Hp} {s : Shared} {Q : VK} {ws : List V} {its : List Value} {x : D} {ds : List D} {m : D} (I : Inv X pins σ H s) (rv : Vals ws its) (hd : DpAll X.K H ws (x :: ds)) (sh : SeqAt.shaped (.list (x :: ds)) = true)
    (q : ∀ (v : V) (i : Nat), ws[i]? = some v → (x :: ds)[i]? = some m → Q v H) {i : Nat} {u : Value} {h' : Heap} {tk : Nat} {bs : List Addr} (hu : its.toArray[i]? = some u) (r : Reads h' u m bs) (k : ∀ b o, s.heap.get? b = some o → h'.get? b = some o) : EP X pins σ Q u { s with heap := h', toks := tk } := by
  obtain ⟨as, ra⟩ := Dp.readsAll I _ _ _ hd rv
  have hu : its[i]? = some u := by simpa using hu
  obtain ⟨d, as', e1, r1⟩ := reads_at ra hu
  have hc : PyData.canLayAll0 (x :: ds) = true := SeqAt.canLay_of_shaped sh
  have e : d = m := PySem.Reads.unique (h := h') (PyProof.Rows.Reads.keeps k r1) _ _ r |>.1
  subst e
  have hi : i < ws.length := by
    rw [rv.length]
    exact (List.getElem?_eq_some_iff.mp hu).1
  obtain ⟨v', e3, rv'⟩ := rv.get (List.getElem?_eq_getElem hi)
  rw [hu] at e3
  cases e3
  exact ⟨ws[i], H, I.kept (t' := tk) k, rv', q _ i (List.getElem?_eq_getElem hi) e1⟩
theorem cr_minD {X : Cx} (hu : X.A.units + 70 < cLine) (hc : X.calm = true) : CallR X (.builtin "min") (rBestD X.K minD) := by
  intro pins s σ H vs us Q I r h
  obtain ⟨a, ws, x, ds, rfl, hs, hd, ok, q⟩ := h
  obtain ⟨sh, al⟩ := okM_of ok
  obtain ⟨its, rv, hl, hz⟩ := I.list hs
  have hu1 : us = [Value.ref a] := Vals.ref1 r
  subst hu1
  obtain ⟨as, ra⟩ := Dp.readsAll I _ _ _ hd rv
  have hdp := SeqAt.depth_of_shaped sh
  unfold PyData.depth at hdp
  exact min_list_data (vs := its.toArray) (I.ok.hd hc) hl.isList ra al (by omega) fun i u h' tk bs h1 h2 h3 => best_end I rv hd sh q h1 h2 h3
theorem cr_maxD {X : Cx} (hu : X.A.units + 70 < cLine) (hc : X.calm = true) : CallR X (.builtin "max") (rBestD X.K maxD) := by
  intro pins s σ H vs us Q I r h
  obtain ⟨a, ws, x, ds, rfl, hs, hd, ok, q⟩ := h
  obtain ⟨sh, al⟩ := okM_of ok
  obtain ⟨its, rv, hl, hz⟩ := I.list hs
  have hu1 : us = [Value.ref a] := Vals.ref1 r
  subst hu1
  obtain ⟨as, ra⟩ := Dp.readsAll I _ _ _ hd rv
  have hdp := SeqAt.depth_of_shaped sh
  unfold PyData.depth at hdp
  exact max_list_data (vs := its.toArray) (I.ok.hd hc) hl.isList ra al (by omega) fun i u h' tk bs h1 h2 h3 => best_end I rv hd sh q h1 h2 h3
/-- min and max: of a list, or of two numbers -/
def rMin2 (K : PySem.W.Frag) : List V → Hp → VK → Prop := fun vs H Q => rBestD K minD vs H Q ∨ ∃ i j, vs = [.int i, .int j] ∧ Q (.int (if j < i then j else i)) H
def rMax2 (K : PySem.W.Frag) : List V → Hp → VK → Prop := fun vs H Q => rBestD K maxD vs H Q ∨ ∃ i j, vs = [.int i, .int j] ∧ Q (.int (if j > i then j else i)) H
theorem cr_min {X : Cx} (hu : X.A.units + 70 < cLine) (hc : X.calm = true) : CallR X (.builtin "min") (rMin2 X.K) := by
  intro pins s σ H vs us Q I r h
  rcases h with h | h
  · exact cr_minD hu hc pins s σ H vs us Q I r h
  · exact call_min2 hc pins s σ H vs us Q I r h
theorem cr_max {X : Cx} (hu : X.A.units + 70 < cLine) (hc : X.calm = true) : CallR X (.builtin "max") (rMax2 X.K) := by
  intro pins s σ H vs us Q I r h
  rcases h with h | h
  · exact cr_maxD hu hc pins s σ H vs us Q I r h
  · exact call_max2 hc pins s σ H vs us Q I r h
def fMin : List D → Option D
  | [.list (x :: ds)] => if okM (x :: ds) = true then some (minD x ds) else none
  | [.int i, .int j] => some (.int (if j < i then j else i))
  | _ => none
def fMax : List D → Option D
  | [.list (x :: ds)] => if okM (x :: ds) = true then some (maxD x ds) else none
  | [.int i, .int j] => some (.int (if j > i then j else i))
  | _ => none
theorem opMin {K : PySem.W.Frag} : OpA (rMin2 K) fMin := fun A H vs xs z dom hx h => by
  unfold fMin at h
  split at h
  · split at h
    · rename_i x ds ok
      cases h
      obtain ⟨sh, al⟩ := okM_of ok
      obtain ⟨v, rfl, r⟩ := hx.one
      obtain ⟨a, ws, rfl, h1, rs⟩ := r.lst
      refine fun Q q => .inl ⟨a, ws, x, ds, rfl, .inl (.inl h1), Reps.dp rs (SeqAt.canLay_of_shaped sh), ok, fun v i e1 e2 => ?_⟩
      obtain ⟨w, e3, rw⟩ := rs.get e2
      rw [e1] at e3
      cases e3
      exact q _ _ (Ex.refl H) rw
    · cases h
  · cases h
    obtain ⟨v, w, rfl, r1, r2⟩ := hx.two
    rw [r1.int, r2.int]
    exact gives_flat (fun _ => .int _) fun Q q => .inr ⟨_, _, rfl, q⟩
  · cases h
theorem opMax {K : PySem.W.Frag} : OpA (rMax2 K) fMax := fun A H vs xs z dom hx h => by
  unfold fMax at h
  split at h
  · split at h
    · rename_i x ds ok
      cases h
      obtain ⟨sh, al⟩ := okM_of ok
      obtain ⟨v, rfl, r⟩ := hx.one
      obtain ⟨a, ws, rfl, h1, rs⟩ := r.lst
      refine fun Q q => .inl ⟨a, ws, x, ds, rfl, .inl (.inl h1), Reps.dp rs (SeqAt.canLay_of_shaped sh), ok, fun v i e1 e2 => ?_⟩
      obtain ⟨w, e3, rw⟩ := rs.get e2
      rw [e1] at e3
      cases e3
      exact q _ _ (Ex.refl H) rw
    · cases h
  · cases h
    obtain ⟨v, w, rfl, r1, r2⟩ := hx.two
    rw [r1.int, r2.int]
    exact gives_flat (fun _ => .int _) fun Q q => .inr ⟨_, _, rfl, q⟩
  · cases h
end
end DK
end
section
set_option maxRecDepth 100000
/-! text methods, list.index, min with a default -/
namespace DK
open PySem PySem.Spec PyProof.Rows L2
variable {κ : XI}
def fCount : D → List D → Option D
  | .str a, [.str b] => some (.int (Txt.count a b))
  | _, _ => none
theorem opCount {K : PySem.W.Frag} {T : String} : OpM K T (fun x xs H Q => ∃ a b, x = .str a ∧ xs = [.str b] ∧ Q (.int (Txt.count a b)) H) fCount := fun A H v vs x xs z dom hx hxs h => by
  unfold fCount at h
  split at h
  · cases h
    obtain ⟨v, rfl, r⟩ := hxs.one
    rw [hx.str, r.str]
    exact gives_flat (fun _ => .int _) fun Q q => ⟨_, _, rfl, rfl, q⟩
  · cases h
def fStarts : D → List D → Option D
  | .str a, [.str b] => some (.bool (Txt.startswith a b))
  | _, _ => none
theorem opStarts {K : PySem.W.Frag} {T : String} : OpM K T (fun x xs H Q => ∃ a b, x = .str a ∧ xs = [.str b] ∧ Q (.bl (Txt.startswith a b)) H) fStarts := fun A H v vs x xs z dom hx hxs h => by
  unfold fStarts at h
  split at h
  · cases h
    obtain ⟨v, rfl, r⟩ := hxs.one
    rw [hx.str, r.str]
    exact gives_flat (fun _ => .bl _) fun Q q => ⟨_, _, rfl, rfl, q⟩
  · cases h
def fFind : D → List D → Option D
  | .str a, [.str b] => some (.int (Txt.find a b))
  | _, _ => none
theorem opFind {K : PySem.W.Frag} {T : String} : OpM K T (fun x xs H Q => ∃ a b, x = .str a ∧ xs = [.str b] ∧ Q (.int (Txt.find a b)) H) fFind := fun A H v vs x xs z dom hx hxs h => by
  unfold fFind at h
  split at h
  · cases h
    obtain ⟨v, rfl, r⟩ := hxs.one
    rw [hx.str, r.str]
    exact gives_flat (fun _ => .int _) fun Q q => ⟨_, _, rfl, rfl, q⟩
  · cases h
def fFind3 : D → List D → Option D
  | .str a, [.str b, .int i] => some (.int (Txt.find3 a b i))
  | _, _ => none
theorem opFind3 {K : PySem.W.Frag} {T : String} : OpM K T (fun x xs H Q => ∃ (a b : Str) (i : Int), x = .str a ∧ xs = [.str b, .int i] ∧ Q (.int (Txt.find3 a b i)) H) fFind3 := fun A H v vs x xs z dom hx hxs h => by
  unfold fFind3 at h
  split at h
  · cases h
    obtain ⟨v, w, rfl, r, r2⟩ := hxs.two
    rw [hx.str, r.str, r2.int]
    exact gives_flat (fun _ => .int _) fun Q q => ⟨_, _, _, rfl, rfl, q⟩
  · cases h
/-! list.index -/
def fLIndex : D → List D → Option D
  | .list ds, [y] => if SeqAt.shaped (.list ds) = true ∧ SeqAt.shaped y = true ∧ ds.findIdx (fun z => PyData.eqv z y) < ds.length then some (.int (ds.findIdx fun z => PyData.eqv z y : Nat)) else none
  | _, _ => none
theorem opLIndex {K : PySem.W.Frag} {T : String} : OpM K T (rIndexD K) fLIndex := fun A H v vs x xs z dom hx hxs h => by
  unfold fLIndex at h
  split at h
  · rename_i ds y
    split at h
    · rename_i ok
      cases h
      obtain ⟨o1, o2, o3⟩ := ok
      obtain ⟨w, rfl, r⟩ := hxs.one
      obtain ⟨a, ws, rfl, h1, rs⟩ := hx.lst
      have hd : Dp K H (V.ref a) (.list ds) := hx.dp o1
      refine gives_flat (fun _ => .int _) fun Q q => ⟨a, w, y, ds, _, ds[ds.findIdx fun z => PyData.eqv z y], rfl, rfl, hd, r.dp o2, o1, o2, List.getElem?_eq_getElem o3, List.findIdx_getElem (w := o3), fun m z' hm hz => ?_, q⟩
      obtain ⟨hm2, rfl⟩ := List.getElem?_eq_some_iff.mp hz
      have := List.not_of_lt_findIdx hm
      simpa using this
    · cases h
  · cases h
/-! min(xs, default=d) -/
open PySem.W in
def rMinDef (K : PySem.W.Frag) : List V → List V → Hp → VK → Prop := fun vs zs H Q => ∃ (a : Addr) (ws : List V) (ds : List D) (dv : V), vs = [V.ref a] ∧ zs = [dv] ∧ SqL K H a ws ∧ DpAll K H ws ds ∧ okM ds = true ∧ (ds = [] → Q dv H) ∧
  ∀ (x : D) (xs : List D) (v : V) (i : Nat), ds = x :: xs → ws[i]? = some v → ds[i]? = some (minD x xs) → Q v H
open PySem.W in
theorem cr_minDef {X : Cx} (hu : X.A.units + 70 < cLine) (hc : X.calm = true) : CallRK X (.builtin "min") [Str.ofString "default"] (rMinDef X.K) := by
  intro pins s σ H vs zs us wz Q I r rz h
  obtain ⟨a, ws, ds, dv, rfl, rfl, hs, hd, ok, q0, q⟩ := h
  obtain ⟨sh, al⟩ := okM_of ok
  obtain ⟨its, rv, hl, hz⟩ := I.list hs
  have hu1 : us = [Value.ref a] := Vals.ref1 r
  subst hu1
  cases rz with
  | cons rd rt =>
    cases rt
    obtain ⟨as, ra⟩ := Dp.readsAll I _ _ _ hd rv
    have hdp := SeqAt.depth_of_shaped sh
    unfold PyData.depth at hdp
    refine min_list_default (vs := its.toArray) (I.ok.hd hc) hl.isList ra al (by omega) (fun e h' tk k => ⟨dv, H, I.kept (t' := tk) k, rd, q0 e⟩) fun y ys i u h' tk bs e h1 h2 h3 => ?_
    subst e
    exact best_end I rv hd sh (fun v i e1 e2 => q y ys v i rfl e1 e2) h1 h2 h3
/-- the run: the default is a flat value -/
def rMinDf (a : BR) (e : ER) : ER := fun d => bd (a d) fun x d1 => bd (e d1) fun z d2 => ob (x.get d2) fun u => match u with
  | .list [] => some (z, d2)
  | .list (y :: ys) => if okM (y :: ys) = true then some (PySem.W.minD y ys, d2) else none
  | _ => none
theorem simMinDf {K : PySem.W.Frag} {ta te : TE} {a : BR} {e : ER} (sa : SimB κ ta a) (se : SimE κ te e) : SimE κ (tCKw (rMinDef K) (tCons ta tNil) (tCons te tNil)) (rMinDf a e) := fun c σ H d own R x d' h Q q => by
  unfold rMinDf at h
  obtain ⟨b, d1, e1, h⟩ := of_bd h
  obtain ⟨z, d2, e2, h⟩ := of_bd h
  obtain ⟨u, e3, h⟩ := of_ob h
  refine sa c σ H d own R b d1 e1 _ fun v1 H1 own1 S1 b1 => ?_
  refine se c σ H1 d1 own1 (R.leave S1) z d2 e2 _ fun v2 H2 own2 S2 r2 => ?_
  have R2 := R.leave (S1.leave S2)
  have hv := (b1.carry (R.leave S1) S2).vw R2 e3
  cases u with
  | list xs =>
    obtain ⟨a, ws, rfl, h1, rs⟩ := hv.lst
    cases xs with
    | nil =>
      cases h
      cases rs
      exact ⟨a, [], [], v2, rfl, rfl, .inl (.inl h1), .nil, by decide +kernel, fun _ => q v2 H2 own2 (S1.leave S2) r2, fun x xs v i e => by cases e⟩
    | cons y ys =>
      dsimp only at h
      split at h
      · rename_i ok
        cases h
        obtain ⟨sh, al⟩ := okM_of ok
        refine ⟨a, ws, y :: ys, v2, rfl, rfl, .inl (.inl h1), Reps.dp rs (SeqAt.canLay_of_shaped sh), ok, fun e => (by cases e), fun x xs v i e e1 e2 => ?_⟩
        cases e
        obtain ⟨w, e3, rw⟩ := rs.get e2
        rw [e1] at e3
        cases e3
        exact q _ H2 own2 (S1.leave S2) rw
      · cases h
  | _ => cases h
end DK
end
section
set_option maxRecDepth 100000
/-! a def that hands back a new object: its caller may own it -/
namespace DK
open PySem PySem.Spec PyProof.Rows L2
variable {κ : XI}
/-- flat, or an object that the elder heap has not -/
def New (H0 : Hp) (v : V) (x : D) : Prop := flatD x = true ∨ ∃ p, v = .ref p ∧ H0 p = none
def PostN (c : Cc κ) (De : Ends) : Out → Prop
  | .nx d' => ∀ σ' H' own', RepS c σ' H' d' own' → De.nx σ' H'
  | .rt x d' => ∀ v σ' H' own', RepS c σ' H' d' own' → Rep (Av c own') H' v x → New c.H0 v x → De.rt v H'
  | .bk d' => ∀ σ' H' own', RepS c σ' H' d' own' → De.bk σ' H'
  | .ct d' => ∀ σ' H' own', RepS c σ' H' d' own' → De.ct σ' H'
def SimSN (κ : XI) (ts : TS) (f : SR) : Prop := ∀ (c : Cc κ) (σ : L2.St) (H : Hp) (d : List Slot) (own : Own1), c.fa = none → RepS c σ H d own → ∀ o, f d = some o → ∀ De : Ends, PostN c De o → ts De σ H
theorem fresh_up {c : Cc κ} {σ : L2.St} {H : Hp} {d : List Slot} {own : Own1} (hf : c.fa = none) (R : RepS c σ H d own) {p : Addr} (h : hide own H p = none) : c.H0 p = none := by
  cases e : c.H0 p with
  | none => rfl
  | some o =>
    have k := R.keep p o e (by rw [hf]; intro z; cases z)
    by_cases z : ∃ i, own i = some p
    · obtain ⟨i, z⟩ := z
      rcases R.new i p z with q | q
      · rw [e] at q; cases q
      · rw [hf] at q; cases q
    · rw [hide_not z, k] at h
      cases h
/-- a statement that does not return -/
def NoRt (f : SR) : Prop := ∀ d x d', f d ≠ some (.rt x d')
theorem simS_N {t : TS} {f : SR} (s : SimS κ t f) (n : NoRt f) : SimSN κ t f := fun c σ H d own hf R o h De p => s c σ H d own R o h De (by
  cases o with
  | nx d' => exact p
  | bk d' => exact p
  | ct d' => exact p
  | rt x d' => exact absurd h (n d x d'))
theorem simSeqN {t u : TS} {a b : SR} (sa : SimSN κ t a) (sb : SimSN κ u b) : SimSN κ (tSeq t u) (sSeq a b) := fun c σ H d own hf R o h De p => by
  unfold sSeq at h
  cases e : a d with
  | none => rw [e] at h; cases h
  | some o1 =>
    rw [e] at h
    cases o1 with
    | nx d1 => exact sa c σ H d own hf R _ e _ fun σ' H' own' R' => sb c σ' H' d1 own' hf R' o h De p
    | rt x d1 => cases h; exact sa c σ H d own hf R _ e _ p
    | bk d1 => cases h; exact sa c σ H d own hf R _ e _ p
    | ct d1 => cases h; exact sa c σ H d own hf R _ e _ p
theorem simIfN {tt : TT} {t u : TS} {f : TR} {a b : SR} (st : SimT κ tt f) (sa : SimSN κ t a) (sb : SimSN κ u b) : SimSN κ (tIfS tt t u) (sIf f a b) := fun c σ H d own hf R o h De p => by
  obtain ⟨k, d1, e, h⟩ := of_bd h
  refine st c σ H d own R k _ e _ fun H1 own1 S => ?_
  cases k with
  | true => exact sa c σ H1 d1 own1 hf (R.leave S) o h De p
  | false => exact sb c σ H1 d1 own1 hf (R.leave S) o h De p
theorem simForN {wi : TI} {g : TG} {tb : TS} {f : IR} {k : GR} {b : SR} {tg : List Nat} (si : SimI κ wi f) (sg : SimG κ g k tg) (sb : SimSN κ tb b) : SimSN κ (tFor wi g tb) (sFor f k b) := fun c σ H d own hf R o h De p => by
  obtain ⟨xs, d1, e, h⟩ := of_bd h
  refine si c σ H d own R xs _ e _ fun J H1 own1 S W => ?_
  obtain ⟨G, Y, w, hG, hY⟩ := W.ex
  have R1 := R.leave S
  refine for_it w (fun i σ' H' => ∃ d2 own2, RepS (c.at own1 H1) σ' H' d2 own2 ∧ forR k b (xs.drop i) d2 = some o) ⟨d1, own1, R1.enter, h⟩ (fun i σ' H' _ ⟨d2, own2, S2, _⟩ => hG (c.at own1 H1) σ' H' d2 own2 rfl rfl S2) ?_ ?_
  · rintro i v σ' H' H3 hi ⟨d2, own2, S2, h2⟩ y
    have hx : xs[i]? = some xs[i] := List.getElem?_eq_getElem hi
    rw [List.drop_eq_getElem_cons hi] at h2
    obtain ⟨d3, e3, h3⟩ := of_ob h2
    obtain ⟨ex, r⟩ := hY i _ (c.at own1 H1) σ' H' d2 own2 v H3 rfl rfl (fun a z => .inl z) S2 hx y
    refine sg _ σ' H3 d2 own2 v _ (S2.ext ex) r d3 e3 _ fun σ4 own4 S4 _ _ => ?_
    cases eb : b d3 with
    | none => rw [eb] at h3; cases h3
    | some ob =>
      rw [eb] at h3
      refine sb _ σ4 H3 d3 own4 rfl S4 ob eb _ ?_
      cases ob with
      | nx d5 => exact fun σ5 H5 own5 S5 => ⟨d5, own5, S5, h3⟩
      | ct d5 => exact fun σ5 H5 own5 S5 => ⟨d5, own5, S5, h3⟩
      | bk d5 =>
        cases h3
        exact fun σ5 H5 own5 S5 => p σ5 H5 own5 (R1.leave S5)
      | rt z d5 =>
        cases h3
        exact fun v5 σ5 H5 own5 S5 r5 n5 => p v5 σ5 H5 own5 (R1.leave S5) r5 (n5.imp id fun ⟨q, e, hq⟩ => ⟨q, e, fresh_up hf R1 hq⟩)
  · rintro σ' H' ⟨d2, own2, S2, h2⟩
    rw [List.drop_length] at h2
    cases h2
    exact p σ' H' own2 (R1.leave S2)
theorem simWhN {tt : TT} {tb : TS} {n : Nat} {t : TR} {b : SR} (st : SimT κ tt t) (sb : SimSN κ tb b) : SimSN κ (tWhile tt tb) (sWh n t b) := fun c σ H d own hf R o h De p => by
  refine ⟨fun m σ' H' => ∃ d' own', RepS c σ' H' d' own' ∧ whR t b m d' = some o, ⟨n, d, own, R, h⟩, ?_⟩
  rintro m σ1 H1 ⟨d1, own1, R1, h1⟩
  cases m with
  | zero => cases h1
  | succ m =>
    obtain ⟨k, d2, e, h2⟩ := of_bd h1
    refine st c σ1 H1 d1 own1 R1 k _ e _ fun H2 own2 S => ?_
    have R2 := R1.leave S
    cases k with
    | false =>
      cases h2
      exact p σ1 H2 own2 R2
    | true =>
      refine ⟨fun σ' H' => ∃ d' own', RepS c σ' H' d' own' ∧ whR t b m d' = some o, fun σ' H' ⟨d', own', R', h'⟩ => ⟨m, Nat.lt_succ_self m, d', own', R', h'⟩, ?_⟩
      rw [if_pos rfl] at h2
      cases eb : b d2 with
      | none => rw [eb] at h2; cases h2
      | some ob =>
        rw [eb] at h2
        refine sb c σ1 H2 d2 own2 hf R2 ob eb _ ?_
        cases ob with
        | nx d5 => exact fun σ5 H5 own5 S5 => ⟨d5, own5, S5, h2⟩
        | ct d5 => exact fun σ5 H5 own5 S5 => ⟨d5, own5, S5, h2⟩
        | bk d5 =>
          cases h2
          exact fun σ5 H5 own5 S5 => p σ5 H5 own5 S5
        | rt z d5 =>
          cases h2
          exact fun v5 σ5 H5 own5 S5 r5 n5 => p v5 σ5 H5 own5 S5 r5 n5
/-- return of a new object -/
theorem simRetNew {te : TE} {a : ER} (sa : SimN κ te a) : SimSN κ (tRet te) (sRet a) := fun c σ H d own hf R o h De p => by
  obtain ⟨x, d1, e, h⟩ := of_bd h
  cases h
  have sx : SimN κ te a := sa
  refine sa c σ H d own R x _ e _ fun q H' own' S hq ow => ?_
  have hO : ¬ c.O q := hq.1
  have np : ¬ Av c own' q := by
    rintro (z | ⟨i, z⟩)
    · exact hO z
    · exact S.nO i q z (.inr rfl)
  have av : ∀ a, ¬ Av (κ := κ) ⟨fun a => c.O a ∨ a = q, hide own H, none, c.pin⟩ own' a → ¬ Av c own' a := fun a n => by
    rintro (z | z)
    · exact n (.inl (.inl z))
    · exact n (.inr z)
  have S' : RepS (c.at own H) σ H' d1 own' := ⟨S.len, fun i s h => (S.slot i s h).tr (fun a o n z => ⟨av a n, z⟩) fun _ _ => rfl, S.inj, S.out, S.new, fun i a z w => S.nO i a z (.inl w), S.keep, fun a z => S.dom a (.inl z), S.pin⟩
  refine p _ σ H' own' (R.leave S') ?_ (.inr ⟨q, rfl, fresh_up hf R hq.2⟩)
  cases x with
  | list xs =>
    obtain ⟨vs, h1, r⟩ := ow
    exact .lst np h1 (r.tr fun a o n z => ⟨av a n, z⟩)
  | dict es =>
    obtain ⟨vs, h1, r⟩ := ow
    exact .dct np h1 (r.tr fun a o n z => ⟨av a n, z⟩)
  | _ => exact ow.elim
/-- return of an owned name -/
def sRetO (i : Nat) : SR := fun d => match d[i]? with
  | some (.ow x) => some (.rt x (d.set i (.fz x)))
  | _ => none
theorem simRetO (i : Nat) : SimSN κ (tRet (tVar i)) (sRetO i) := fun c σ H d own hf R o h De p => by
  unfold sRetO at h
  cases e : d[i]? with
  | none => rw [e] at h; cases h
  | some s =>
    rw [e] at h
    cases s with
    | un => cases h
    | xc x => cases h
    | fd fs => cases h
    | fz y => cases h
    | ow y =>
      cases h
      obtain ⟨a, ea, es, _⟩ := R.slot i _ e
      obtain ⟨v, e1, S, r⟩ := R.freeze e
      rw [es] at e1
      cases e1
      refine ⟨_, es, p _ σ H _ S r (.inr ⟨a, rfl, ?_⟩)⟩
      rcases R.new i a ea with q | q
      · exact q
      · rw [hf] at q; cases q
/-- return of a flat value -/
def sRetF (a : ER) : SR := fun d => bd (a d) fun x d1 => if flatD x = true then some (.rt x d1) else none
theorem simRetF {te : TE} {a : ER} (sa : SimE κ te a) : SimSN κ (tRet te) (sRetF a) := fun c σ H d own hf R o h De p => by
  obtain ⟨x, d1, e, h⟩ := of_bd h
  split at h
  · rename_i f
    cases h
    exact sa c σ H d own R x _ e _ fun v H' own' S r => p v σ H' own' (R.leave S) r (.inl f)
  · cases h
theorem simRetNN : SimSN κ tRetN sRetN := fun c σ H d own hf R o h De p => by
  cases h
  exact p .non σ H own R .non (.inl rfl)
theorem noRt_sNext : NoRt sNext := fun d x d' h => by cases h
theorem noRt_sBk : NoRt sBk := fun d x d' h => by cases h
theorem noRt_sCt : NoRt sCt := fun d x d' h => by cases h
theorem noRt_sAsg (a : ER) (g : GR) : NoRt (sAsg a g) := fun d x d' h => by
  obtain ⟨y, d1, e, h⟩ := of_bd h
  obtain ⟨d2, e2, h⟩ := of_ob h
  cases h
theorem noRt_sAsgN (i : Nat) (a : ER) : NoRt (sAsgN i a) := fun d x d' h => by
  obtain ⟨y, d1, e, h⟩ := of_bd h
  split at h <;> cases h
theorem noRt_sDrop (a : ER) : NoRt (sDrop a) := fun d x d' h => by
  obtain ⟨y, d1, e, h⟩ := of_bd h
  cases h
theorem noRt_sApp (i : Nat) (a : ER) : NoRt (sApp i a) := fun d x d' h => by
  unfold sApp at h
  split at h
  · obtain ⟨y, d1, e, h⟩ := of_bd h
    split at h
    · split at h <;> cases h
    · cases h
  · cases h
theorem noRt_sExt (i : Nat) (b : BR) : NoRt (sExt i b) := fun d x d' h => by
  unfold sExt at h
  split at h
  · obtain ⟨y, d1, e, h⟩ := of_bd h
    obtain ⟨u, e2, h⟩ := of_ob h
    split at h
    · split at h
      · split at h <;> cases h
      · cases h
    · cases h
  · cases h
theorem noRt_sAug (i : Nat) (b : BR) (f : Int → Int → Int) : NoRt (sAug i b f) := fun d x d' h => by
  obtain ⟨u, e, h⟩ := of_ob h
  split at h
  · obtain ⟨y, d1, e, h⟩ := of_bd h
    obtain ⟨w, e2, h⟩ := of_ob h
    split at h
    · split at h <;> cases h
    · cases h
  · cases h
theorem noRt_sSetL (i : Nat) (a : ER) (b : BR) : NoRt (sSetL i a b) := fun d x d' h => by
  obtain ⟨y, d1, e, h⟩ := of_bd h
  obtain ⟨u, e2, h⟩ := of_ob h
  obtain ⟨y2, d2, e3, h⟩ := of_bd h
  obtain ⟨u2, e4, h⟩ := of_ob h
  split at h
  · split at h
    · obtain ⟨j, e5, h⟩ := of_ob h
      cases h
    · cases h
  · cases h
theorem noRt_sDPutR (i : Nat) (b : BR) (a : ER) : NoRt (sDPutR i b a) := fun d x d' h => by
  obtain ⟨y, d1, e, h⟩ := of_bd h
  obtain ⟨u, e2, h⟩ := of_ob h
  obtain ⟨y2, d2, e3, h⟩ := of_bd h
  obtain ⟨u2, e4, h⟩ := of_ob h
  obtain ⟨k, e5, h⟩ := of_ob h
  split at h
  · split at h <;> cases h
  · cases h
theorem noRt_sPar (i j : Nat) (a : AR) : NoRt (sPar i j a) := fun d x d' h => by
  obtain ⟨xs, d1, e, h⟩ := of_bd h
  split at h
  · split at h <;> cases h
  · cases h

/-! ### the promise, and the call -/
def spPN (m : List D → Option D) : Sp := fun vs H Q _ => ∃ A xs y, Reps A H vs xs ∧ (∀ a, A a → ∃ o, H a = some o) ∧ m xs = some y ∧ ∀ v H', Ex H H' → Rep A H' v y → New H v y → Q v H'
theorem run_new {N ps : List Str} {t : TS} {r : SR} (sim : SimSN κ t r) {vs : List V} {H : Hp} {Q : VK} {E : XK} (hn : ps.length ≤ N.length) (h : spPN (mOf N.length ps.length r) vs H Q E) : t { nx := fun _ H' => Q .non H', rt := Q } (L2.start N vs) H := by
  obtain ⟨A, xs, y, rs, dom, hm, k⟩ := h
  unfold mOf at hm
  cases e : bodyRun N.length ps.length r xs with
  | none => rw [e] at hm; cases hm
  | some o =>
    rw [e] at hm
    unfold bodyRun at e
    split at e
    · rename_i hk
      have R := start_rep (κ := κ) (N := N) rs dom hk hn
      have fin : ∀ (v : V) (σ' : L2.St) (H' : Hp) (d' : List Slot) (own' : Own1) (x : D), RepS (κ := κ) ⟨A, H, none, none⟩ σ' H' d' own' → Rep (Av (κ := κ) ⟨A, H, none, none⟩ own') H' v x → New H v x → x = y → Q v H' := fun v σ' H' d' own' x R' r' n' e => by
        subst e
        exact k v H' (fun a o h => R'.keep a o h (by intro z; cases z)) (r'.tr fun a o n z => ⟨fun q => n (.inl q), z⟩) n'
      refine sim _ _ _ _ _ rfl R o e _ ?_
      cases o with
      | nx d' =>
        cases hm
        exact fun σ' H' own' R' => fin .non σ' H' d' own' _ R' .non (.inl rfl) rfl
      | rt x d' =>
        cases hm
        exact fun v σ' H' own' R' r' n' => fin v σ' H' d' own' _ R' r' n' rfl
      | bk d' => cases hm
      | ct d' => cases hm
    · cases e
theorem spPN_len {m : List D → Option D} {k : Nat} (hm : ∀ xs y, m xs = some y → xs.length = k) : ∀ vs H Q E, spPN m vs H Q E → vs.length = k := fun vs H Q E h => by
  obtain ⟨A, xs, y, rs, _, e, _⟩ := h
  rw [rs.len]
  exact hm xs y e
section
variable {P : Program} {w : World} {K : PySem.W.Frag} {mg : Str → Option Value} {base : Heap}
theorem ok_new {x qual : Str} {st : Stmt} {f : Addr} {fd : FuncData} {N ps : List Str} {k : Nat} {r : SR} (n m : Nat) (F : Fun K x qual st f fd) (S : FnScope N ps (defScope st)) (eN : N.length = n) (ep : ps.length = m) (hn : m ≤ n)
    (body : ∀ (cdv : Value) (A : Around) (outer : List Env) (s : Shared) (H : Hp) (E : XK), Room k (A.deeper (envOfC qual (defScope st) s.heap.objs.size f cdv)) →
      ∃ t, PSs (cxOf CX0 P w K mg base N qual (defScope st) f cdv A outer s H E).nox (defBody st) t ∧ SimSN none t r) : FnOk P w K mg base CX0 (k + 1) f fd ps (spPN (mOf n m r)) := by
  subst eN ep
  exact F.ok S (spPN_len mOf_len) fun cdv A outer s H vs Q E hr h => by
    obtain ⟨t, ht, sim⟩ := body cdv A outer s H E hr
    exact ⟨t, ht, run_new sim hn h⟩
end
/-! what stands for a datum stands for no other -/
mutual
theorem Rep.one {A B : Addr → Prop} {H : Hp} : ∀ {v : V} {x y : D}, Rep A H v x → Rep B H v y → x = y
  | _, _, _, .non, .non => rfl
  | _, _, _, .bl _, .bl _ => rfl
  | _, _, _, .int _, .int _ => rfl
  | _, _, _, .str _, .str _ => rfl
  | _, _, _, .lst _ h r, .lst _ h' r' => by
    rw [h] at h'
    cases h'
    rw [Reps.one r r']
  | _, _, _, .lst _ h _, .tup _ h' _ => by rw [h] at h'; cases h'
  | _, _, _, .lst _ h _, .dct _ h' _ => by rw [h] at h'; cases h'
  | _, _, _, .tup _ h r, .tup _ h' r' => by
    rw [h] at h'
    cases h'
    rw [Reps.one r r']
  | _, _, _, .tup _ h _, .lst _ h' _ => by rw [h] at h'; cases h'
  | _, _, _, .tup _ h _, .dct _ h' _ => by rw [h] at h'; cases h'
  | _, _, _, .dct _ h r, .dct _ h' r' => by
    rw [h] at h'
    cases h'
    rw [RepKs.one r r']
  | _, _, _, .dct _ h _, .lst _ h' _ => by rw [h] at h'; cases h'
  | _, _, _, .dct _ h _, .tup _ h' _ => by rw [h] at h'; cases h'
theorem Reps.one {A B : Addr → Prop} {H : Hp} : ∀ {v : List V} {x y : List D}, Reps A H v x → Reps B H v y → x = y
  | _, _, _, .nil, .nil => rfl
  | _, _, _, .cons r t, .cons r' t' => by rw [Rep.one r r', Reps.one t t']
theorem RepKs.one {A B : Addr → Prop} {H : Hp} : ∀ {v : List (Key × V)} {x y : List (D × D)}, RepKs A H v x → RepKs B H v y → x = y
  | _, _, _, .nil, .nil => rfl
  | _, _, _, .cons r t, .cons r' t' => by rw [Rep.one r r', RepKs.one t t']
end
mutual
theorem Rep.off {A : Addr → Prop} {H : Hp} {p : Addr} {z : D} (hp : Rep A H (.ref p) z) : ∀ {v : V} {x : D}, sizeOf x < sizeOf z → Rep A H v x → Rep (fun a => A a ∨ a = p) H v x
  | _, _, _, .non => .non
  | _, _, _, .bl b => .bl b
  | _, _, _, .int i => .int i
  | _, _, _, .str i => .str i
  | _, _, hs, .lst n h r => .lst (fun q => q.elim n fun e => by
      subst e
      have := Rep.one hp (.lst n h r)
      rw [this] at hs
      omega) h (Reps.off hp (by simp at hs ⊢; omega) r)
  | _, _, hs, .tup n h r => .tup (fun q => q.elim n fun e => by
      subst e
      have := Rep.one hp (.tup n h r)
      rw [this] at hs
      omega) h (Reps.off hp (by simp at hs ⊢; omega) r)
  | _, _, hs, .dct n h r => .dct (fun q => q.elim n fun e => by
      subst e
      have := Rep.one hp (.dct n h r)
      rw [this] at hs
      omega) h (RepKs.off hp (by simp at hs ⊢; omega) r)
theorem Reps.off {A : Addr → Prop} {H : Hp} {p : Addr} {z : D} (hp : Rep A H (.ref p) z) : ∀ {v : List V} {x : List D}, sizeOf x < sizeOf z → Reps A H v x → Reps (fun a => A a ∨ a = p) H v x
  | _, _, _, .nil => .nil
  | _, _, hs, .cons r t => .cons (Rep.off hp (by simp at hs; omega) r) (Reps.off hp (by simp at hs; omega) t)
theorem RepKs.off {A : Addr → Prop} {H : Hp} {p : Addr} {z : D} (hp : Rep A H (.ref p) z) : ∀ {v : List (Key × V)} {x : List (D × D)}, sizeOf x < sizeOf z → RepKs A H v x → RepKs (fun a => A a ∨ a = p) H v x
  | _, _, _, .nil => .nil
  | _, _, hs, .cons r t => .cons (Rep.off hp (by simp at hs; omega) r) (RepKs.off hp (by simp at hs; omega) t)
end
def ts_ok (De : Ends) (o : Out) (σ : L2.St) (H : Hp) : Prop := match o with
  | .nx _ => De.nx σ H
  | _ => True
/-- a name takes what such a def hands back -/
def sAsgO (i : Nat) (m : List D → Option D) (a : AR) : SR := fun d => bd (a d) fun xs d1 => ob (m xs) fun y => if i < d1.length ∧ notFd d1[i]? = true then (match y with
  | .list ys => some (.nx (d1.set i (.ow (.list ys))))
  | .dict ys => some (.nx (d1.set i (.ow (.dict ys))))
  | y => if flatD y = true then some (.nx (d1.set i (.fz y))) else none) else none
theorem noRt_sAsgO (i : Nat) (m : List D → Option D) (a : AR) : NoRt (sAsgO i m a) := fun d x d' h => by
  obtain ⟨xs, d1, e, h⟩ := of_bd h
  obtain ⟨y, e2, h⟩ := of_ob h
  split at h
  · split at h
    · cases h
    · cases h
    · split at h <;> cases h
  · cases h
theorem simAsgO {i : Nat} {m : List D → Option D} {E : XK} {ta : TA} {a : AR} (sa : SimA κ ta a) : SimS κ (tAsg (tCall (spPN m) [] E ta) (gName i)) (sAsgO i m a) := fun c σ H d own R o h De p => by
  obtain ⟨xs, d1, e, h⟩ := of_bd h
  obtain ⟨y, e2, h⟩ := of_ob h
  split at h
  · rename_i hi
    refine sa c σ H d own R xs _ e _ fun vs H1 own1 S rs => ?_
    rw [List.append_nil]
    refine ⟨Av c own1, xs, y, rs, (R.leave S).domA, e2, fun v H' ex r n => ?_⟩
    have R1 := (R.leave S).ext ex
    have flat : flatD y = true → o = .nx (d1.set i (.fz y)) → ts_ok De o (σ.set i (some v)) H' := fun f e => by
      subst e
      exact p _ _ _ (R1.store hi.2 r)
    have obj : ∀ q, v = .ref q → H1 q = none → (∃ o, H' q = some o) → (∀ A, Rep A H' (.ref q) y → Own (fun a => A a ∨ a = q) H' q y) → o = .nx (d1.set i (.ow y)) → ts_ok De o (σ.set i (some v)) H' := by
      intro q ev hq ho ow eo
      subst ev eo
      have hO : ¬ c.O q := fun z => by
        obtain ⟨o, e⟩ := (R.leave S).dom q z
        rw [hq] at e; cases e
      have h0 : hide own H q = none := by
        cases e : hide own H q with
        | none => rfl
        | some o =>
          rw [S.keep q o e (by intro z; cases z)] at hq
          cases hq
      have M : RepS (κ := κ) ⟨fun a => c.O a ∨ a = q, hide own H, none, c.pin⟩ σ H' d1 own1 := S.more ex (O' := fun a => c.O a ∨ a = q) (fun a z => .inl z) (fun a z => z.elim .inl fun e => .inr (by rw [e]; exact hq)) (fun a z => z.elim (fun z => by
        obtain ⟨o, e⟩ := (R.leave S).dom a z
        exact ⟨o, ex a o e⟩) fun e => by rw [e]; exact ho)
      refine p _ _ _ (R.leave (M.take (O := c.O) (H0 := hide own H) (fa := none) (pn := c.pin) hi.1 hi.2 h0 hO ?_))
      have := ow _ r
      refine this.tr (fun a o n z => ⟨fun k => n ?_, z⟩) rfl
      rcases k with (k | k) | k
      · exact .inl (.inl k)
      · exact .inr k
      · exact .inl (.inr k)
    have fl : flatD y = true → (if flatD y = true then some (Out.nx (d1.set i (.fz y))) else none) = some o → De.nx (σ.set i (some v)) H' := fun f e => by
      rw [if_pos f] at e
      have e := (Option.some.inj e).symm
      have := flat f e
      subst e
      exact this
    cases y with
    | list ys =>
      cases h
      rcases n with n | ⟨q, ev, hq⟩
      · cases n
      · subst ev
        have r0 := r
        cases r with
        | @lst _ ws _ na hv rs' => exact obj q rfl hq ⟨_, hv⟩ (fun A rA => by
            cases rA with
            | @lst _ ws' _ na' hv' rs2 => exact ⟨ws', hv', Reps.off (.lst na' hv' rs2) (by simp) rs2⟩) rfl
    | dict ys =>
      cases h
      rcases n with n | ⟨q, ev, hq⟩
      · cases n
      · subst ev
        cases r with
        | @dct _ ws _ na hv rs' => exact obj q rfl hq ⟨_, hv⟩ (fun A rA => by
            cases rA with
            | @dct _ ws' _ na' hv' rs2 => exact ⟨ws', hv', RepKs.off (.dct na' hv' rs2) (by simp) rs2⟩) rfl
    | none => exact fl rfl h
    | bool b => exact fl rfl h
    | int b => exact fl rfl h
    | str b => exact fl rfl h
    | tuple b => cases h
  · cases h
end DK
end
section
set_option maxRecDepth 100000
/-! a comprehension over an owned list, which stays owned -/
namespace DK
open PySem PySem.Spec PyProof.Rows L2
variable {κ : XI}
theorem lc_coreD {J : It} {g : TG} {tt : TT} {te : TE} {k : GR} {t : TR} {e : ER} {tg vs : List Nat} (sg : SimG κ g k tg) (st : SimT κ tt t) (se : SimE κ te e) (htg : ∀ j ∈ tg, j ∈ vs)
    {c : Cc κ} {σ : L2.St} {H1 : Hp} {d1 : List Slot} {own1 : Own1} (R1 : RepS c σ H1 d1 own1) {xs : List D} (W : WalkOk c σ own1 H1 J xs) (hvs : (vs.all fun v => noOwn d1[v]?) = true) {ys : List D} {d' : List Slot} (e2 : lcR k t e vs d1 xs [] d1 = some (ys, d')) {Q : VK}
    (q : ∀ p H' own', RepS (κ := κ) ⟨fun a => c.O a ∨ a = p, hide own1 H1, none, c.pin⟩ σ H' d' own' → H1 p = none → Own (Av (κ := κ) ⟨fun a => c.O a ∨ a = p, hide own1 H1, none, c.pin⟩ own') H' p (.list ys) → Q (.ref p) H') : tLc (fun _ H R => R J H) g tt te vs σ H1 Q := by
  intro Dl hDl
  obtain ⟨G, Y, w, hG, hY⟩ := W.ex
  have hv1 : ∀ v ∈ vs, own1 v = none := fun v hv => noOwn_none R1 (List.all_eq_true.mp hvs v hv)
  have hDl0 : hide own1 H1 Dl = none := by
    cases z : hide own1 H1 Dl with
    | none => rfl
    | some o => rw [(of_hide z).1] at hDl; cases hDl
  -- the context within
  generalize hc1 : (⟨fun a => c.O a ∨ a = Dl, hide own1 H1, none, c.pin⟩ : Cc κ) = c1
  have c1O : ∀ a, c1.O a ↔ c.O a ∨ a = Dl := fun a => by rw [← hc1]
  have c1H : c1.H0 = hide own1 H1 := by rw [← hc1]
  have c1f : c1.fa = none := by rw [← hc1]
  have start : RepS c1 σ (upd H1 Dl (.lst [])) d1 own1 := by
    rw [← hc1]
    refine R1.enter.more (Ex.new hDl) (fun a z => .inl z) (fun a z => z.elim .inl fun e => .inr (by rw [e]; exact hDl)) fun a z => ?_
    rcases z with z | z
    · obtain ⟨o, e⟩ := R1.dom a z
      exact ⟨o, Ex.new hDl a o e⟩
    · exact ⟨_, by rw [z]; exact upd_same⟩
  refine lc_it w (fun i H' => ∃ d3 own3 acc vacc, RepS c1 σ H' d3 own3 ∧ H' Dl = some (.lst vacc) ∧ Reps (Av c1 own3) H' vacc acc ∧ lcR k t e vs d1 (xs.drop i) acc d3 = some (ys, d') ∧ ∀ v ∈ vs, own3 v = none) ?_ ?_ ?_ ?_
  · exact ⟨d1, own1, [], [], start, upd_same, .nil, e2, hv1⟩
  · rintro i H' _ ⟨d3, own3, acc, vacc, R3, _⟩
    exact hG c1 σ H' d3 own3 c1H c1f R3
  · rintro i v H' H3 hi ⟨d3, own3, acc, vacc, R3, hD3, ra, hr, hv3⟩ y
    have hx : xs[i]? = some xs[i] := List.getElem?_eq_getElem hi
    rw [List.drop_eq_getElem_cons hi] at hr
    obtain ⟨d4, e4, hr⟩ := of_ob hr
    obtain ⟨b, d5, e5, hr⟩ := of_bd hr
    obtain ⟨ex, rx⟩ := hY i _ c1 σ H' d3 own3 v H3 c1H c1f (fun a z => ((c1O a).mp z).elim .inl fun e => .inr (by rw [e]; exact hDl)) R3 hx y
    have R4 := (R3.ext ex).wipe hv3
    refine sg c1 (L2.wipe σ vs) H3 _ own3 v _ R4 rx d4 e4 _ fun σ4 own4 R5 n5 k5 => ⟨wipe_kept k5 htg, ?_⟩
    have ra3 : Reps (Av c1 own4) H3 vacc acc := ra.tr fun a o n z => ⟨n5 a n, ex a o z⟩
    have hlen : σ4.length = σ.length := by rw [k5.len, wipe_length]
    -- behind the element, or behind the test: the outer slots again
    have bck : ∀ (Hz : Hp) (dz : List Slot) (ownz : Own1), RepS c1 σ4 Hz dz ownz → ∀ d9, backD d1 vs dz = some d9 → RepS c1 σ Hz d9 ownz := fun Hz dz ownz Rz d9 hb => by
      refine RepS.back (d0 := d1) (fun j s hj hn => ?_) Rz hlen (fun j hj => kept_out k5 htg hj) hb
      have s1 := R1.slot j s hj
      have o1 : own1 j = none := noOwn_none R1 (by rw [hj]; exact hn)
      rw [o1] at s1
      refine s1.tr (fun a o n z => ?_) fun a z => by cases z
      exact later (c := c) c1H c1f (fun a z => ((c1O a).mp z).elim .inl fun e => .inr (by rw [e]; exact hDl)) Rz n z
    have backv : ∀ (Hz : Hp) (dz : List Slot) (ownz : Own1), RepS c1 σ4 Hz dz ownz → ∀ d9, backD d1 vs dz = some d9 → ∀ v ∈ vs, ownz v = none := by
      intro Hz dz ownz Rz d9 hb
      have gen : ∀ (vs : List Nat) (dz d9 : List Slot), backD d1 vs dz = some d9 → ∀ v ∈ vs, noOwn dz[v]? = true := by
        intro vs
        induction vs with
        | nil => intro dz d9 _ v hv; cases hv
        | cons u us ih =>
          intro dz d9 hb v hv
          unfold backD at hb
          split at hb
          · rename_i hn
            obtain ⟨s, es, hb⟩ := of_ob hb
            by_cases ev : v = u
            · rw [ev]; exact hn.1
            · rcases List.mem_cons.mp hv with z | z
              · exact absurd z ev
              · have := ih _ _ hb v z
                rw [List.getElem?_set_ne (Ne.symm ev)] at this
                exact this
          · cases hb
      exact fun v hv => noOwn_none Rz (gen vs dz d9 hb v hv)
    refine st c1 σ4 H3 d4 own4 R5 b d5 e5 _ fun H5 own5 S5 => ?_
    have R6 := R5.leave S5
    have nD : ∀ {ow : Own1} {Hq : Hp} {dq : List Slot}, RepS c1 σ4 Hq dq ow → ¬ ∃ i, ow i = some Dl := fun Rq ⟨i, z⟩ => Rq.nO i Dl z ((c1O Dl).mpr (.inr rfl))
    have hD5 : H5 Dl = some (.lst vacc) := by
      have h0 : hide own4 H3 Dl = some (.lst vacc) := by rw [hide_not (nD R5)]; exact ex _ _ hD3
      exact S5.keep Dl _ h0 (by intro z; cases z)
    cases b with
    | false =>
      obtain ⟨d9, e9, hr⟩ := of_ob hr
      exact ⟨d9, own5, acc, vacc, bck H5 d5 own5 R6 d9 e9, hD5, S5.carrys ra3, hr, backv H5 d5 own5 R6 d9 e9⟩
    | true =>
      obtain ⟨y, d6, e6, hr⟩ := of_bd hr
      have hl : acc.length < sizeLine := by
        by_cases z : acc.length < sizeLine
        · exact z
        · rw [if_neg z] at hr; cases hr
      rw [if_pos hl] at hr
      obtain ⟨d9, e9, hr⟩ := of_ob hr
      refine se c1 σ4 H5 d5 own5 R6 y d6 e6 _ fun yv H6 own6 S6 ry => ?_
      have R7 := R6.leave S6
      have hD6 : H6 Dl = some (.lst vacc) := by
        have h0 : hide own5 H5 Dl = some (.lst vacc) := by rw [hide_not (nD R6)]; exact hD5
        exact S6.keep Dl _ h0 (by intro z; cases z)
      have ra6 := S6.carrys (S5.carrys ra3)
      have R8 := bck H6 d6 own6 R7 d9 e9
      have dO : c1.O Dl := (c1O Dl).mpr (.inr rfl)
      refine ⟨vacc, hD6, by rw [ra6.len]; exact hl, d9, own6, acc ++ [y], vacc ++ [yv], R8.aside dO (by rw [c1H]; exact hDl0), upd_same, ?_, hr, backv H6 d6 own6 R7 d9 e9⟩
      refine (ra6.snoc ry).tr fun a o n z => ⟨n, ?_⟩
      rw [upd_ne (fun e => n (.inl (by rw [e]; exact dO)))]
      exact z
  · rintro H' ⟨d3, own3, acc, vacc, R3, hD3, ra, hr, _⟩
    rw [List.drop_length] at hr
    cases hr
    rw [← hc1] at R3 ra
    exact q Dl H' own3 R3 hDl ⟨vacc, hD3, ra⟩

theorem RepS.eqO {c : Cc κ} {σ : L2.St} {H : Hp} {d : List Slot} {own : Own1} {O' : Addr → Prop} (R : RepS c σ H d own) (h : ∀ a, c.O a ↔ O' a) : RepS (κ := κ) ⟨O', c.H0, c.fa, c.pin⟩ σ H d own := by
  have e : O' = c.O := funext fun a => propext (h a).symm
  subst e
  exact R
theorem RepS.lessH {O : Addr → Prop} {H0 H0' : Hp} {pn : Option Addr} {σ : L2.St} {H : Hp} {d : List Slot} {own : Own1} (R : RepS (κ := κ) ⟨O, H0, none, pn⟩ σ H d own) (h : ∀ a o, H0' a = some o → H0 a = some o) : RepS (κ := κ) ⟨O, H0', none, pn⟩ σ H d own := by
  refine ⟨R.len, R.slot, R.inj, R.out, fun i a e => ?_, R.nO, fun a o e n => R.keep a o (h a o e) n, R.dom, R.pin⟩
  rcases R.new i a e with q | q
  · left
    cases z : H0' a with
    | none => exact z
    | some o =>
      have q : H0 a = none := q
      rw [h a o z] at q
      cases q
  · cases q
/-- the comprehension over the owned list in slot i -/
def rLcO (i : Nat) (g : GR) (t : TR) (e : ER) (vs : List Nat) : ER := fun d => match d[i]? with
  | some (.ow (.list xs)) => if (vs.all fun v => noOwn (d.set i .un)[v]?) = true then bd (lcR g t e vs (d.set i .un) xs [] (d.set i .un)) fun ys d2 => match d2[i]? with
      | some .un => some (.list ys, d2.set i (.ow (.list xs)))
      | _ => none
    else none
  | _ => none
theorem simLcO {K : PySem.W.Frag} {i : Nat} {g : TG} {tt : TT} {te : TE} {k : GR} {t : TR} {e : ER} {tg vs : List Nat} (sg : SimG κ g k tg) (st : SimT κ tt t) (se : SimE κ te e) (htg : ∀ j ∈ tg, j ∈ vs) : SimN κ (tLc (iAny K (tVar i)) g tt te vs) (rLcO i k t e vs) := fun c σ H d own R x d' h Q q => by
  unfold rLcO at h
  split at h
  · rename_i xs ei
    split at h
    · rename_i hvs
      obtain ⟨ys, d2, e2, h⟩ := of_bd h
      split at h
      · rename_i eu
        cases h
        obtain ⟨a, ea, es, vsl, hv, rs⟩ := R.slot i _ ei
        have hid : d.length = σ.length := R.len.symm
        have hi : i < d.length := (List.getElem?_eq_some_iff.mp ei).1
        have n0 : notFd d[i]? = true := by rw [ei]; rfl
        have hna : ¬ ∃ j, setAt own i none j = some a := fun ⟨j, z⟩ => by
          obtain ⟨z1, z2⟩ := setAt_none z
          exact z2 (R.inj j i a z1 ea)
        have av : ∀ b, Av (κ := κ) ⟨fun b => c.O b ∨ b = a, hide own H, none, c.pin⟩ (setAt own i none) b ↔ Av c own b := fun b => by
          constructor
          · rintro ((z | z) | ⟨j, z⟩)
            · exact .inl z
            · exact .inr ⟨i, by rw [z]; exact ea⟩
            · exact .inr ⟨j, (setAt_none z).1⟩
          · rintro (z | ⟨j, z⟩)
            · exact .inl (.inl z)
            · by_cases ej : j = i
              · subst ej
                rw [ea] at z
                cases z
                exact .inl (.inr rfl)
              · exact .inr ⟨j, by rw [setAt_ne ej]; exact z⟩
        have R0 : RepS (κ := κ) ⟨fun b => c.O b ∨ b = a, hide own H, none, c.pin⟩ σ H (d.set i .un) (setAt own i none) := by
          refine ⟨by rw [List.length_set]; exact R.len, fun j s hj => ?_, fun j l b h1 h2 => R.inj j l b (setAt_none h1).1 (setAt_none h2).1, fun j b h => by rw [List.length_set]; exact R.out j b (setAt_none h).1, fun j b h => .inl (hide_own (setAt_none h).1), fun j b h => ?_, fun b o h _ => (of_hide h).1, fun b h => ?_, fun b h => ⟨(setAt_ne (Ne.symm (pin_ne R n0 h))).trans (R.pin b h).1, by rw [List.getElem?_set_ne (pin_ne R n0 h)]; exact (R.pin b h).2⟩⟩
          · by_cases ej : j = i
            · subst ej
              rw [List.getElem?_set_self hi] at hj
              cases hj
              exact setAt_eq
            · rw [List.getElem?_set_ne (Ne.symm ej)] at hj
              rw [setAt_ne ej]
              exact (R.slot j s hj).tr (fun b o n z => ⟨fun y => n ((av b).mp y), z⟩) fun _ _ => rfl
          · rintro (z | z)
            · exact R.nO j b (setAt_none h).1 z
            · subst z
              exact (setAt_none h).2 (R.inj j i _ (setAt_none h).1 ea)
          · rcases h with z | z
            · exact R.dom b z
            · exact ⟨_, by rw [z]; exact hv⟩
        have hka : hide (setAt own i none) H a = some (.lst vsl) := by rw [hide_not hna]; exact hv
        refine ⟨.ref a, es, Or.inl ⟨a, rfl, ⟨vsl, .inl (.inl hv)⟩, ?_⟩⟩
        have core := lc_coreD (Q := Q) sg st se htg R0 (xs := xs) (J := Itl K a) ?_ hvs e2 fun p H' own' R3 hp ow => ?_
        · exact core
        · refine ⟨⟨fun H => SqL K H a vsl, YAt vsl, by rw [← rs.len]; exact walk_list, fun c' σ2 H2 d2 own2 e0 ef R2 => .inl (.inl (R2.keep a _ (by rw [e0]; exact hka) (by rw [ef]; intro z; cases z))), ?_⟩⟩
          rintro m y c' σ2 H2 d2 own2 v H3 e0 ef hO R2 hx ⟨rfl, hw⟩
          refine ⟨Ex.refl _, ?_⟩
          obtain ⟨v', h1, r1⟩ := rs.get hx
          rw [hw] at h1
          cases h1
          exact r1.tr fun b o n z => later e0 ef hO R2 (fun y => n ((av b).mp y)) z
        · have hlt : i < d2.length := (List.getElem?_eq_some_iff.mp eu).1
          have oi : own' i = none := by
            have := R3.slot i _ eu
            exact this
          have hOa : ¬ (c.O a ∨ a = p) := by
            rintro (z | z)
            · exact R.nO i a ea z
            · rw [← z, hv] at hp
              cases hp
          have h0 : hide own H a = none := hide_own ea
          have hva : H' a = some (.lst vsl) := R3.keep a _ hka (by intro z; cases z)
          have el : Reps (Av (κ := κ) ⟨fun b => (c.O b ∨ b = a) ∨ b = p, hide (setAt own i none) H, none, c.pin⟩ own') H' vsl xs := rs.tr fun b o n z => later (c := ⟨fun b => c.O b ∨ b = a, hide own H, none, c.pin⟩) (own := setAt own i none) rfl rfl (fun b (z : (c.O b ∨ b = a) ∨ b = p) => z.elim .inl fun y => .inr (by rw [y]; exact hp)) R3 (fun y => n ((av b).mp y)) z
          have R4 : RepS (κ := κ) ⟨fun b => (c.O b ∨ b = p) ∨ b = a, hide own H, none, c.pin⟩ σ H' d2 own' := (R3.eqO (O' := fun b => (c.O b ∨ b = p) ∨ b = a) fun b => by
            constructor
            · rintro ((z | z) | z)
              · exact .inl (.inl z)
              · exact .inr z
              · exact .inl (.inr z)
            · rintro ((z | z) | z)
              · exact .inl (.inl z)
              · exact .inr z
              · exact .inl (.inr z)).lessH fun b o z => by
                obtain ⟨z1, z2⟩ := of_hide z
                show hide (setAt own i none) H b = some o
                rw [hide_not fun ⟨j, y⟩ => z2 ⟨j, (setAt_none y).1⟩]
                exact z1
          have R5 := R4.take (O := fun b => c.O b ∨ b = p) (i := i) (x := .list xs) hlt (by rw [eu]; rfl) h0 hOa ⟨vsl, hva, el.tr fun b o n z => ⟨fun y => n (by
            rcases y with ((y | y) | y) | y
            · exact .inl (.inl (.inl y))
            · exact .inl (.inr y)
            · exact .inl (.inl (.inr y))
            · exact .inr y), z⟩⟩
          have eσ : σ.set i (some (.ref a)) = σ := by
            refine List.ext_getElem? fun j => ?_
            by_cases ej : j = i
            · subst ej
              rw [List.getElem?_set_self (by rw [← hid]; exact hi), es]
            · rw [List.getElem?_set_ne (Ne.symm ej)]
          rw [eσ] at R5
          refine q p H' _ R5 ⟨fun z => (by
            obtain ⟨o, ez⟩ := R.dom p z
            rw [hp] at ez
            cases ez), ?_⟩ ?_
          · cases z : hide own H p with
            | none => rfl
            | some o =>
              rw [(of_hide z).1] at hp
              cases hp
          · obtain ⟨vy, hy, ry⟩ := ow
            refine ⟨vy, hy, ry.tr fun b o n z => ⟨fun y => n ?_, z⟩⟩
            rcases y with (y | y) | ⟨j, y⟩
            · exact .inl (.inl (.inl y))
            · exact .inl (.inr y)
            · by_cases ej : j = i
              · subst ej
                rw [setAt_eq] at y
                cases y
                exact .inl (.inl (.inr rfl))
              · rw [setAt_ne ej] at y
                exact .inr ⟨j, y⟩
      · cases h
    · cases h
  · cases h
end DK
end
section
set_option maxRecDepth 100000
/-! sorted of a dict: its keys in order -/
namespace DK
open PySem PySem.Spec PyProof.Rows L2
def rSortK : List V → Hp → VK → Prop := fun xs H Q => ∃ (a : Addr) (kvs : List (Key × V)) (ks : List Int), xs = [.ref a] ∧ Rd H a (.dK kvs) ∧ kvs.map (·.1) = ks.map Sum.inl ∧ ks.length < 64 ∧
    ∀ (ys : List Int) (p : Addr), ys.Perm ks → ys.Pairwise (· ≤ ·) → H p = none → Q (.ref p) (upd H p (.lst (ys.map V.int)))
theorem cr_sortK {X : Cx} (hc : X.calm = true) : CallR X (.builtin "sorted") rSortK := call_sortedDI hc
def fSortK : List D → Option (List D)
  | [.dict es] => match intsOf (es.map (·.1)) with
    | some ks => if ks.length < 64 then some ((isort ltZ ks).map .int) else none
    | none => none
  | _ => none
theorem RepKs.keysI {Av : Addr → Prop} {H : Hp} : ∀ {kvs : List (Key × V)} {es : List (D × D)} {ks : List Int}, RepKs Av H kvs es → es.map (·.1) = ks.map PyData.int → kvs.map (·.1) = ks.map Sum.inl
  | _, _, [], .nil, _ => rfl
  | _, _, _ :: _, .nil, h => by cases h
  | _, _, [], .cons _ _, h => by cases h
  | _, _, k :: ks, .cons (k := q) r rs, h => by
    rw [List.map_cons, List.map_cons] at h
    obtain ⟨h1, h2⟩ := List.cons.inj h
    have e : q = Sum.inl k := by
      cases q with
      | inl i => have : PyData.int i = PyData.int k := h1; cases this; rfl
      | inr i => have : PyData.str i = PyData.int k := h1; cases this
    rw [List.map_cons, List.map_cons, RepKs.keysI rs h2, e]
theorem opSortK : OpAN rSortK fSortK := fun A H vs xs z dom hx h => by
  unfold fSortK at h
  split at h
  · rename_i es
    split at h
    · rename_i ks e
      split at h
      · rename_i h64
        cases h
        obtain ⟨v, rfl, r⟩ := hx.one
        obtain ⟨a, kvs, rfl, h1, rs⟩ := r.dct
        refine fun Q q => ⟨a, kvs, ks, rfl, .inl h1, rs.keysI (intsOf_eq e), h64, fun ys p pm pw hp => ?_⟩
        have : ys = isort ltZ ks := srt_uniq ordZ (pw.imp fun {i j} k => decide_eq_false (by omega)) (isort_srt ordZ ks) (pm.trans (isort_perm ltZ ks).symm)
        subst this
        exact q p _ hp (Reps.of_ints _)
      · cases h
    · cases h
  · cases h
end DK
end
section
set_option maxRecDepth 100000
/-! statements that a run never comes to; any value as a test; three names stored at once; texts of the module -/
namespace DK
open PySem PySem.Spec PyProof.Rows L2
variable {κ : XI}
def sNever : SR := fun _ => none
theorem simNever : SimS κ tNever sNever := fun c σ H d own R o h De p => by cases h
theorem noRt_sNever : NoRt sNever := fun d x d' h => by cases h
def truD2 : D → Option Bool
  | .dict es => some (!es.isEmpty)
  | x => truD x
def rTru (a : BR) : TR := fun d => bd (a d) fun x d1 => ob (x.get d1) fun u => ob (truD2 u) fun t => some (t, d1)
theorem reps_emp {A : Addr → Prop} {H : Hp} {vs : List V} {xs : List D} (r : Reps A H vs xs) : vs.isEmpty = xs.isEmpty := by cases r <;> rfl
theorem repks_emp {A : Addr → Prop} {H : Hp} {vs : List (Key × V)} {xs : List (D × D)} (r : RepKs A H vs xs) : vs.isEmpty = xs.isEmpty := by cases r <;> rfl
theorem vw_tru {K : PySem.W.Frag} {A : Addr → Prop} {H : Hp} {v : V} {x : D} {t : Bool} (r : Vw A H v x) (h : truD2 x = some t) : TruV K v H t := by
  cases x with
  | none => rw [r.non]; cases h; rfl
  | bool b => rw [r.bl]; cases h; rfl
  | int i => rw [r.int]; cases h; rfl
  | str z =>
    rw [r.str]
    have h : (if z.length ≤ sizeLine then some ((z.length : Int) != 0) else none) = some t := h
    split at h
    · rename_i hz
      cases h
      exact ⟨hz, rfl⟩
    · cases h
  | list xs =>
    obtain ⟨a, vs, rfl, h1, rs⟩ := r.lst
    cases h
    exact .inl ⟨vs, .inl (.inl h1), by rw [reps_emp rs]⟩
  | tuple xs =>
    obtain ⟨a, vs, rfl, h1, rs⟩ := r.tup
    cases h
    exact .inr (.inl ⟨vs, .inl (.inl h1), by rw [reps_emp rs]⟩)
  | dict es =>
    obtain ⟨a, vs, rfl, h1, rs⟩ := r.dct
    cases h
    exact .inr (.inr ⟨vs, h1, by rw [repks_emp rs]⟩)
theorem simTru {K : PySem.W.Frag} {te : TE} {a : BR} (sa : SimB κ te a) : SimT κ (fun σ H Q => te σ H fun x H' => ∃ k, TruV K x H' k ∧ Q k H') (rTru a) := fun c σ H d own R b d' h Q q => by
  obtain ⟨x1, d1, e1, h⟩ := of_bd h
  obtain ⟨u, e2, h⟩ := of_ob h
  obtain ⟨t, e3, h⟩ := of_ob h
  cases h
  exact sa c σ H d own R x1 _ e1 _ fun v1 H1 own1 S1 b1 => ⟨_, vw_tru (b1.vw (R.leave S1) e2) e3, q H1 own1 S1⟩
theorem pe_globS {X : Cx} {x : Str} {z : Str} {pos : Pos} (hg : Gl X x) (hm : ∃ t, X.mg x = some (.str z t)) (hd : (x == ("__debug__" : Str)) = false := by decide) : PE X (.Name x pos) (tC (.str z)) := by
  obtain ⟨t, hm⟩ := hm
  exact pe_glob hg hm ⟨t, rfl⟩ hd
theorem pe_globI {X : Cx} {x : Str} {i : Int} {pos : Pos} (hg : Gl X x) (hm : ∃ t, X.mg x = some (.int i t)) (hd : (x == ("__debug__" : Str)) = false := by decide) : PE X (.Name x pos) (tC (.int i)) := by
  obtain ⟨t, hm⟩ := hm
  exact pe_glob hg hm ⟨t, rfl⟩ hd
def sPar3 (i j l : Nat) (a : AR) : SR := fun d => bd (a d) fun xs d1 => match xs with
  | [x, y, z] => if notFd d1[i]? = true ∧ notFd d1[j]? = true ∧ notFd d1[l]? = true ∧ i ≠ j ∧ i ≠ l ∧ j ≠ l then some (.nx (((d1.set i (.fz x)).set j (.fz y)).set l (.fz z))) else none
  | _ => none
theorem simPar3 {i j l : Nat} {ta : TA} {a : AR} (sa : SimA κ ta a) : SimS κ (tPar3 i j l ta) (sPar3 i j l a) := fun c σ H d own R o h De p => by
  obtain ⟨xs, d1, e, h⟩ := of_bd h
  split at h
  · rename_i x y z
    split at h
    · rename_i hn
      cases h
      obtain ⟨n1, n2, n3, k1, k2, k3⟩ := hn
      refine sa c σ H d own R _ _ e _ fun vs H1 own1 S rs => ?_
      cases rs with
      | cons r rs =>
        cases rs with
        | cons r' rs =>
          cases rs with
          | cons r'' rs =>
            cases rs
            have R1 := R.leave S
            refine ⟨_, _, _, rfl, p _ H1 _ (((R1.store n1 r).store ?_ (r'.tr fun a o n z => ⟨Av_drop n, z⟩)).store ?_ (r''.tr fun a o n z => ⟨Av_drop (Av_drop n), z⟩))⟩
            · rw [List.getElem?_set_ne k1]
              exact n2
            · rw [List.getElem?_set_ne k3, List.getElem?_set_ne k2]
              exact n3
    · cases h
  · cases h
end DK
end
section
set_option maxRecDepth 100000
/-! enumerate over a text -/
namespace DK
open PySem PySem.Spec PyProof.Rows L2
variable {κ : XI}
set_option maxHeartbeats 1000000 in
theorem meets_enum1 {v : Value} {o : Obj} {H : Heap → Prop} (B : Begins v o H) :
    Meets (Builtin.«enumerate.__new__» ⟨[.type "enumerate", v], []⟩) (fun _ R s => H s.heap ∧
      R (.ok (.ret (.ref (s.heap.push o).objs.size))) { s with heap := (s.heap.push o).push { cls := .type "enumerate", data := .fields #[.none, .bool false, .ref s.heap.objs.size, rawInt 0, .none, .none] } }) :=
  .of_wp fun prog w A R s h => by
    obtain ⟨hp, g, d, tk, os⟩ := s; obtain ⟨h1, h⟩ := h
    have hsub := sub_enumerate
    have q1 : ∀ {A' : Around} {E : Value → Shared → Prop} {Q : Value → Shared → Prop}, Q (.ref hp.objs.size) ⟨hp.push o, g, d, tk, os⟩ → wpAny (model prog w) A' (pyIter v) Q E ⟨hp, g, d, tk, os⟩ :=
      fun q => B.iter prog w _ _ ⟨hp, g, d, tk, os⟩ _ h1 q
    wp_walk using q1
    refine wpAny_stack_any fun st => wpAny_pure ?_
    split
    · rename_i c _ _ _ _ _
      cases (c == Value.type "enumerate")
      · wp_walk using q1
        exact ⟨_, rfl, h⟩
      · wp_walk using q1
        exact ⟨_, rfl, h⟩
    · wp_walk using q1
      exact ⟨_, rfl, h⟩
theorem enum_begins1 {prog : Program} {w : World} {A : Around} {E : Value → Shared → Prop} {s : Shared} {v : Value} {o : Obj} {H : Heap → Prop} {Q : Value → Shared → Prop} (B : Begins v o H) (h1 : H s.heap)
    (h : ∀ h', IsEnum h' (s.heap.objs.size + 1) s.heap.objs.size 0 .none → h'.get? s.heap.objs.size = some o → h'.objs.size = s.heap.objs.size + 2 →
      (∀ b o, s.heap.get? b = some o → h'.get? b = some o) → Q (.ref (s.heap.objs.size + 1)) { s with heap := h' }) :
    wpAny (model prog w) A (call (.type "enumerate") [v]) Q E s := by
  refine callType_new F.called_enumerate (by decide) (F.typeCall_enumerate_1 _) (F.newCall_enumerate_1 _) (fun obj => F.args_object_init_2 obj _) F.entry_enumerate_new
    (meets_enum1 B) ⟨h1, ?_⟩
  have hz : (s.heap.push o).objs.size = s.heap.objs.size + 1 := Heap.size_push ..
  show _ ∧ _
  rw [hz]
  have he : IsEnum ((s.heap.push o).push { cls := .type "enumerate", data := .fields #[.none, .bool false, .ref s.heap.objs.size, rawInt 0, .none, .none] }) (s.heap.objs.size + 1) s.heap.objs.size 0 .none := by
    have := Heap.get?_push_size (s.heap.push o) (o := { cls := .type "enumerate", data := .fields #[.none, .bool false, .ref s.heap.objs.size, rawInt 0, .none, .none] }) rfl
    rw [hz] at this; exact this
  refine ⟨⟨_, he, rfl⟩, h _ he (Heap.get?_push_of_some _ (Heap.get?_push_size _ B.free)) (by rw [Heap.size_push, hz]) fun b o x => Heap.get?_push_of_some _ (Heap.get?_push_of_some _ x)⟩
def ItX (x : Str) : It :=
  ⟨fun i _ => i < (txV x).length, fun i H v H' => ∃ T y, v = .ref T ∧ H T = none ∧ H' = upd H T (.tup [.int (i : Nat), y]) ∧ (txV x)[i]? = some y, fun i _ => i = (txV x).length⟩
theorem turn_enumX {P : Program} {w : World} {K : PySem.W.Frag} {elts : List Expr} {kk : Nat} {tpos : Pos} (x : Str) {e it : Addr} (ne : e ≠ it) :
    Turn P w K (.Tuple elts kk tpos) (ItX x) [e, it] e (fun i h => (∃ old, IsEnum h e it ((i : Nat) : Int) old) ∧ Src.itr h it i (.tx x)) where
  mem := List.mem_cons_self
  obj := fun i h st c hc => by
    obtain ⟨⟨old, he⟩, h1⟩ := st
    have e' : c = e ∨ c = it := by simpa using hc
    rcases e' with rfl | rfl
    · exact ⟨_, he, fun v q => nomatch q⟩
    · exact Src.itr_obj h1
  keep := fun i h h' st k => by
    obtain ⟨⟨old, he⟩, h1⟩ := st
    exact ⟨⟨old, k e (by simp) _ he⟩, Src.itr_at h1 (k it (by simp))⟩
  item := by
    intro X hP hw hK hc i pins s σ H E I hf st hg
    subst hP hw hK
    obtain ⟨⟨old, he⟩, t, h1⟩ := st
    have hl : (txV x).length = x.cps.size := by unfold txV; rw [List.length_map, Array.length_toList]
    have W := GoesN.enumFrom (prog := X.prog) (w := X.w) (elts := elts) (x1 := kk) (pos := tpos) 0 (Draws.text (A := X.A.in1) (I.ok.hd hc) it x t) e ne (by simp [ne]) (by simp)
    have hg : i < (txV x).length := hg
    refine W.goes i s _ E (by rw [← hl]; exact hg) ⟨⟨old, by rw [Int.zero_add]; exact he⟩, h1⟩ fun v h' tk hY st' hk ht => ?_
    obtain ⟨T, tt, y, rfl, hT, py, oT, hoT, hcT, hfT, hdT⟩ := hY
    obtain ⟨c, v, ec, rfl⟩ := py
    have ey : (txV x)[i]? = some (.str ⟨#[c]⟩) := by
      unfold txV
      rw [List.getElem?_map, Array.getElem?_toList, ec]
      rfl
    have new : ObjOk X.prog X.w (upd H T (.tup [.int (i : Nat), .str ⟨#[c]⟩])) h' T (.tup [.int (i : Nat), .str ⟨#[c]⟩]) := by
      refine ⟨by show 2 ≤ sizeLine; decide, [.int (0 + (i : Int)) tt, .str ⟨#[c]⟩ v], .cons ⟨tt, by rw [Int.zero_add]⟩ (.cons ⟨v, rfl⟩ .nil), ⟨_, hoT, hcT, hfT, hdT⟩⟩
    have I1 : Inv X pins σ (upd H T (.tup [.int (i : Nat), .str ⟨#[c]⟩])) { s with heap := h', toks := tk } := I.turnedNew (ch := [e, it]) (fun c o hb q => hk c o hb q) hf hT new
    refine ⟨.ref T, _, I1, rfl, ⟨T, _, rfl, I.hok.fresh hT, rfl, ey⟩, ⟨?_, ⟨t, st'.2⟩⟩, fun c hcm => ?_⟩
    · obtain ⟨old', h2⟩ := st'.1
      rw [Int.zero_add] at h2
      exact ⟨old', h2⟩
    · have hlt : c < s.heap.objs.size := by
        have e' : c = e ∨ c = it := by simpa using hcm
        rcases e' with rfl | rfl
        · exact Heap.lt_size he
        · obtain ⟨_, e1, _⟩ := h1
          exact Heap.lt_size e1
      rw [upd_ne (Nat.ne_of_lt (Nat.lt_of_lt_of_le hlt hT))]
      exact (hf c hcm).1
  done := by
    intro X hP hw hK hc i pins s σ H E I hf st hg
    subst hP hw hK
    obtain ⟨⟨old, he⟩, t, h1⟩ := st
    have hl : (txV x).length = x.cps.size := by unfold txV; rw [List.length_map, Array.length_toList]
    have hg : i = (txV x).length := hg
    subst hg
    have W := GoesN.enumFrom (prog := X.prog) (w := X.w) (elts := elts) (x1 := kk) (pos := tpos) 0 (Draws.text (A := X.A.in1) (I.ok.hd hc) it x t) e ne (by simp [ne]) (by simp)
    exact W.stops s _ E ⟨⟨old, by rw [Int.zero_add, ← hl]; exact he⟩, by rw [← hl]; exact h1⟩ fun h' tk hk ht => I.turnedL (t' := tk) (ch := [e, it]) (fun c o hb q => hk c o hb q) hf
  self := fun A i s Q E st h => let ⟨⟨_, he⟩, _⟩ := st; wpAny_pyIter_enum he h
def iEnumX (K : PySem.W.Frag) (ta : TA) : TI := fun σ H R => ta σ H fun vs H1 => ∃ x, vs = [.str x] ∧ R (ItX x) H1
theorem pi_enumX {X : Cx} {e : Expr} {ta : TA} {p pos tpos : Pos} {elts : List Expr} {kk : Nat} (hg : Gl X "enumerate") (hm : X.mg "enumerate" = none) (ha : PA X [e] ta) (hs : starEach [e] X.env = [(false, eval e X.env)] := by rfl) :
    PI X (.Tuple elts kk tpos) (.Call (.Name "enumerate" p) [e] [] pos) (iEnumX X.K ta) := by
  refine ⟨fun pins s σ H R I h => ?_⟩
  refine Call_ (ld_blt I hg hm boot_enumerate (PyProof.Rows.callWith_type1 (thn (ha.run pos pins s σ H _ I h) fun us s1 ⟨vs, H1, I1, r1, q1⟩ => ?_) hs rfl))
  obtain ⟨x, ex, q⟩ := q1
  subst ex
  cases r1 with
  | cons r rr =>
    cases rr
    obtain ⟨t, rfl⟩ := r
    refine enum_begins1 (begins_text x t) trivial fun h' he hit hsz hk => wpAny_pyIter_enum he ?_
    have I2 : Inv X pins σ H1 { s1 with heap := h' } := I1.kept (t' := s1.toks) hk
    refine ⟨s1.heap.objs.size + 1, [s1.heap.objs.size + 1, s1.heap.objs.size], _, _, H1, rfl, I2, turn_enumX x (e := s1.heap.objs.size + 1) (it := s1.heap.objs.size) (Nat.succ_ne_self _), ⟨⟨.none, he⟩, ⟨t, _, hit, rfl, rfl⟩⟩, fun b hb => ?_, q⟩
    have e' : b = s1.heap.objs.size + 1 ∨ b = s1.heap.objs.size := by simpa using hb
    have hle : s1.heap.objs.size ≤ b := by
      rcases e' with z | z
      · rw [z]; exact Nat.le_add_right _ _
      · rw [z]; exact Nat.le_refl _
    exact I1.fpOk hle (I1.hok.fresh hle)
def iEX (a : AR) : IR := fun d => bd (a d) fun us d1 => match us with
  | [.str z] => some (counted (chars z), d1)
  | _ => none
theorem txReps {A : Addr → Prop} {H : Hp} (z : Str) : Reps A H (txV z) (chars z) := by
  unfold txV chars
  induction z.cps.toList with
  | nil => exact .nil
  | cons c l ih => exact .cons (.str _) ih
theorem walk_enumX {x : Str} : Walk (ItX x) (txV x).length (fun _ => True) (YPair (fun i => some (.int (i : Nat))) (fun i => (txV x)[i]?)) := by
  refine ⟨fun i _ hi q => hi, fun _ q => rfl, fun i H v H' _ q y => ?_⟩
  obtain ⟨T, y, h1, h2, h3, h4⟩ := y
  exact ⟨T, .int (i : Nat), y, h1, h2, h3, rfl, h4⟩
theorem simIEX {K : PySem.W.Frag} {ta : TA} {a : AR} (sa : SimA κ ta a) : SimI κ (iEnumX K ta) (iEX a) := fun c σ H d own R xs d' h Q q => by
  obtain ⟨us, d1, e, h⟩ := of_bd h
  refine sa c σ H d own R us d1 e _ fun vs H1 own1 S rs => ?_
  split at h
  · rename_i z
    cases h
    cases rs with
    | cons r rs =>
      cases rs
      cases r
      refine ⟨z, rfl, q _ H1 own1 S ?_⟩
      have hl : (chars z).length = (txV z).length := ((txReps (A := fun _ => False) (H := H1) z).len).symm
      refine ⟨⟨fun H => True, _, by rw [counted_len, hl]; exact walk_enumX, fun c' σ2 H2 d2 own2 e0 ef R2 => trivial, ?_⟩⟩
      rintro i x c' σ2 H2 d2 own2 v H3 e0 ef hO R2 hx ⟨T, v1, v2, rfl, nT, e3, h1, h2⟩
      obtain ⟨x1, x2, g1, g2, rfl⟩ := pairsOf_get (xs := rowI 0 1 (chars z).length) (ys := chars z) hx
      obtain ⟨w, h3, r3⟩ := (txReps (A := Av c' own2) (H := H2) z).get g2
      have h2' : (txV z)[i]? = some v2 := h2
      rw [h2'] at h3
      cases h3
      cases h1
      have e4 := rowI_get g1
      refine pairRep nT R2.domA e3 ?_ r3
      rw [e4]
      have : (0 : Int) + (i : Int) * 1 = (i : Int) := by omega
      rw [this]
      exact .int _
  · cases h
theorem iEX_S {a : AR} {d d1 : List Slot} {l : List Nat} (h : a d = some ([.str (⟨l.toArray⟩ : Str)], d1)) : iEX a d = some (counted (l.map fun c => PyData.str (⟨#[c]⟩ : Str)), d1) := by
  unfold iEX
  rw [h]
  show some (counted (chars _), d1) = _
  unfold chars
  rfl
/-! is, is not of two bools -/
def fIsB (neg : Bool) : D → D → Option D
  | .bool a, .bool b => some (.bool (if neg then !decide (a = b) else decide (a = b)))
  | _, _ => none
theorem opIsBl : Op2 rIsB (fIsB false) := fun A H v w x y z dom hx hy h => by
  unfold fIsB at h
  split at h
  · rename_i a b
    cases h
    exact gives_flat (fun _ => .bl _) fun Q q => ⟨a, b, hx.bl, hy.bl, q⟩
  · cases h
theorem opNotBl : Op2 rNotB (fIsB true) := fun A H v w x y z dom hx hy h => by
  unfold fIsB at h
  split at h
  · rename_i a b
    cases h
    exact gives_flat (fun _ => .bl _) fun Q q => ⟨a, b, hx.bl, hy.bl, q⟩
  · cases h
end DK
end
section
set_option maxRecDepth 100000
set_option maxHeartbeats 1000000
/-! exceptions with one field: raised by a def, caught by the caller -/
namespace DK
open PySem PySem.Spec PyProof.Rows L2
variable {κ : XI}
/-- the classes by number, each with its field -/
structure XM where
  cl : Nat → Addr
  fl : Nat → Str
inductive OutX where
  | o (x : Out)
  | x (n : Nat) (v : D) (d : List Slot)
abbrev SRX := List Slot → Option OutX
def PostX (M : XM) (W : WX) (c : Cc κ) (De : Ends) : OutX → Prop
  | .o o => Post c De o
  | .x n v d' => ∀ σ' H' own' dd vv, RepS c σ' H' d' own' → Rep (Av c own') H' vv v → H' dd = some (.xd [(M.fl n, vv)]) → ¬ Av c own' dd → (c.fa = none → c.H0 dd = none) → W (.ref (M.cl n)) (some dd) σ' H'
def SimX (κ : XI) (M : XM) (W : WX) (ts : TS) (f : SRX) : Prop := ∀ (c : Cc κ) (σ : L2.St) (H : Hp) (d : List Slot) (own : Own1), RepS c σ H d own → ∀ o, f d = some o → ∀ De : Ends, PostX M W c De o → ts De σ H
section
variable {M : XM} {W : WX}
def xS (f : SR) : SRX := fun d => (f d).map .o
theorem simXS {ts : TS} {f : SR} (s : SimS κ ts f) : SimX κ M W ts (xS f) := fun c σ H d own R o h De p => by
  unfold xS at h
  cases e : f d with
  | none => rw [e] at h; cases h
  | some o1 =>
    rw [e] at h
    cases h
    exact s c σ H d own R o1 e De p
def xSeq (a b : SRX) : SRX := fun d => match a d with
  | some (.o (.nx d1)) => b d1
  | r => r
theorem simXSeq {t u : TS} {a b : SRX} (sa : SimX κ M W t a) (sb : SimX κ M W u b) : SimX κ M W (tSeq t u) (xSeq a b) := fun c σ H d own R o h De p => by
  unfold xSeq at h
  cases e : a d with
  | none => rw [e] at h; cases h
  | some o1 =>
    rw [e] at h
    cases o1 with
    | x n v d1 => cases h; exact sa c σ H d own R _ e _ p
    | o o2 =>
      cases o2 with
      | nx d1 => exact sa c σ H d own R _ e _ fun σ' H' own' R' => sb c σ' H' d1 own' R' o h De p
      | rt x d1 => cases h; exact sa c σ H d own R _ e _ p
      | bk d1 => cases h; exact sa c σ H d own R _ e _ p
      | ct d1 => cases h; exact sa c σ H d own R _ e _ p
def xIf (t : TR) (a b : SRX) : SRX := fun d => match t d with
  | some (k, d1) => if k = true then a d1 else b d1
  | none => none
theorem simXIf {tt : TT} {t u : TS} {f : TR} {a b : SRX} (st : SimT κ tt f) (sa : SimX κ M W t a) (sb : SimX κ M W u b) : SimX κ M W (tIfS tt t u) (xIf f a b) := fun c σ H d own R o h De p => by
  unfold xIf at h
  cases e : f d with
  | none => rw [e] at h; cases h
  | some q =>
    obtain ⟨k, d1⟩ := q
    rw [e] at h
    refine st c σ H d own R k _ e _ fun H1 own1 S => ?_
    cases k with
    | true => exact sa c σ H1 d1 own1 (R.leave S) o h De p
    | false => exact sb c σ H1 d1 own1 (R.leave S) o h De p
def xForR (g : GR) (b : SRX) : List D → SRX
  | [], d => some (.o (.nx d))
  | x :: xs, d => match g x d with
    | none => none
    | some d1 => match b d1 with
      | some (.o (.nx d2)) => xForR g b xs d2
      | some (.o (.ct d2)) => xForR g b xs d2
      | some (.o (.bk d2)) => some (.o (.nx d2))
      | some (.o (.rt y d2)) => some (.o (.rt y d2))
      | some (.x n v d2) => some (.x n v d2)
      | none => none
def xFor (f : IR) (g : GR) (b : SRX) : SRX := fun d => match f d with
  | some (xs, d1) => xForR g b xs d1
  | none => none
theorem fresh_in {c : Cc κ} {σ : L2.St} {H : Hp} {d : List Slot} {own : Own1} (R : RepS c σ H d own) {dd : Addr} (h : hide own H dd = none) (hf : c.fa = none) : c.H0 dd = none := by
  cases e : c.H0 dd with
  | none => rfl
  | some o =>
    have k := R.keep dd o e (by rw [hf]; intro z; cases z)
    by_cases z : ∃ i, own i = some dd
    · obtain ⟨i, hi⟩ := z
      rcases R.new i dd hi with q | q
      · rw [q] at e; cases e
      · rw [hf] at q; cases q
    · rw [hide_not z, k] at h
      cases h
theorem simXFor {wi : TI} {g : TG} {tb : TS} {f : IR} {k : GR} {b : SRX} {tg : List Nat} (si : SimI κ wi f) (sg : SimG κ g k tg) (sb : SimX κ M W tb b) : SimX κ M W (tFor wi g tb) (xFor f k b) := fun c σ H d own R o h De p => by
  unfold xFor at h
  cases e : f d with
  | none => rw [e] at h; cases h
  | some q =>
  obtain ⟨xs, d1⟩ := q
  rw [e] at h
  refine si c σ H d own R xs _ e _ fun J H1 own1 S Wk => ?_
  obtain ⟨G, Y, w, hG, hY⟩ := Wk.ex
  have R1 := R.leave S
  refine for_it w (fun i σ' H' => ∃ d2 own2, RepS (c.at own1 H1) σ' H' d2 own2 ∧ xForR k b (xs.drop i) d2 = some o) ⟨d1, own1, R1.enter, h⟩ (fun i σ' H' _ ⟨d2, own2, S2, _⟩ => hG (c.at own1 H1) σ' H' d2 own2 rfl rfl S2) ?_ ?_
  · rintro i v σ' H' H3 hi ⟨d2, own2, S2, h2⟩ y
    have hx : xs[i]? = some xs[i] := List.getElem?_eq_getElem hi
    rw [List.drop_eq_getElem_cons hi] at h2
    unfold xForR at h2
    cases e3 : k xs[i] d2 with
    | none => rw [e3] at h2; cases h2
    | some d3 =>
    rw [e3] at h2
    dsimp only at h2
    obtain ⟨ex, r⟩ := hY i _ (c.at own1 H1) σ' H' d2 own2 v H3 rfl rfl (fun a z => .inl z) S2 hx y
    refine sg _ σ' H3 d2 own2 v _ (S2.ext ex) r d3 e3 _ fun σ4 own4 S4 _ _ => ?_
    cases eb : b d3 with
    | none => rw [eb] at h2; cases h2
    | some ob =>
      rw [eb] at h2
      refine sb _ σ4 H3 d3 own4 S4 ob eb _ ?_
      cases ob with
      | x n u d5 =>
        cases h2
        exact fun σ5 H5 own5 dd vv S5 r5 hd na fr => p σ5 H5 own5 dd vv (R1.leave S5) r5 hd na fun hf => fresh_in R1 (fr rfl) hf
      | o ob =>
      cases ob with
      | nx d5 => exact fun σ5 H5 own5 S5 => ⟨d5, own5, S5, h2⟩
      | ct d5 => exact fun σ5 H5 own5 S5 => ⟨d5, own5, S5, h2⟩
      | bk d5 =>
        cases h2
        exact fun σ5 H5 own5 S5 => p σ5 H5 own5 (R1.leave S5)
      | rt z d5 =>
        cases h2
        exact fun v5 σ5 H5 own5 S5 r5 => p v5 σ5 H5 own5 (R1.leave S5) r5
  · rintro σ' H' ⟨d2, own2, S2, h2⟩
    rw [List.drop_length] at h2
    cases h2
    exact p σ' H' own2 (R1.leave S2)
def xWhR (t : TR) (b : SRX) : Nat → SRX
  | 0, _ => none
  | n + 1, d => match t d with
    | none => none
    | some (k, d1) => if k = true then (match b d1 with
      | some (.o (.nx d2)) => xWhR t b n d2
      | some (.o (.ct d2)) => xWhR t b n d2
      | some (.o (.bk d2)) => some (.o (.nx d2))
      | some (.o (.rt y d2)) => some (.o (.rt y d2))
      | some (.x n v d2) => some (.x n v d2)
      | none => none) else some (.o (.nx d1))
def xWh (n : Nat) (t : TR) (b : SRX) : SRX := xWhR t b n
theorem simXWh {tt : TT} {tb : TS} {n : Nat} {t : TR} {b : SRX} (st : SimT κ tt t) (sb : SimX κ M W tb b) : SimX κ M W (tWhile tt tb) (xWh n t b) := fun c σ H d own R o h De p => by
  refine ⟨fun m σ' H' => ∃ d' own', RepS c σ' H' d' own' ∧ xWhR t b m d' = some o, ⟨n, d, own, R, h⟩, ?_⟩
  rintro m σ1 H1 ⟨d1, own1, R1, h1⟩
  cases m with
  | zero => cases h1
  | succ m =>
    unfold xWhR at h1
    cases e : t d1 with
    | none => rw [e] at h1; cases h1
    | some q =>
    obtain ⟨k, d2⟩ := q
    rw [e] at h1
    refine st c σ1 H1 d1 own1 R1 k _ e _ fun H2 own2 S => ?_
    have R2 := R1.leave S
    cases k with
    | false =>
      cases h1
      exact p σ1 H2 own2 R2
    | true =>
      refine ⟨fun σ' H' => ∃ d' own', RepS c σ' H' d' own' ∧ xWhR t b m d' = some o, fun σ' H' ⟨d', own', R', h'⟩ => ⟨m, Nat.lt_succ_self m, d', own', R', h'⟩, ?_⟩
      have h2 := h1
      dsimp only at h2
      rw [if_pos rfl] at h2
      cases eb : b d2 with
      | none => rw [eb] at h2; cases h2
      | some ob =>
        rw [eb] at h2
        refine sb c σ1 H2 d2 own2 R2 ob eb _ ?_
        cases ob with
        | x n u d5 =>
          cases h2
          exact fun σ5 H5 own5 dd vv S5 r5 hd na fr => p σ5 H5 own5 dd vv S5 r5 hd na fr
        | o ob =>
        cases ob with
        | nx d5 => exact fun σ5 H5 own5 S5 => ⟨d5, own5, S5, h2⟩
        | ct d5 => exact fun σ5 H5 own5 S5 => ⟨d5, own5, S5, h2⟩
        | bk d5 =>
          cases h2
          exact fun σ5 H5 own5 S5 => p σ5 H5 own5 S5
        | rt z d5 =>
          cases h2
          exact fun v5 σ5 H5 own5 S5 r5 => p v5 σ5 H5 own5 S5 r5
/-! ### raise -/
/-- __init__ of one field -/
def spI (K : PySem.W.Frag) (f : Str) : Sp := fun vs H Q _ => ∃ (a C : Addr) (v : V), vs = [.ref a, v] ∧ OexC K C ∧ PySem.W.findIn K (.ref C) f = some none ∧ H a = some (exo a C none) ∧ ∀ dx, H dx = none → dx ≠ a → Q .non (upd (upd H dx (exd dx [(f, v)])) a (exo a C (some dx)))
def xRaise (n : Nat) (a : AR) : SRX := fun d => match a d with
  | some ([x], d1) => some (.x n x d1)
  | _ => none
theorem simXRaise {K : PySem.W.Frag} {n : Nat} {ta : TA} {a : AR} (T : OexC K (M.cl n)) (hno : PySem.W.findIn K (.ref (M.cl n)) (M.fl n) = some none) (sa : SimA κ ta a) :
    SimX κ M W (fun _ σ H => tMkO (M.cl n) (spI K (M.fl n)) [] ta σ H fun cls d H' => W cls d σ H') (xRaise n a) := fun c σ H d own R o h De p => by
  unfold xRaise at h
  split at h
  · rename_i x d1 e
    cases h
    refine sa c σ H d own R _ _ e _ fun vs H1 own1 S rs => ?_
    cases rs with
    | cons r rs =>
      cases rs
      rename_i v
      have R1 := R.leave S
      refine ⟨by show 1 ≤ 1000; decide, fun a na => ⟨a, M.cl n, v, rfl, T, hno, upd_same, fun dx ndx ne => ⟨rfl, dx, [(M.fl n, v)], upd_same, ?_, ?_, ?_⟩⟩⟩
      · rw [upd_ne ne, upd_same]
      · rw [upd_ne ne] at ndx
        exact ndx
      · rw [upd_ne ne] at ndx
        have ex : Ex H1 (upd (del (upd (upd (upd H1 a (exo a (M.cl n) none)) dx (exd dx [(M.fl n, v)])) a (exo a (M.cl n) (some dx))) a) dx (.xd [(M.fl n, v)])) := fun b o hb => by
          have nb : b ≠ dx := fun z => by rw [z, ndx] at hb; cases hb
          have na2 : b ≠ a := fun z => by rw [z, na] at hb; cases hb
          rw [upd_ne nb, del_ne na2, upd_ne na2, upd_ne nb, upd_ne na2]
          exact hb
        refine p σ _ own1 dx v (R1.ext ex) (r.ex ex) upd_same (fun q => ?_) fun hf => ?_
        · obtain ⟨o, ho⟩ := R1.domA dx q
          rw [ndx] at ho; cases ho
        · cases e0 : c.H0 dx with
          | none => rfl
          | some o =>
            have := R1.keep dx o e0 (by rw [hf]; intro z; cases z)
            rw [ndx] at this; cases this
  · cases h
/-! ### a def that may raise -/
abbrev Res := D ⊕ (Nat × D)
def spX (M : XM) (m : List D → Option Res) : Sp := fun vs H Q E => ∃ A xs r, Reps A H vs xs ∧ (∀ a, A a → ∃ o, H a = some o) ∧ m xs = some r ∧
  (∀ y, r = .inl y → ∀ v H', Ex H H' → Rep A H' v y → Q v H') ∧
  (∀ n x, r = .inr (n, x) → ∀ dd vv H', Ex H H' → Rep A H' vv x → H' dd = some (.xd [(M.fl n, vv)]) → H dd = none → E (.ref (M.cl n)) (some dd) H')
def outR : OutX → Option Res
  | .o (.rt y _) => some (.inl y)
  | .o (.nx _) => some (.inl .none)
  | .x n v _ => some (.inr (n, v))
  | _ => none
def mOfX (n k : Nat) (r : SRX) (xs : List D) : Option Res := if xs.length = k then (r (xs.map .fz ++ List.replicate (n - k) .un)).bind outR else none
theorem mOfX_len {n k : Nat} {r : SRX} : ∀ xs y, mOfX n k r xs = some y → xs.length = k := fun xs y h => by
  unfold mOfX at h
  by_cases e : xs.length = k
  · exact e
  · rw [if_neg e] at h; cases h
theorem spX_len {m : List D → Option Res} {k : Nat} (hm : ∀ xs y, m xs = some y → xs.length = k) : ∀ vs H Q E, spX M m vs H Q E → vs.length = k := fun vs H Q E h => by
  obtain ⟨A, xs, y, rs, _, e, _⟩ := h
  rw [rs.len]
  exact hm xs y e
theorem run_exc {N ps : List Str} {t : TS} {r : SRX} {E : XK} (sim : SimX none M (fun cls d _ H => E cls d H) t r) {vs : List V} {H : Hp} {Q : VK} (hn : ps.length ≤ N.length) (h : spX M (mOfX N.length ps.length r) vs H Q E) : t { nx := fun _ H' => Q .non H', rt := Q } (L2.start N vs) H := by
  obtain ⟨A, xs, y, rs, dom, hm, k1, k2⟩ := h
  unfold mOfX at hm
  split at hm
  · rename_i hk
    cases e : r (xs.map .fz ++ List.replicate (N.length - ps.length) .un) with
    | none => rw [e] at hm; cases hm
    | some o =>
      rw [e] at hm
      have hm : outR o = some y := hm
      have R := start_rep (κ := none) (N := N) rs dom hk hn
      have fin : ∀ (v : V) (σ' : L2.St) (H' : Hp) (d' : List Slot) (own' : Own1) (x : D), RepS (κ := none) ⟨A, H, none, none⟩ σ' H' d' own' → Rep (Av (κ := none) ⟨A, H, none, none⟩ own') H' v x → y = .inl x → Q v H' := fun v σ' H' d' own' x R' r' e =>
        k1 x e v H' (fun a o h => R'.keep a o h (by intro z; cases z)) (r'.tr fun a o n z => ⟨fun q => n (.inl q), z⟩)
      refine sim _ _ _ _ _ R o e _ ?_
      cases o with
      | x n v d' =>
        cases hm
        exact fun σ' H' own' dd vv R' r' hd na fr => k2 n v rfl dd vv H' (fun a o h => R'.keep a o h (by intro z; cases z)) (r'.tr fun a o n z => ⟨fun q => n (.inl q), z⟩) hd (fr rfl)
      | o o =>
      cases o with
      | nx d' =>
        cases hm
        exact fun σ' H' own' R' => fin .non σ' H' d' own' _ R' .non rfl
      | rt x d' =>
        cases hm
        exact fun v σ' H' own' R' r' => fin v σ' H' d' own' _ R' r' rfl
      | bk d' => cases hm
      | ct d' => cases hm
  · cases hm
section
variable {P : Program} {w : World} {K : PySem.W.Frag} {mg : Str → Option Value} {base : Heap}
theorem ok_exc {x qual : Str} {st : Stmt} {f : Addr} {fd : FuncData} {N ps : List Str} {k : Nat} {r : SRX} (M : XM) (n m : Nat) (F : Fun K x qual st f fd) (S : FnScope N ps (defScope st)) (eN : N.length = n) (ep : ps.length = m) (hn : m ≤ n)
    (body : ∀ (cdv : Value) (A : Around) (outer : List Env) (s : Shared) (H : Hp) (E : XK), Room k (A.deeper (envOfC qual (defScope st) s.heap.objs.size f cdv)) →
      ∃ t, PSs (cxOf (L2.CX P w) P w K mg base N qual (defScope st) f cdv A outer s H E) (defBody st) t ∧ SimX none M (fun cls d _ H => E cls d H) t r) : FnOk P w K mg base (L2.CX P w) (k + 1) f fd ps (spX M (mOfX n m r)) := by
  subst eN ep
  exact F.okX S (spX_len mOfX_len) fun cdv A outer s H vs Q E hr h => by
    obtain ⟨t, ht, sim⟩ := body cdv A outer s H E hr
    exact ⟨t, ht, run_exc sim hn h⟩
theorem ok_init {qual : Str} {st : Stmt} {fI : Addr} {fd : FuncData} {N ps : List Str} {f : Str} {p1 p2 p3 p4 : Pos} {so se : Str} (F : Fun K "__init__" qual st fI fd) (S : FnScope N ps (defScope st)) (eb : defBody st = [.Assign [.Attribute (.Name so p1) f p2] (.Name se p3) p4])
    (ep : ps.length = 2) (hb : ∀ (cdv : Value) (A : Around) (outer : List Env) (s : Shared) (H : Hp) (E : XK), ∃ t, PSs (cxOf CX0 P w K mg base N qual (defScope st) fI cdv A outer s H E).nox (defBody st) t ∧ ∀ (a : Addr) (v : V) (H : Hp) (D : Ends), tOst K f (tVar 0) (tVar 1) D (L2.start N [.ref a, v]) H → t D (L2.start N [.ref a, v]) H)
    (h0 : ∀ u v, (L2.start N [u, v])[0]? = some (some u)) (h1 : ∀ u v, (L2.start N [u, v])[1]? = some (some v)) : FnOk P w K mg base CX0 1 fI fd ps (spI K f) :=
  F.ok S (fun vs H Q E h => by obtain ⟨a, C, v, rfl, _⟩ := h; exact ep.symm) fun cdv A outer s H vs Q E hr h => by
    obtain ⟨a, C, v, rfl, T, hno, ea, q⟩ := h
    obtain ⟨t, ht, k⟩ := hb cdv A outer s H E
    exact ⟨t, ht, k a v H _ ⟨v, h1 _ _, .ref a, h0 _ _, a, C, rfl, T, hno, .inl ⟨ea, fun dx n ne => q dx n ne⟩⟩⟩
end
/-! ### calls -/
/-- a call that does not raise -/
def noEx (m : List D → Option Res) (xs : List D) : Option D := match m xs with
  | some (.inl y) => some y
  | _ => none
theorem noEx_of {m : List D → Option Res} {xs : List D} {y : D} (h : noEx m xs = some y) : m xs = some (.inl y) := by
  unfold noEx at h
  split at h
  · rename_i e
    cases h
    exact e
  · cases h
theorem simCallX {m : List D → Option Res} {ta : TA} {a : AR} {E : L2.St → XK} (sa : SimA κ ta a) : SimE κ (tCallS (spX M m) E ta) (rCall (noEx m) a) := fun c σ H d own R x d' h Q q => by
  obtain ⟨xs, d1, e, h⟩ := of_bd h
  obtain ⟨y, e2, h⟩ := of_ob h
  cases h
  refine sa c σ H d own R xs _ e _ fun vs H1 own1 S rs => ?_
  exact ⟨Av c own1, xs, _, rs, (R.leave S).domA, noEx_of e2, fun z hz v H' ex r => by cases hz; exact q v H' own1 (S.ext ex) r, fun n x hz => by cases hz⟩
theorem rep_call {c : Cc κ} {σ : L2.St} {H1 H' : Hp} {d1 : List Slot} {own1 : Own1} (R1 : RepS c σ H1 d1 own1) {dd : Addr} (ex : Ex H1 H') (h0 : H1 dd = none) : ¬ Av c own1 dd ∧ (c.fa = none → c.H0 dd = none) := by
  refine ⟨fun q => ?_, fun hf => ?_⟩
  · obtain ⟨o, ho⟩ := R1.domA dd q
    rw [h0] at ho; cases ho
  · cases e0 : c.H0 dd with
    | none => rfl
    | some o =>
      have := R1.keep dd o e0 (by rw [hf]; intro z; cases z)
      rw [h0] at this; cases this
/-- x = f(..), f(..), return f(..): f may raise -/
def xAsgC (m : List D → Option Res) (a : AR) (g : GR) : SRX := fun d => match a d with
  | none => none
  | some (xs, d1) => match m xs with
    | some (.inl y) => (g y d1).map fun d2 => .o (.nx d2)
    | some (.inr (n, v)) => some (.x n v d1)
    | none => none
theorem simXAsgC {m : List D → Option Res} {ta : TA} {a : AR} {g : TG} {k : GR} {tg : List Nat} (sa : SimA κ ta a) (sg : SimG κ g k tg) : SimX κ M W (tAsg (tCallS (spX M m) (WE W) ta) g) (xAsgC m a k) := fun c σ H d own R o h De p => by
  unfold xAsgC at h
  cases e : a d with
  | none => rw [e] at h; cases h
  | some q =>
    obtain ⟨xs, d1⟩ := q
    rw [e] at h
    dsimp only at h
    refine sa c σ H d own R xs _ e _ fun vs H1 own1 S rs => ?_
    have R1 := R.leave S
    cases em : m xs with
    | none => rw [em] at h; cases h
    | some r =>
      rw [em] at h
      refine ⟨Av c own1, xs, r, rs, R1.domA, em, fun y hy v H' ex rv => ?_, fun n x hx dd vv H' ex rv hd h0 => ?_⟩
      · subst hy
        have h : (k y d1).map (fun d2 => OutX.o (.nx d2)) = some o := h
        cases eg : k y d1 with
        | none => rw [eg] at h; cases h
        | some d2 =>
          rw [eg] at h
          cases h
          exact sg c σ H' d1 own1 v y (R1.ext ex) rv d2 eg _ fun σ4 own4 S4 _ _ => p σ4 H' own4 S4
      · subst hx
        cases h
        obtain ⟨f1, f2⟩ := rep_call R1 ex h0
        exact p σ H' own1 dd vv (R1.ext ex) rv hd f1 f2
def xDropC (m : List D → Option Res) (a : AR) : SRX := fun d => match a d with
  | none => none
  | some (xs, d1) => match m xs with
    | some (.inl _) => some (.o (.nx d1))
    | some (.inr (n, v)) => some (.x n v d1)
    | none => none
theorem simXDropC {m : List D → Option Res} {ta : TA} {a : AR} (sa : SimA κ ta a) : SimX κ M W (tDrop (tCallS (spX M m) (WE W) ta)) (xDropC m a) := fun c σ H d own R o h De p => by
  unfold xDropC at h
  cases e : a d with
  | none => rw [e] at h; cases h
  | some q =>
    obtain ⟨xs, d1⟩ := q
    rw [e] at h
    dsimp only at h
    refine sa c σ H d own R xs _ e _ fun vs H1 own1 S rs => ?_
    have R1 := R.leave S
    cases em : m xs with
    | none => rw [em] at h; cases h
    | some r =>
      rw [em] at h
      refine ⟨Av c own1, xs, r, rs, R1.domA, em, fun y hy v H' ex rv => ?_, fun n x hx dd vv H' ex rv hd h0 => ?_⟩
      · subst hy
        cases h
        exact p σ H' own1 (R1.ext ex)
      · subst hx
        cases h
        obtain ⟨f1, f2⟩ := rep_call R1 ex h0
        exact p σ H' own1 dd vv (R1.ext ex) rv hd f1 f2
def xRetC (m : List D → Option Res) (a : AR) : SRX := fun d => match a d with
  | none => none
  | some (xs, d1) => match m xs with
    | some (.inl y) => some (.o (.rt y d1))
    | some (.inr (n, v)) => some (.x n v d1)
    | none => none
theorem simXRetC {m : List D → Option Res} {ta : TA} {a : AR} (sa : SimA κ ta a) : SimX κ M W (tRet (tCallS (spX M m) (WE W) ta)) (xRetC m a) := fun c σ H d own R o h De p => by
  unfold xRetC at h
  cases e : a d with
  | none => rw [e] at h; cases h
  | some q =>
    obtain ⟨xs, d1⟩ := q
    rw [e] at h
    dsimp only at h
    refine sa c σ H d own R xs _ e _ fun vs H1 own1 S rs => ?_
    have R1 := R.leave S
    cases em : m xs with
    | none => rw [em] at h; cases h
    | some r =>
      rw [em] at h
      refine ⟨Av c own1, xs, r, rs, R1.domA, em, fun y hy v H' ex rv => ?_, fun n x hx dd vv H' ex rv hd h0 => ?_⟩
      · subst hy
        cases h
        exact p v σ H' own1 (R1.ext ex) rv
      · subst hx
        cases h
        obtain ⟨f1, f2⟩ := rep_call R1 ex h0
        exact p σ H' own1 dd vv (R1.ext ex) rv hd f1 f2
end
/-! ### try .. except -/
def noXc (d : List Slot) : Bool := d.all fun s => match s with
  | .xc _ => false
  | _ => true
theorem noXc_at {d : List Slot} (h : noXc d = true) {j : Nat} {x : D} : d[j]? ≠ some (.xc x) := fun e => by
  unfold noXc at h
  rw [List.all_eq_true] at h
  have := h _ (List.mem_of_getElem? e)
  cases this
theorem RepS.kap {κ κ' : XI} {c : Cc κ'} {σ : L2.St} {H : Hp} {d : List Slot} {own : Own1} (R : RepS c σ H d own) (h : noXc d = true) : RepS (κ := κ) ⟨c.O, c.H0, c.fa, c.pin⟩ σ H d own :=
  ⟨R.len, fun i s e => by
    have z := R.slot i s e
    cases s with
    | un => exact z
    | fz x => exact z
    | ow x => exact z
    | fd fs => exact z
    | xc x => exact absurd e (noXc_at h), R.inj, R.out, R.new, R.nO, R.keep, R.dom, R.pin⟩
theorem RepS.setXc {κ' : XI} {c : Cc κ'} {σ : L2.St} {H : Hp} {d : List Slot} {own : Own1} (R : RepS c σ H d own) (h : noXc d = true) {i : Nat} (hn : noOwn d[i]? = true) {a dd : Addr} {f : Str} {vv : V} {v : D} (hd : H dd = some (.xd [(f, vv)])) (na : ¬ Av c own dd) (r : Rep (Av c own) H vv v) :
    RepS (κ := some (a, dd, f)) ⟨c.O, c.H0, c.fa, c.pin⟩ (σ.set i (some (.ref a))) H (d.set i (.xc v)) own := by
  have hi := noOwn_none R hn
  refine ⟨by rw [List.length_set, List.length_set, R.len], fun j s e => ?_, R.inj, fun j b e => by rw [List.length_set]; exact R.out j b e, R.new, R.nO, R.keep, R.dom, fun b q => ⟨(R.pin b q).1, ?_⟩⟩
  · by_cases z : j = i
    · subst z
      by_cases hl : j < d.length
      · rw [List.getElem?_set_self hl] at e
        cases e
        refine ⟨hi, a, dd, f, vv, rfl, ?_, hd, na, r⟩
        rw [List.getElem?_set_self (by rw [R.len]; exact hl)]
      · rw [List.getElem?_eq_none (by rw [List.length_set]; omega)] at e
        cases e
    · rw [List.getElem?_set_ne (fun q => z q.symm)] at e
      have y := R.slot j s e
      rw [← List.getElem?_set_ne (l := σ) (a := some (.ref a)) (fun q => z q.symm)] at y
      cases s with
      | un => exact y
      | fz x => exact y
      | ow x => exact y
      | fd fs => exact y
      | xc x => exact absurd e (noXc_at h)
  · rw [List.getElem?_set_ne (fun z => by rw [z, (R.pin b q).1] at hi; cases hi)]
    exact (R.pin b q).2
def outUn (i : Nat) : Out → Option Out
  | .nx d => if noOwn d[i]? = true ∧ noXc (d.set i .un) = true then some (.nx (d.set i .un)) else none
  | .rt x d => if noOwn d[i]? = true ∧ noXc (d.set i .un) = true then some (.rt x (d.set i .un)) else none
  | .bk d => if noOwn d[i]? = true ∧ noXc (d.set i .un) = true then some (.bk (d.set i .un)) else none
  | .ct d => if noOwn d[i]? = true ∧ noXc (d.set i .un) = true then some (.ct (d.set i .un)) else none
def xTry (i : Nat) (body : SRX) (hs : Nat → Option SR) : SR := fun d => match body d with
  | none => none
  | some (.o o) => some o
  | some (.x n v d1) => match hs n with
    | none => none
    | some su => if noOwn d1[i]? = true ∧ noXc d1 = true then (su (d1.set i (.xc v))).bind (outUn i) else none
theorem suite_end {M : XM} {K : PySem.W.Frag} {c : Value} {i : Nat} {ts : Addr → Value → Option Addr → TS} {cc : Cc κ} {De : Ends} {n : Nat} {su : SR} {o : Out} {v : D} {d1 : List Slot} {σ' : L2.St} {H' : Hp} {own' : Own1} {dd : Addr} {vv : V}
    (hs : ∀ a dd, SimS (some (a, dd, M.fl n)) (ts a (.ref (M.cl n)) (some dd)) su) (hn : noOwn d1[i]? = true) (hx : noXc d1 = true) (h : (su (d1.set i (.xc v))).bind (outUn i) = some o) (p : Post cc De o)
    (R' : RepS cc σ' H' d1 own') (r' : Rep (Av cc own') H' vv v) (hd : H' dd = some (.xd [(M.fl n, vv)])) (na : ¬ Av cc own' dd) (a : Addr) :
    ts a (.ref (M.cl n)) (some dd) { nx := fun σ' H' => De.nx (σ'.set i none) H', rt := De.rt, bk := fun σ' H' => De.bk (σ'.set i none) H', ct := fun σ' H' => De.ct (σ'.set i none) H' } (σ'.set i (some (.ref a))) H' := by
  cases es : su (d1.set i (.xc v)) with
  | none => rw [es] at h; cases h
  | some o2 =>
    rw [es] at h
    have h : outUn i o2 = some o := h
    refine hs a dd _ _ H' _ own' (R'.setXc hx hn hd na r') o2 es _ ?_
    cases o2 with
    | nx d2 =>
      have h : (if noOwn d2[i]? = true ∧ noXc (d2.set i .un) = true then some (Out.nx (d2.set i .un)) else none) = some o := h
      split at h
      · rename_i q
        cases h
        exact fun σ5 H5 own5 R5 => p _ H5 own5 ((R5.forget (noOwn_none R5 q.1)).kap q.2)
      · cases h
    | rt x d2 =>
      have h : (if noOwn d2[i]? = true ∧ noXc (d2.set i .un) = true then some (Out.rt x (d2.set i .un)) else none) = some o := h
      split at h
      · rename_i q
        cases h
        exact fun v5 σ5 H5 own5 R5 r5 => p v5 _ H5 own5 ((R5.forget (noOwn_none R5 q.1)).kap q.2) r5
      · cases h
    | bk d2 =>
      have h : (if noOwn d2[i]? = true ∧ noXc (d2.set i .un) = true then some (Out.bk (d2.set i .un)) else none) = some o := h
      split at h
      · rename_i q
        cases h
        exact fun σ5 H5 own5 R5 => p _ H5 own5 ((R5.forget (noOwn_none R5 q.1)).kap q.2)
      · cases h
    | ct d2 =>
      have h : (if noOwn d2[i]? = true ∧ noXc (d2.set i .un) = true then some (Out.ct (d2.set i .un)) else none) = some o := h
      split at h
      · rename_i q
        cases h
        exact fun σ5 H5 own5 R5 => p _ H5 own5 ((R5.forget (noOwn_none R5 q.1)).kap q.2)
      · cases h
theorem simXTry {M : XM} {K : PySem.W.Frag} {c : Value} {i : Nat} {tb : WX → TS} {ts : Addr → Value → Option Addr → TS} {Wout : WX} {body : SRX} {hs : Nat → Option SR} (sb : ∀ W, SimX κ M W (tb W) body)
    (hh : ∀ n su, hs n = some su → PySem.W.exmOne K (.ref (M.cl n)) c = some true ∧ ∀ a dd, SimS (some (a, dd, M.fl n)) (ts a (.ref (M.cl n)) (some dd)) su) :
    SimS κ (fun D σ H => tb (wAs K c i ts Wout D) D σ H) (xTry i body hs) := fun cc σ H d own R o h De p => by
  unfold xTry at h
  cases e : body d with
  | none => rw [e] at h; cases h
  | some ob =>
    rw [e] at h
    refine sb _ cc σ H d own R ob e De ?_
    cases ob with
    | o o1 => cases h; exact p
    | x n v d1 =>
      have h : (match hs n with | none => none | some su => if noOwn d1[i]? = true ∧ noXc d1 = true then (su (d1.set i (.xc v))).bind (outUn i) else none) = some o := h
      cases eh : hs n with
      | none => rw [eh] at h; cases h
      | some su =>
        rw [eh] at h
        have h : (if noOwn d1[i]? = true ∧ noXc d1 = true then (su (d1.set i (.xc v))).bind (outUn i) else none) = some o := h
        split at h
        · rename_i q
          obtain ⟨h1, h2⟩ := hh n su eh
          intro σ' H' own' dd vv R' r' hd na fr
          exact ⟨true, h1, fun _ a _ => suite_end (K := K) (c := c) h2 q.1 q.2 h p R' r' hd na a, fun z => by cases z⟩
        · cases h
/-! ### in the suite -/
def rXf (i : Nat) : ER := fun d => match d[i]? with
  | some (.xc x) => some (x, d)
  | _ => none
theorem simXf {a dd C : Addr} {f : Str} {i : Nat} : SimE (some (a, dd, f)) (tXf a (.ref C) (some dd) C f (tVar i)) (rXf i) := fun c σ H d own R x d' h Q q => by
  unfold rXf at h
  split at h
  · rename_i y e
    cases h
    obtain ⟨_, a', dd', f', v, e1, e2, e3, e4, r⟩ := R.slot i _ e
    cases e1
    refine ⟨.ref a, e2, rfl, rfl, dd, [(f, v)], v, rfl, e3, ?_, q v H own R.enter r⟩
    simp [List.lookup]
  · cases h
/-- isinstance(e, c), e with a dict -/
def rIsEd (K : PySem.W.Frag) (a : Addr) (cls : Value) (dx : Option Addr) : List V → Hp → VK → Prop := fun xs H Q => ∃ (C dd : Addr) (fs : List (Str × V)) (c : V) (cv : Value) (b : Bool), cls = .ref C ∧ dx = some dd ∧ L2.ExcC K C ∧ xs = [.ref a, c] ∧ (∀ u, RelV c u → u = cv) ∧ PySem.W.kitOne K (.ref C) cv = some b ∧ H dd = some (.xd fs) ∧ Q (.bl b) H
theorem call_isEd {X : Cx} {a : Addr} {cls : Value} {dx : Option Addr} {oe : Obj} {pn : List (Addr × Obj)} (hz : Zc cls dx oe) (hf : ∃ vs, oe.data = .fields vs) : CallR (X.suite a ((a, oe) :: pn)) (.builtin "isinstance") (rIsEd X.K a cls dx) := by
  intro pins s σ H xs us Q I r h
  obtain ⟨C, dd, fs, c, cv, b, e1, e2, T, rfl, hcv, e, hd, q⟩ := h
  subst e1 e2
  cases r with
  | cons rx rr =>
    cases rr with
    | cons rt rr =>
      cases rr
      cases rx
      have ec := hcv _ rt
      subst ec
      obtain ⟨hget, _⟩ := I.pin (a, oe) (List.mem_append.mpr (.inl List.mem_cons_self))
      obtain ⟨vs, hv⟩ := hf
      have hx : ObjOk X.prog X.w H s.heap dd (.xd fs) := I.hok dd _ hd
      obtain ⟨mA, hns, hr⟩ := hx
      obtain ⟨od, ho, hl⟩ := lookIn_ns hns
      have J : PySem.W.InstAt s.heap a oe C (some od) := ⟨hget, hz.1, by unfold PySem.W.notCls; rw [hv] <;> rfl, by rw [hz.2]; exact ho⟩
      have hcl : (PySem.W.clsIn X.K C).isSome = true := by
        obtain ⟨cd, hc, _⟩ := PySem.W.any_some T.hd
        rw [hc]; rfl
      exact PySem.W.kia_one (PySem.W.kitx_exc hcl T.hg T.hk T.hs T.ha T.hn T.ht T.hm) I.kIn J e (fun z => nomatch z) fun tk => ⟨.bl b, H, I.kept (t' := tk) fun _ _ z => z, rfl, q⟩
def rXIs (b : Bool) (i : Nat) : ER := fun d => match d[i]? with
  | some (.xc _) => some (.bool b, d)
  | _ => none
theorem simXIs {K : PySem.W.Frag} {a dd C CT : Addr} {f : Str} {i : Nat} {b : Bool} (T : L2.ExcC K C) (hk : PySem.W.kitOne K (.ref C) (.ref CT) = some b) : SimE (some (a, dd, f)) (tCB (rIsEd K a (.ref C) (some dd)) (tCons (tVar i) (tCons (tC (.ref CT)) tNil))) (rXIs b i) := fun c σ H d own R x d' h Q q => by
  unfold rXIs at h
  split at h
  · rename_i y e
    cases h
    obtain ⟨_, a', dd', f', v, e1, e2, e3, e4, r⟩ := R.slot i _ e
    cases e1
    exact ⟨.ref a, e2, C, dd, [(f, v)], .ref CT, .ref CT, b, rfl, rfl, T, rfl, fun u hu => hu, hk, e3, q (.bl b) H own R.enter (.bl b)⟩
  · cases h
end DK
end
section
set_option maxRecDepth 100000
set_option maxHeartbeats 1000000
/-! str.replace of constants -/
namespace DK
open PySem PySem.Spec PyProof.Rows L2
variable {κ : XI}
theorem pe_replC {X : Cx} {x y z : Str} {j j0 j1 : Nat} {p1 c0 c1 apos pos : Pos} (hyz : (y == z) = false) (hb : x.length + (x.length + 1) * z.length ≤ 16777216)
    (hst : starEach [.Constant (.str y) j0 c0, .Constant (.str z) j1 c1] X.env = [(false, eval (.Constant (.str y) j0 c0) X.env), (false, eval (.Constant (.str z) j1 c1) X.env)] := by rfl)
    (hbase : attributeBase (.Constant (.str x) j p1) "replace" X.env (eval (.Constant (.str x) j p1) X.env) = eval (.Constant (.str x) j p1) X.env := by rfl) (hline : (apos.endLine == pos.line) = true := by rfl) :
    PE X (.Call (.Attribute (.Constant (.str x) j p1) "replace" apos) [.Constant (.str y) j0 c0, .Constant (.str z) j1 c1] [] pos) (tC (.str (Txt.replace x y z))) := by
  refine ⟨fun pins s σ H Q I h => ?_⟩
  refine PySem.Call_method2 hbase hst hline (Calls.Constant_str ?_)
  refine ⟨"str", _, F.plainAttrs_str, F.slot_str_replace, F.type_str_replace, typeIs_str _ _ _, (fun _ e => nomatch e), Calls.callWith_builtin rfl (Calls.evalArgs_plain (Calls.spliced_cons ?_))⟩
  refine Calls.Constant_str (Calls.spliced_cons (Calls.Constant_str (Calls.spliced_nil ?_)))
  exact PySem.SC.replace (by show s.toks + 1 ≠ 0; omega) (by show s.toks + 1 + 1 ≠ 0; omega) (by show s.toks + 1 ≠ s.toks + 1 + 1; omega) hyz hb fun t' k => ⟨.str (Txt.replace x y z), H, ((I.tok _).tok _), ⟨t', rfl⟩, h⟩
end DK
end
section
set_option maxRecDepth 100000
namespace DK
open PySem L2

/-! ### reckoning with runs -/
def Ok (r : Option Out) (P : Out → Prop) : Prop := ∃ o, r = some o ∧ P o
theorem ok_eq {r : Option Out} {o : Out} {P : Out → Prop} (h : r = some o) (p : P o) : Ok r P := ⟨o, h, p⟩
theorem Ok.mono {r : Option Out} {P Q : Out → Prop} (h : Ok r P) (k : ∀ o, P o → Q o) : Ok r Q := h.imp fun o q => ⟨q.1, k o q.2⟩
/-- what is wanted behind a statement, the rest told -/
def thenP (b : SR) (P : Out → Prop) : Out → Prop
  | .nx d => Ok (b d) P
  | o => P o
theorem ok_seq {a b : SR} {d : List Slot} {P : Out → Prop} (h : Ok (a d) (thenP b P)) : Ok (sSeq a b d) P := by
  obtain ⟨o, e, p⟩ := h
  unfold sSeq
  rw [e]
  cases o with
  | nx d1 => exact p
  | rt x d1 => exact ⟨_, rfl, p⟩
  | bk d1 => exact ⟨_, rfl, p⟩
  | ct d1 => exact ⟨_, rfl, p⟩
theorem ok_nx {a b : SR} {d d1 : List Slot} {P : Out → Prop} (h : a d = some (.nx d1)) (k : Ok (b d1) P) : Ok (sSeq a b d) P := ok_seq ⟨_, h, k⟩
theorem ok_if {t : TR} {a b : SR} {d d1 : List Slot} {k : Bool} {P : Out → Prop} (h : t d = some (k, d1)) (h1 : k = true → Ok (a d1) P) (h2 : k = false → Ok (b d1) P) : Ok (sIf t a b d) P := by
  unfold sIf
  rw [h]
  cases k with
  | true => exact h1 rfl
  | false => exact h2 rfl
theorem ok_for {f : IR} {g : GR} {b : SR} {d d1 : List Slot} {xs : List D} {P : Out → Prop} (hf : f d = some (xs, d1)) (I : List D → List D → List Slot → Prop) (h0 : I [] xs d1)
    (hs : ∀ pre x post d, xs = pre ++ x :: post → I pre (x :: post) d → ∃ d2, g x d = some d2 ∧ Ok (b d2) fun o => match o with
      | .nx d3 => I (pre ++ [x]) post d3
      | .ct d3 => I (pre ++ [x]) post d3
      | .bk d3 => P (.nx d3)
      | .rt y d3 => P (.rt y d3)) (hd : ∀ d, I xs [] d → P (.nx d)) : Ok (sFor f g b d) P := by
  unfold sFor
  rw [hf]
  show Ok (forR g b xs d1) P
  have gen : ∀ (post pre : List D) (d : List Slot), xs = pre ++ post → I pre post d → Ok (forR g b post d) P := by
    intro post
    induction post with
    | nil =>
      intro pre d e h
      rw [List.append_nil] at e
      subst e
      exact ⟨_, rfl, hd d h⟩
    | cons x post ih =>
      intro pre d e h
      obtain ⟨d2, e2, o, e3, p⟩ := hs pre x post d e h
      unfold forR
      rw [e2]
      show Ok (match b d2 with | some (.nx d2) => forR g b post d2 | some (.ct d2) => forR g b post d2 | some (.bk d2) => some (.nx d2) | some (.rt y d2) => some (.rt y d2) | none => none) P
      rw [e3]
      cases o with
      | nx d3 => exact ih (pre ++ [x]) d3 (by rw [e, List.append_assoc]; rfl) p
      | ct d3 => exact ih (pre ++ [x]) d3 (by rw [e, List.append_assoc]; rfl) p
      | bk d3 => exact ⟨_, rfl, p⟩
      | rt y d3 => exact ⟨_, rfl, p⟩
  exact gen xs [] d1 rfl h0
theorem ok_while {n : Nat} {t : TR} {b : SR} {d : List Slot} {P : Out → Prop} (I : List Slot → Prop) (m : List Slot → Nat) (h0 : I d) (hm : m d < n)
    (hs : ∀ d, I d → ∃ k d1, t d = some (k, d1) ∧ (k = false → P (.nx d1)) ∧ (k = true → Ok (b d1) fun o => match o with
      | .nx d3 => I d3 ∧ m d3 < m d
      | .ct d3 => I d3 ∧ m d3 < m d
      | .bk d3 => P (.nx d3)
      | .rt y d3 => P (.rt y d3))) : Ok (sWh n t b d) P := by
  unfold sWh
  induction n generalizing d with
  | zero => omega
  | succ n ih =>
    obtain ⟨k, d1, e, hf, ht⟩ := hs d h0
    unfold whR
    rw [e]
    cases k with
    | false => exact ⟨_, rfl, hf rfl⟩
    | true =>
      obtain ⟨o, e3, p⟩ := ht rfl
      show Ok (match b d1 with | some (.nx d2) => whR t b n d2 | some (.ct d2) => whR t b n d2 | some (.bk d2) => some (.nx d2) | some (.rt y d2) => some (.rt y d2) | none => none) P
      rw [e3]
      cases o with
      | nx d3 => exact ih p.1 (by have := p.2; omega)
      | ct d3 => exact ih p.1 (by have := p.2; omega)
      | bk d3 => exact ⟨_, rfl, p⟩
      | rt y d3 => exact ⟨_, rfl, p⟩
theorem mOf_eq {n k : Nat} {r : SR} {xs : List D} {y : D} (hk : xs.length = k) (h : Ok (r (xs.map .fz ++ List.replicate (n - k) .un)) fun o => (∃ d, o = .rt y d) ∨ (y = .none ∧ ∃ d, o = .nx d)) : mOf n k r xs = some y := by
  obtain ⟨o, e, h⟩ := h
  unfold mOf bodyRun
  rw [if_pos hk, e]
  rcases h with ⟨d, rfl⟩ | ⟨rfl, d, rfl⟩
  · rfl
  · rfl
theorem mOf_rt {n k : Nat} {r : SR} {xs : List D} {y : D} (hk : xs.length = k) (h : Ok (r (xs.map .fz ++ List.replicate (n - k) .un)) fun o => ∃ d, o = .rt y d) : mOf n k r xs = some y := mOf_eq hk (h.mono fun _ q => .inl q)
theorem mOfF_rt {n k : Nat} {r : SR} {fs fs' : FS} {xs : List D} {y : D} (hk : xs.length + 1 = k) (h : Ok (r (Slot.fd fs :: (xs.map .fz ++ List.replicate (n - k) .un))) fun o => ∃ d, o = .rt y (.fd fs' :: d)) : mOfF n k r fs xs = some (y, fs') := by
  obtain ⟨o, e, d, rfl⟩ := h
  unfold mOfF
  rw [if_pos hk, e]
  rfl
/-- .. with what is known of the answer -/
theorem mOfF_ex {n k : Nat} {r : SR} {fs : FS} {xs : List D} {P : D → FS → Prop} (hk : xs.length + 1 = k) (h : Ok (r (Slot.fd fs :: (xs.map .fz ++ List.replicate (n - k) .un))) fun o => ∃ y fs' d, o = .rt y (.fd fs' :: d) ∧ P y fs') : ∃ y fs', mOfF n k r fs xs = some (y, fs') ∧ P y fs' := by
  obtain ⟨o, e, y, fs', d, rfl, p⟩ := h
  refine ⟨y, fs', ?_, p⟩
  unfold mOfF
  rw [if_pos hk, e]
  rfl

/-! ### comprehensions -/
theorem lcR_map {g : GR} {e : ER} {vs : List Nat} {d : List Slot} {F : D → D} : ∀ (xs acc : List D), (∀ x ∈ xs, ∃ d2 d4, g x (wipeD d vs) = some d2 ∧ e d2 = some (F x, d4) ∧ backD d vs d4 = some d) → acc.length + xs.length ≤ sizeLine →
    lcR g rYes e vs d xs acc d = some (acc ++ xs.map F, d)
  | [], acc, _, _ => by
    rw [List.map_nil, List.append_nil]
    rfl
  | x :: xs, acc, h, hl => by
    obtain ⟨d2, d4, h1, h2, h3⟩ := h x List.mem_cons_self
    rw [List.length_cons] at hl
    have ih := lcR_map (g := g) (e := e) (vs := vs) (d := d) (F := F) xs (acc ++ [F x]) (fun y hy => h y (List.mem_cons_of_mem _ hy)) (by rw [List.length_append, List.length_singleton]; omega)
    unfold lcR
    rw [h1]
    show bd (e d2) _ = _
    rw [h2]
    show (if acc.length < sizeLine then ob (backD d vs d4) _ else none) = _
    rw [if_pos (by omega), h3]
    show lcR g rYes e vs d xs (acc ++ [F x]) d = _
    rw [ih, List.map_cons, List.append_assoc]
    rfl
theorem lc_map {f : IR} {g : GR} {e : ER} {vs : List Nat} {d d1 : List Slot} {xs : List D} (F : D → D) (hf : f d = some (xs, d1)) (hv : (vs.all fun v => noOwn d1[v]?) = true)
    (h : ∀ x ∈ xs, ∃ d2 d4, g x (wipeD d1 vs) = some d2 ∧ e d2 = some (F x, d4) ∧ backD d1 vs d4 = some d1) (hl : xs.length ≤ sizeLine) : rLc f g rYes e vs d = some (.list (xs.map F), d1) := by
  unfold rLc
  rw [hf]
  show (if _ then _ else _) = _
  rw [if_pos hv, lcR_map xs [] h (by rw [List.length_nil]; omega)]
  rfl
theorem lcR_filter {g : GR} {t : TR} {e : ER} {vs : List Nat} {d : List Slot} {F : D → D} {p : D → Bool} : ∀ (xs acc : List D), (∀ x ∈ xs, ∃ d2 d3, g x (wipeD d vs) = some d2 ∧ t d2 = some (p x, d3) ∧ (p x = true → ∃ d4, e d3 = some (F x, d4) ∧ backD d vs d4 = some d) ∧ (p x = false → backD d vs d3 = some d)) → acc.length + xs.length ≤ sizeLine →
    lcR g t e vs d xs acc d = some (acc ++ (xs.filter p).map F, d)
  | [], acc, _, _ => by
    rw [List.filter_nil, List.map_nil, List.append_nil]
    rfl
  | x :: xs, acc, h, hl => by
    obtain ⟨d2, d3, h1, h2, h3, h4⟩ := h x List.mem_cons_self
    rw [List.length_cons] at hl
    unfold lcR
    rw [h1]
    show bd (t d2) _ = _
    rw [h2]
    cases hp : p x with
    | true =>
      obtain ⟨d4, e1, e2⟩ := h3 hp
      show bd (e d3) _ = _
      rw [e1]
      show (if acc.length < sizeLine then ob (backD d vs d4) _ else none) = _
      rw [if_pos (by omega), e2]
      show lcR g t e vs d xs (acc ++ [F x]) d = _
      rw [lcR_filter xs (acc ++ [F x]) (fun y hy => h y (List.mem_cons_of_mem _ hy)) (by rw [List.length_append, List.length_singleton]; omega), List.filter_cons_of_pos hp, List.map_cons, List.append_assoc]
      rfl
    | false =>
      show ob (backD d vs d3) _ = _
      rw [h4 hp]
      show lcR g t e vs d xs acc d = _
      rw [lcR_filter xs acc (fun y hy => h y (List.mem_cons_of_mem _ hy)) (by omega), List.filter_cons_of_neg (by rw [hp]; decide)]
theorem lc_filter {f : IR} {g : GR} {t : TR} {e : ER} {vs : List Nat} {d d1 : List Slot} {xs : List D} (F : D → D) (p : D → Bool) (hf : f d = some (xs, d1)) (hv : (vs.all fun v => noOwn d1[v]?) = true)
    (h : ∀ x ∈ xs, ∃ d2 d3, g x (wipeD d1 vs) = some d2 ∧ t d2 = some (p x, d3) ∧ (p x = true → ∃ d4, e d3 = some (F x, d4) ∧ backD d1 vs d4 = some d1) ∧ (p x = false → backD d1 vs d3 = some d1)) (hl : xs.length ≤ sizeLine) :
    rLc f g t e vs d = some (.list ((xs.filter p).map F), d1) := by
  unfold rLc
  rw [hf]
  show (if _ then _ else _) = _
  rw [if_pos hv, lcR_filter xs [] h (by rw [List.length_nil]; omega)]
  rfl
theorem back1 {d : List Slot} {i : Nat} {s : Slot} (hi : i < d.length) (hs : noOwn (some s) = true) (hv : noOwn d[i]? = true) : backD d [i] (d.set i s) = some d := by
  unfold backD
  rw [List.getElem?_set_self hi, if_pos ⟨hs, hv⟩, List.getElem?_eq_getElem hi]
  show backD d [] ((d.set i s).set i d[i]) = some d
  unfold backD
  rw [List.set_set, List.set_getElem_self]
theorem gN1 {d : List Slot} {i : Nat} {x : D} (hi : i < d.length) : gN i x (wipeD d [i]) = some (d.set i (.fz x)) := by
  unfold gN wipeD wipeD
  rw [List.getElem?_set_self hi, List.set_set]
  rfl
/-- one name, an element that changes no slot -/
theorem lc_map1 {f : IR} {e : ER} {i : Nat} {d d1 : List Slot} {xs : List D} (F : D → D) (hf : f d = some (xs, d1)) (hi : i < d1.length) (hv : noOwn d1[i]? = true)
    (h : ∀ x ∈ xs, e (d1.set i (.fz x)) = some (F x, d1.set i (.fz x))) (hl : xs.length ≤ 16777216) : rLc f (gN i) rYes e [i] d = some (.list (xs.map F), d1) :=
  lc_map F hf (by rw [List.all_cons, hv]; rfl) (fun x hx => ⟨_, _, gN1 hi, h x hx, back1 hi rfl hv⟩) (by rw [sizeLine_eq]; exact hl)
theorem lc_filter1 {f : IR} {t : TR} {e : ER} {i : Nat} {d d1 : List Slot} {xs : List D} (F : D → D) (p : D → Bool) (hf : f d = some (xs, d1)) (hi : i < d1.length) (hv : noOwn d1[i]? = true)
    (ht : ∀ x ∈ xs, t (d1.set i (.fz x)) = some (p x, d1.set i (.fz x))) (h : ∀ x ∈ xs, p x = true → e (d1.set i (.fz x)) = some (F x, d1.set i (.fz x))) (hl : xs.length ≤ 16777216) : rLc f (gN i) t e [i] d = some (.list ((xs.filter p).map F), d1) :=
  lc_filter F p hf (by rw [List.all_cons, hv]; rfl) (fun x hx => ⟨_, _, gN1 hi, ht x hx, fun hp => ⟨_, h x hx hp, back1 hi rfl hv⟩, fun _ => back1 hi rfl hv⟩) (by rw [sizeLine_eq]; exact hl)
/-- a comprehension that draws: what holds of the items made, the slots but for the feed as they were -/
theorem lc_inv {f : IR} {g : GR} {e : ER} {vs : List Nat} {d d1 : List Slot} {xs : List D} (I : List D → List D → List Slot → Prop) (hf : f d = some (xs, d1)) (hv : (vs.all fun v => noOwn d1[v]?) = true) (h0 : I [] [] d1)
    (h : ∀ pre x post acc d, xs = pre ++ x :: post → I pre acc d → ∃ d2 y d4 d5, g x (wipeD d vs) = some d2 ∧ e d2 = some (y, d4) ∧ backD d1 vs d4 = some d5 ∧ I (pre ++ [x]) (acc ++ [y]) d5)
    (hl : ∀ pre acc d, I pre acc d → acc.length = pre.length) (hx : xs.length ≤ sizeLine) : ∃ ys d2, rLc f g rYes e vs d = some (.list ys, d2) ∧ I xs ys d2 := by
  have e0 : rLc f g rYes e vs d = (bd (lcR g rYes e vs d1 xs [] d1) fun ys d2 => some (.list ys, d2)) := by
    unfold rLc
    rw [hf]
    exact if_pos hv
  rw [e0]
  have gen : ∀ (post pre acc : List D) (d : List Slot), xs = pre ++ post → I pre acc d → ∃ ys d2, lcR g rYes e vs d1 post acc d = some (ys, d2) ∧ I xs ys d2 := by
    intro post
    induction post with
    | nil =>
      intro pre acc d e1 i
      rw [List.append_nil] at e1
      subst e1
      exact ⟨acc, d, rfl, i⟩
    | cons x post ih =>
      intro pre acc d e1 i
      obtain ⟨d2, y, d4, d5, h1, h2, h3, i2⟩ := h pre x post acc d e1 i
      have hla := hl pre acc d i
      have hlx : xs.length = pre.length + (post.length + 1) := by rw [e1]; simp
      obtain ⟨ys, d6, e6, i6⟩ := ih (pre ++ [x]) (acc ++ [y]) d5 (by rw [e1, List.append_assoc]; rfl) i2
      refine ⟨ys, d6, ?_, i6⟩
      unfold lcR
      rw [h1]
      show bd (e d2) _ = _
      rw [h2]
      show (if acc.length < sizeLine then ob (backD d1 vs d4) _ else none) = _
      rw [if_pos (by omega), h3]
      exact e6
  obtain ⟨ys, d2, e1, i⟩ := gen xs [] [] d1 rfl h0
  exact ⟨ys, d2, by rw [e1]; rfl, i⟩

/-! ### texts as lists of codes -/
def S (l : List Nat) : Str := ⟨l.toArray⟩
theorem S_len (l : List Nat) : (S l).length = l.length := by
  show l.toArray.size = _
  simp
theorem S_list (l : List Nat) : (S l).cps.toList = l := rfl
theorem S_append (a b : List Nat) : S a ++ S b = S (a ++ b) := by
  show (⟨a.toArray ++ b.toArray⟩ : Str) = ⟨(a ++ b).toArray⟩
  simp
theorem S_inj {a b : List Nat} (h : S a = S b) : a = b := by
  have := congrArg (fun s => s.cps.toList) h
  exact this
theorem chars_S (l : List Nat) : chars (S l) = l.map fun c => .str (S [c]) := rfl
theorem revS_S (l : List Nat) : revS (S l) = S l.reverse := rfl
theorem letters8 : (("abcdefgh" : String) : Str) = S [97, 98, 99, 100, 101, 102, 103, 104] := by decide +kernel
theorem sizeL : sizeLine = 16777216 := sizeLine_eq

theorem notFd_un : notFd (some Slot.un) = true := rfl
theorem notFd_fz (x : D) : notFd (some (Slot.fz x)) = true := rfl
theorem notFd_ow (x : D) : notFd (some (Slot.ow x)) = true := rfl
theorem noOwn_un : noOwn (some Slot.un) = true := rfl
theorem noOwn_fz (x : D) : noOwn (some (Slot.fz x)) = true := rfl
theorem noOwn_nil : noOwn (Option.none : Option Slot) = true := rfl
theorem fLen_list (xs : List D) : fLen [.list xs] = some (.int xs.length) := rfl
theorem fLen_tuple (xs : List D) : fLen [.tuple xs] = some (.int xs.length) := rfl
theorem fLen_S (l : List Nat) (h : l.length ≤ 16777216) : fLen [.str (S l)] = some (.int l.length) := by
  show (if (S l).length ≤ sizeLine then _ else _) = _
  rw [if_pos (by rw [S_len, sizeL]; exact h), S_len]
theorem fAdd_int (i j : Int) : fAdd (.int i) (.int j) = some (.int (i + j)) := rfl
theorem fAdd_S (a b : List Nat) (h : a.length + b.length ≤ 16777216) : fAdd (.str (S a)) (.str (S b)) = some (.str (S (a ++ b))) := by
  show (if (S a).length + (S b).length ≤ sizeLine then _ else _) = _
  rw [if_pos (by rw [S_len, S_len, sizeL]; exact h), S_append]
theorem fAdd_list (a b : List D) (h : a.length + b.length ≤ 16777216) : fAdd (.list a) (.list b) = some (.list (a ++ b)) := if_pos (by rw [sizeL]; exact h)
theorem fMod_pos (i j : Int) (h : 0 < j) : fMod (.int i) (.int j) = some (.int (i % j)) := if_pos h
theorem fDiv_pos (i j : Int) (h : 0 < j) (h2 : j < 2 ^ 62) : fDiv (.int i) (.int j) = some (.int (i / j)) := if_pos ⟨h, by
  have h3 : j.natAbs.log2 < 63 := by
    rw [Nat.log2_lt (by omega)]
    omega
  omega⟩
theorem fMul_ok (i j : Int) (h : i.natAbs < 2 ^ 64) (h2 : j.natAbs < 2 ^ 64) : fMul (.int i) (.int j) = some (.int (i * j)) := if_pos (by
  have a : ∀ n : Nat, n < 2 ^ 64 → n.log2 < 64 := fun n hn => by
    by_cases e : n = 0
    · subst e
      decide
    · rw [Nat.log2_lt e]
      exact hn
  have := a _ h
  have := a _ h2
  omega)
theorem small_of {i : Int} (h : -(2 ^ 62) ≤ i) (h2 : i < 2 ^ 62) : small i = true := by
  unfold small
  rw [Bool.and_eq_true, decide_eq_true_eq, decide_eq_true_eq]
  exact ⟨h, h2⟩
theorem rng1_ok (j : Int) (h : -(2 ^ 62) ≤ j) (h2 : j < 2 ^ 62) : rng1 [.int j] = some (rowI 0 1 j.toNat) := if_pos (small_of h h2)
theorem rng2_ok (i j : Int) (h : -(2 ^ 62) ≤ i) (h2 : i < 2 ^ 62) (h3 : -(2 ^ 62) ≤ j) (h4 : j < 2 ^ 62) : rng2 [.int i, .int j] = some (rowI i 1 (j - i).toNat) := if_pos ⟨small_of h h2, small_of h3 h4⟩
/-! ### data -/
abbrev dI (ns : List Int) : D := .list (ns.map .int)
theorem shaped_int (i : Int) : SeqAt.shaped (.int i) = true := rfl
theorem shaped_bool (i : Bool) : SeqAt.shaped (.bool i) = true := rfl
theorem canLay_ints : ∀ ns : List Int, PyData.canLayAll0 (ns.map .int) = true
  | [] => by simp [PyData.canLayAll0]
  | n :: ns => by simp [PyData.canLayAll0, PyData.canLay0, canLay_ints ns]
theorem depth_ints : ∀ ns : List Int, PyData.depthAll (ns.map .int) = 0
  | [] => by simp [PyData.depthAll]
  | n :: ns => by simp [PyData.depthAll, PyData.depth, depth_ints ns]
theorem shaped_dI (ns : List Int) : SeqAt.shaped (dI ns) = true := by
  unfold SeqAt.shaped
  rw [Bool.and_eq_true]
  constructor
  · simp only [PyData.canLay0, canLay_ints]
  · rw [decide_eq_true_eq]
    simp only [PyData.depth, depth_ints]
    decide
theorem eqv_dI_all : ∀ ns ms : List Int, PyData.eqvAll (ns.map .int) (ms.map .int) = decide (ns = ms)
  | [], [] => by simp [PyData.eqvAll]
  | [], m :: ms => by simp [PyData.eqvAll]
  | n :: ns, [] => by simp [PyData.eqvAll]
  | n :: ns, m :: ms => by
    simp only [List.map_cons, PyData.eqvAll, PyData.eqv, eqv_dI_all ns ms, List.cons.injEq, Bool.decide_and]
    rfl
theorem eqv_dI (ns ms : List Int) : PyData.eqv (dI ns) (dI ms) = decide (ns = ms) := by
  simp only [PyData.eqv, eqv_dI_all]
theorem fNe_dI (ns ms : List Int) : fNe (dI ns) (dI ms) = some (.bool (!decide (ns = ms))) := by
  unfold fNe
  rw [if_pos ⟨shaped_dI ns, shaped_dI ms⟩, eqv_dI]
theorem fEq_dI (ns ms : List Int) : fEq (dI ns) (dI ms) = some (.bool (decide (ns = ms))) := by
  unfold fEq
  rw [if_pos ⟨shaped_dI ns, shaped_dI ms⟩, eqv_dI]
theorem fEq_int (i j : Int) : fEq (.int i) (.int j) = some (.bool (decide (i = j))) := by
  unfold fEq
  rw [if_pos ⟨rfl, rfl⟩]
  simp only [PyData.eqv]
  rfl
theorem fNe_int (i j : Int) : fNe (.int i) (.int j) = some (.bool (!decide (i = j))) := by
  unfold fNe
  rw [if_pos ⟨rfl, rfl⟩]
  simp only [PyData.eqv]
  rfl
theorem fSum_dI (ns : List Int) : fSum [dI ns] = some (.int ns.sum) := by
  show ob (intsOf (ns.map .int)) _ = _
  rw [intsOf_map]
  rfl

theorem rowI_map (lo c : Int) (n : Nat) : rowI lo c n = ((List.range n).map fun (i : Nat) => lo + (i : Int) * c).map .int := by
  unfold rowI
  rw [List.map_map]
  rfl
theorem get1 (fs : FS) : fs.get 1 = some fs.i := rfl
theorem get2 (fs : FS) : fs.get 2 = some fs.b := rfl
theorem get3 (fs : FS) : fs.get 3 = some fs.c := rfl
theorem put1 (fs : FS) (x : Int) : fs.put 1 x = some { fs with i := x } := rfl
theorem put2 (fs : FS) (x : Int) : fs.put 2 x = some { fs with b := x } := rfl
theorem put3 (fs : FS) (x : Int) : fs.put 3 x = some { fs with c := x } := rfl
theorem fPow18 : fPow (.int 10) (.int 18) = some (.int 1000000000000000000) := by
  have c : (0 : Int) ≤ 18 ∧ (18 : Int) ≤ 1000000 ∧ (10 : Int).natAbs < 2 ^ 64 := by decide
  simp only [fPow, if_pos c]
  rfl
theorem okT_str (z : Str) : OkT "str" (.str z) = true := beq_self_eq_true "str"
theorem okT_list (xs : List D) : OkT "list" (.list xs) = true := beq_self_eq_true "list"
theorem okT_dict (xs) : OkT "dict" (.dict xs) = true := beq_self_eq_true "dict"
theorem size_lt {n : Nat} (h : n < 16777216) : (n < sizeLine) = True := by rw [sizeL]; exact eq_true h
theorem size_le {n : Nat} (h : n ≤ 16777216) : (n ≤ sizeLine) = True := by rw [sizeL]; exact eq_true h
end DK
end
section
set_option maxRecDepth 100000
set_option maxHeartbeats 1000000
namespace DK
open PySem L2
local macro_rules | `(tactic| walk_at "dk") => `(tactic| simp (disch := first | assumption | omega) only [sAsg, sAsgN, sRet, sDrop, sNext, sApp, sExt, sAug, sSetL, sDPutR, sFS, sFA, sPar, rVar, rVarB, rC, rB, rOp2, rOp2N, rOp1, rOpA, rOpAN, rOpM, rOpM1, rLst, rTup, rSl, rSlN, rPart, rNoPart, rNilA, rConsA, rNilB, rConsB, rT, rAndT, rOrT, rNotT, rIf, rAndV, rOrV, rNotV, rChain, rYes, rDNew, rDGet, rPopI, rLrg, iX, iE, iZ, gN, gT, gConsR, gNilR, bd_some, ob_some, BV.get, slotD, getAll, isB, isL1, isL2, notFd_un, notFd_fz, notFd_ow, noOwn_un, noOwn_fz, noOwn_nil, wipeD, backD, itemsOf, fSub, fNeg, fInt, fAbs, fList, fLen_list, fLen_tuple, fAdd_int, fCmp, keyOf, oneCh, List.getElem?_cons_zero, List.getElem?_cons_succ, List.set_cons_zero, List.set_cons_succ, List.length_cons, List.length_nil, List.map_cons, List.map_nil, List.append_nil, List.nil_append, if_true, if_false, reduceIte, Bool.not_true, Bool.not_false, and_self, and_true, true_and, reduceCtorEq, rFI, rFL, rFN, fdAt, get1, get2, get3, put1, put2, put3, fMul_ok, fMod_pos, fDiv_pos, fEq_int, fNe_int, ltI, leI, gtI, geI, fLen_S, fAdd_S, fAdd_list, fSum_dI, fPow18, rCallF, rCall, rCallB, flatD, Option.map_some, Option.map_none, okT_str, okT_list, okT_dict, size_le, Nat.reduceAdd, Nat.reduceLT, List.length_map, List.length_range, List.length_append, size_lt])
/-! ### draws -/
def r_draw : SR :=
  (sSeq (sIf (rAndT (rT (rB (rOp2 fEq (rB (rFI 0 2)) (rB (rC (.int 0)))))) (rT (rB (rOp2 (fCmp ltI ltS) (rB (rFI 0 1)) (rB (rFL 0)))))) (sSeq (sAsg (rOpA fAbs (rConsB (rB (rOpA fInt (rConsB (rB (rFN 0)) rNilB))) rNilB)) (gN 2))
   (sSeq (sFA 0 1 (rB (rC (.int 1))))
   (sIf (rT (rB (rOp2 (fCmp geI geS) (rVarB 2) (rB (rOp2 fPow (rB (rC (.int 10))) (rB (rC (.int 18)))))))) (sFS 0 2 (rVarB 2)) (sFS 0 3 (rB (rOp2 fMod (rB (rOpA fInt (rConsB (rB (rOp2 fAdd (rB (rOp2 fAdd (rB (rOp2 fMul (rB (rFI 0 3)) (rB (rC (.int 48271))))) (rB (rOp2 fMul (rVarB 2) (rB (rC (.int 69621))))))) (rB (rFI 0 1)))) rNilB))) (rB (rC (.int 2147483647))))))))) sNext)
  (sSeq (sIf (rT (rB (rOp2 (fCmp gtI gtS) (rB (rFI 0 2)) (rB (rC (.int 0)))))) (sSeq (sAsg (rOp2 fMod (rB (rOpA fInt (rConsB (rB (rFI 0 2)) rNilB))) (rVarB 1)) (gN 3))
   (sSeq (sFS 0 2 (rB (rOp2 fDiv (rB (rFI 0 2)) (rVarB 1))))
   (sRet (rVar 3)))) sNext)
  (sSeq (sFS 0 3 (rB (rOp2 fMod (rB (rOpA fInt (rConsB (rB (rOp2 fAdd (rB (rOp2 fMul (rB (rFI 0 3)) (rB (rC (.int 16807))))) (rB (rC (.int 12345))))) rNilB))) (rB (rC (.int 2147483647))))))
  (sSeq (sAsg (rOp2 fMod (rB (rOpA fInt (rConsB (rB (rOp2 fAdd (rB (rOp2 fMul (rB (rFI 0 3)) (rB (rFI 0 3)))) (rB (rFI 0 3)))) rNilB))) (rB (rC (.int 2147483629)))) (gN 4))
  (sRet (rOp2 fMod (rB (rOp2 fDiv (rVarB 4) (rB (rC (.int 11))))) (rVarB 1)))))))
def FS.ok (fs : FS) : Prop := 0 ≤ fs.i ∧ 0 ≤ fs.b ∧ 0 ≤ fs.c ∧ fs.c < 2147483647
theorem draw_ok {fs : FS} {n : Int} (h : fs.ok) (h0 : 0 < n) (h1 : n < 2 ^ 62) : ∃ y fs', mOfF 5 2 r_draw fs [.int n] = some (y, fs') ∧ ((∃ r, y = .int r ∧ 0 ≤ r ∧ r < n) ∧ fs'.ok) := by
  refine mOfF_ex rfl ?_
  show Ok (r_draw [.fd fs, .fz (.int n), .un, .un, .un]) _
  unfold r_draw
  obtain ⟨hi, hb, hc, hc2⟩ := h
  refine ok_seq (Ok.mono (P := fun o => ∃ fs1 s2, o = .nx [.fd fs1, .fz (.int n), s2, .un, .un] ∧ fs1.ok ∧ notFd (some s2) = true) ?_ ?_)
  · by_cases c1 : fs.b = 0 ∧ fs.i < fs.ns.length
    · obtain ⟨x, hx⟩ : ∃ x, L2.atI fs.ns fs.i = some x := by
        have h2 : fs.i.toNat < fs.ns.length := by omega
        refine ⟨fs.ns[fs.i.toNat], ?_⟩
        unfold L2.atI ixN
        rw [if_pos hi, if_pos (by omega)]
        exact List.getElem?_eq_getElem h2
      refine ok_if (k := true) (d1 := [.fd fs, .fz (.int n), .un, .un, .un]) ?_ (fun _ => ?_) (fun z => by cases z)
      · walk_at "dk"
        rw [decide_eq_true c1.1, decide_eq_true c1.2, if_pos rfl]
      · refine ok_nx (d1 := [.fd fs, .fz (.int n), .fz (.int (if x < 0 then -x else x)), .un, .un]) ?_ ?_
        · walk_at "dk"
          rw [hx]
          walk_at "dk"
        · generalize hcell : (if x < 0 then -x else x) = cell
          have hcell0 : 0 ≤ cell := by rw [← hcell]; split <;> omega
          refine ok_nx (d1 := [.fd { fs with i := fs.i + 1 }, .fz (.int n), .fz (.int cell), .un, .un]) ?_ ?_
          · walk_at "dk"
          · refine ok_if (k := decide (1000000000000000000 ≤ cell)) (d1 := [.fd { fs with i := fs.i + 1 }, .fz (.int n), .fz (.int cell), .un, .un]) ?_ (fun _ => ?_) (fun z => ?_)
            · walk_at "dk"
            · refine ok_eq (o := .nx [.fd { fs with i := fs.i + 1, b := cell }, .fz (.int n), .fz (.int cell), .un, .un]) ?_ ⟨_, _, rfl, ⟨by show 0 ≤ fs.i + 1; omega, hcell0, hc, hc2⟩, rfl⟩
              walk_at "dk"
            · have hlt : cell < 1000000000000000000 := by
                have := of_decide_eq_false z
                omega
              refine ok_eq (o := .nx [.fd { fs with i := fs.i + 1, c := (fs.c * 48271 + cell * 69621 + (fs.i + 1)) % 2147483647 }, .fz (.int n), .fz (.int cell), .un, .un]) ?_ ⟨_, _, rfl, ⟨by show 0 ≤ fs.i + 1; omega, hb, Int.emod_nonneg _ (by decide), Int.emod_lt_of_pos _ (by decide)⟩, rfl⟩
              walk_at "dk"
    · refine ok_if (k := false) (d1 := [.fd fs, .fz (.int n), .un, .un, .un]) ?_ (fun z => by cases z) (fun _ => ok_eq rfl ⟨fs, .un, rfl, ⟨hi, hb, hc, hc2⟩, rfl⟩)
      walk_at "dk"
      by_cases e : fs.b = 0
      · rw [decide_eq_true e, if_pos rfl, decide_eq_false (fun z => c1 ⟨e, z⟩)]
      · rw [decide_eq_false e, if_neg (by decide)]
  · rintro o ⟨fs1, s2, rfl, ⟨hi, hb, hc, hc2⟩, n2⟩
    show Ok _ _
    by_cases c2 : 0 < fs1.b
    · refine ok_seq (Ok.mono (P := fun o => ∃ d, o = .rt (.int (fs1.b % n)) (.fd { fs1 with b := fs1.b / n } :: d)) ?_ ?_)
      · refine ok_if (k := true) (d1 := [.fd fs1, .fz (.int n), s2, .un, .un]) ?_ (fun _ => ?_) (fun z => by cases z)
        · walk_at "dk"
          rw [decide_eq_true c2]
        · refine ok_nx (d1 := [.fd fs1, .fz (.int n), s2, .fz (.int (fs1.b % n)), .un]) ?_ ?_
          · walk_at "dk"
          · refine ok_nx (d1 := [.fd { fs1 with b := fs1.b / n }, .fz (.int n), s2, .fz (.int (fs1.b % n)), .un]) ?_ ?_
            · walk_at "dk"
            · refine ok_eq (o := .rt (.int (fs1.b % n)) [.fd { fs1 with b := fs1.b / n }, .fz (.int n), s2, .fz (.int (fs1.b % n)), .un]) ?_ ⟨_, rfl⟩
              walk_at "dk"
      · rintro o ⟨d, rfl⟩
        exact ⟨_, _, d, rfl, ⟨_, rfl, Int.emod_nonneg _ (by omega), Int.emod_lt_of_pos _ h0⟩, hi, Int.ediv_nonneg hb (by omega), hc, hc2⟩
    · refine ok_seq (ok_if (k := false) (d1 := [.fd fs1, .fz (.int n), s2, .un, .un]) ?_ (fun z => by cases z) (fun _ => ok_eq rfl ?_))
      · walk_at "dk"
        rw [decide_eq_false c2]
      · show Ok _ _
        have c30 : 0 ≤ (fs1.c * 16807 + 12345) % 2147483647 := Int.emod_nonneg _ (by decide)
        have c31 : (fs1.c * 16807 + 12345) % 2147483647 < 2147483647 := Int.emod_lt_of_pos _ (by decide)
        refine ok_nx (d1 := [.fd { fs1 with c := (fs1.c * 16807 + 12345) % 2147483647 }, .fz (.int n), s2, .un, .un]) ?_ ?_
        · walk_at "dk"
        · generalize (fs1.c * 16807 + 12345) % 2147483647 = c3 at c30 c31 ⊢
          refine ok_nx (d1 := [.fd { fs1 with c := c3 }, .fz (.int n), s2, .un, .fz (.int ((c3 * c3 + c3) % 2147483629))]) ?_ ?_
          · walk_at "dk"
          · refine ok_eq (o := .rt (.int ((c3 * c3 + c3) % 2147483629 / 11 % n)) [.fd { fs1 with c := c3 }, .fz (.int n), s2, .un, .fz (.int ((c3 * c3 + c3) % 2147483629))]) ?_ ⟨_, _, _, rfl, ⟨_, rfl, Int.emod_nonneg _ (by omega), Int.emod_lt_of_pos _ h0⟩, hi, hb, c30, c31⟩
            walk_at "dk"
end DK
end
section
set_option maxRecDepth 100000
set_option maxHeartbeats 1000000
namespace DK
open PySem L2
local macro_rules | `(tactic| walk_at "dk") => `(tactic| simp (disch := first | assumption | omega) only [sAsg, sAsgN, sRet, sDrop, sNext, sApp, sExt, sAug, sSetL, sDPutR, sFS, sFA, sPar, rVar, rVarB, rC, rB, rOp2, rOp2N, rOp1, rOpA, rOpAN, rOpM, rOpM1, rLst, rTup, rSl, rSlN, rPart, rNoPart, rNilA, rConsA, rNilB, rConsB, rT, rAndT, rOrT, rNotT, rIf, rAndV, rOrV, rNotV, rChain, rYes, rDNew, rDGet, rPopI, rLrg, iX, iE, iZ, gN, gT, gConsR, gNilR, bd_some, ob_some, BV.get, slotD, getAll, isB, isL1, isL2, notFd_un, notFd_fz, notFd_ow, noOwn_un, noOwn_fz, noOwn_nil, wipeD, backD, itemsOf, fSub, fNeg, fInt, fAbs, fList, fLen_list, fLen_tuple, fAdd_int, fCmp, keyOf, oneCh, List.getElem?_cons_zero, List.getElem?_cons_succ, List.set_cons_zero, List.set_cons_succ, List.length_cons, List.length_nil, List.map_cons, List.map_nil, List.append_nil, List.nil_append, if_true, if_false, reduceIte, Bool.not_true, Bool.not_false, and_self, and_true, true_and, reduceCtorEq, rFI, rFL, rFN, fdAt, get1, get2, get3, put1, put2, put3, fMul_ok, fMod_pos, fDiv_pos, fEq_int, fNe_int, ltI, leI, gtI, geI, fLen_S, fAdd_S, fAdd_list, fSum_dI, fPow18, rCallF, rCall, rCallB, flatD, Option.map_some, Option.map_none, okT_str, okT_list, okT_dict, size_le, Nat.reduceAdd, Nat.reduceLT, List.length_map, List.length_range, List.length_append, size_lt])
def m_draw : FS → List D → Option (D × FS) := mOfF 5 2 r_draw
theorem iR1 {e : ER} {d d1 : List Slot} {j : Int} (h : e d = some (.int j, d1)) (h1 : -(2 ^ 62) ≤ j) (h2 : j < 2 ^ 62) : iR rng1 (rConsA e rNilA) d = some (rowI 0 1 j.toNat, d1) := by
  unfold iR rConsA rNilA
  simp only [h, bd_some]
  rw [rng1_ok j h1 h2]
  rfl
theorem iR1N {e : ER} {d d1 : List Slot} {r : Nat} (h : e d = some (.int r, d1)) (h1 : r < 2 ^ 62) : iR rng1 (rConsA e rNilA) d = some (rowI 0 1 r, d1) := by
  rw [iR1 h (by omega) (by omega), Int.toNat_natCast]
theorem iR2 {e e2 : ER} {d d1 d2 : List Slot} {i j : Int} (h : e d = some (.int i, d1)) (h' : e2 d1 = some (.int j, d2)) (h1 : -(2 ^ 62) ≤ i) (h2 : i < 2 ^ 62) (h3 : -(2 ^ 62) ≤ j) (h4 : j < 2 ^ 62) : iR rng2 (rConsA e (rConsA e2 rNilA)) d = some (rowI i 1 (j - i).toNat, d2) := by
  unfold iR rConsA rNilA
  simp only [h, h', bd_some]
  rw [rng2_ok i j h1 h2 h3 h4]
  rfl
def r_order : SR :=
  (sSeq (sAsgN 2 (rLc (iX (rSl fSl (rB (rC (.str "abcdefgh"))) rNoPart (rPart (rVarB 1)))) (gN 5) rYes (rVar 5) [5]))
  (sSeq (sAsg (rC (.str "")) (gN 3))
  (sSeq (sFor (iR rng1 (rConsA (rVar 1) rNilA)) (gN 4) (sAsg (rOp2 fAdd (rVarB 3) (rB (rPopI 2 (rB (rCallF 0 m_draw (rConsA (rOpA fLen (rConsB (rVarB 2) rNilB)) rNilA)))))) (gN 3)))
  (sRet (rVar 3)))))
def m_order : FS → List D → Option (D × FS) := mOfF 6 2 r_order
def r_exchange : SR :=
  (sSeq (sAsg (rOp2 fAdd (rB (rC (.int 1))) (rB (rCallF 0 m_draw (rConsA (rVar 1) rNilA)))) (gN 2))
  (sSeq (sAsg (rSl fSl (rB (rC (.str "abcdefgh"))) rNoPart (rPart (rVarB 2))) (gN 3))
  (sSeq (sIf (rT (rB (rOp2 fEq (rB (rCallF 0 m_draw (rConsA (rC (.int 4)) rNilA))) (rB (rC (.int 0)))))) (sAsg (rCallF 0 m_order (rConsA (rVar 2) rNilA)) (gN 3)) sNext)
  (sSeq (sAsg (rCallF 0 m_draw (rConsA (rC (.int 3)) rNilA)) (gN 4))
  (sSeq (sAsg (rOp1 fRev (rVarB 3)) (gN 5))
  (sSeq (sIf (rT (rB (rOp2 (fCmp gtI gtS) (rVarB 4) (rB (rC (.int 0)))))) (sSeq (sAsg (rCallF 0 m_order (rConsA (rVar 2) rNilA)) (gN 5))
   (sAsg (rOpM1 fJoin (rB (rC (.str ""))) (rB (rLc (iX (rVar 5)) (gN 7) rYes (rOp2 fIx (rVarB 3) (rB (rOpM "str" fSIndex (rB (rC (.str "abcdefgh"))) (rConsB (rVarB 7) rNilB)))) [7]))) (gN 5))) sNext)
  (sSeq (sAsg (rOp2 fIx (rB (rLst (rConsA (rC (.int 3)) (rConsA (rC (.int 8)) (rConsA (rC (.int 20)) rNilA))))) (rB (rCallF 0 m_draw (rConsA (rC (.int 3)) rNilA)))) (gN 6))
  (sRet (rTup (rConsA (rVar 3) (rConsA (rVar 5) (rConsA (rLc (iX (rVar 3)) (gN 7) rYes (rOp2 fAdd (rB (rC (.int 1))) (rB (rCallF 0 m_draw (rConsA (rVar 6) rNilA)))) [7]) rNilA))))))))))))
def m_exchange : FS → List D → Option (D × FS) := mOfF 8 2 r_exchange
theorem draw_one {fs : FS} {n : Int} (h : fs.ok) (h0 : 0 < n) (h1 : n < 2 ^ 62) : ∃ r fs', m_draw fs [.int n] = some (.int r, fs') ∧ 0 ≤ r ∧ r < n ∧ fs'.ok := by
  obtain ⟨y, fs', e, ⟨r, rfl, h2, h3⟩, ok⟩ := draw_ok h h0 h1
  exact ⟨r, fs', e, h2, h3, ok⟩
/-! ### letters in an order -/
def abc : List Nat := [97, 98, 99, 100, 101, 102, 103, 104]
abbrev ch (c : Nat) : D := .str (S [c])
theorem cutS_take (l : List Nat) (k : Nat) (h : k ≤ l.length) : cutS (S l) none (some (k : Int)) = S (l.take k) := by
  unfold cutS
  rw [S_list, HT.sIx_none, S_len, HT.sIx_nat, List.drop_zero, Nat.sub_zero, Nat.min_eq_left h]
  rfl
theorem fSl_take (l : List Nat) (k : Nat) (h : k ≤ l.length) (hl : l.length ≤ 16777216) : fSl (.str (S l)) none (some (k : Int)) = some (.str (S (l.take k))) := by
  show (if (S l).length ≤ sizeLine then _ else _) = _
  rw [if_pos (by rw [S_len, sizeL]; exact hl), cutS_take l k h]
theorem abc_str : (("abcdefgh" : String) : Str) = S abc := by decide +kernel
theorem empty_str : (("" : String) : Str) = S [] := by decide +kernel
theorem chars_ch (l : List Nat) : chars (S l) = l.map ch := rfl
theorem join_S (ls : List (List Nat)) : Txt.join (S []) (ls.map S) = S ls.flatten := by
  rw [show Txt.join (S []) (ls.map S) = Str.join (S []) (ls.map S) from PySem.StrLaws.glued_eq_join _ _]
  induction ls with
  | nil => rfl
  | cons x r ih =>
    cases r with
    | nil =>
      show S x = S (x ++ [])
      rw [List.append_nil]
    | cons y r =>
      show S x ++ S [] ++ Str.join (S []) ((y :: r).map S) = _
      rw [ih, S_append, S_append, List.append_nil]
      rfl
theorem fJoin_ch (l : List Nat) (h : l.length ≤ 16777216) : fJoin (.str (S [])) [.list (l.map ch)] = some (.str (S l)) := by
  have e : l.map ch = (l.map fun c => S [c]).map PyData.str := by rw [List.map_map]; rfl
  unfold fJoin
  dsimp only
  rw [e, strsOf_map]
  show (if _ then _ else _) = _
  have e2 : (l.map fun c => S [c]) = (l.map fun c => [c]).map S := by rw [List.map_map]; rfl
  have e3 : (l.map fun c => [c]).flatten = l := by
    induction l with
    | nil => rfl
    | cons x r ih => rw [List.map_cons, List.flatten_cons, ih (by rw [List.length_cons] at h; omega) (by rw [List.map_map]; rfl) (by rw [List.map_map]; rfl)]; rfl
  rw [if_pos, e2, join_S, e3]
  have hs : ((l.map fun c => S [c]).map fun x => x.length).sum = l.length := by
    clear e e2 e3 h
    induction l with
    | nil => rfl
    | cons x r ih =>
      rw [List.map_cons, List.map_cons, List.sum_cons, ih, List.length_cons, S_len]
      show 1 + r.length = _
      omega
  rw [hs, S_len]
  simpa using h
theorem occ_abc : ∀ c ∈ abc, Builtin.Str.occurrences (S abc) (S [c]) 0 8 1 = [c - 97] := by decide +kernel
theorem index_abc : ∀ c, c ∈ abc → fSIndex (.str (S abc)) [ch c] = some (.int ((c - 97 : Nat) : Int)) := by
  intro c hc
  unfold fSIndex
  dsimp only
  rw [show (S abc).length = 8 from rfl, occ_abc c hc]
theorem erase_perm {α : Type} : ∀ {l : List α} {i : Nat} (h : i < l.length), (l[i] :: l.eraseIdx i).Perm l
  | x :: l, 0, _ => List.Perm.refl _
  | x :: l, i + 1, h => by
    rw [List.length_cons] at h
    exact (List.Perm.swap x _ _).trans ((erase_perm (l := l) (i := i) (by omega)).cons x)
theorem erase_map {α β : Type} (f : α → β) : ∀ (l : List α) (i : Nat), (l.map f).eraseIdx i = (l.eraseIdx i).map f
  | [], _ => rfl
  | _ :: _, 0 => rfl
  | x :: l, i + 1 => congrArg (f x :: ·) (erase_map f l i)
theorem pop_ok {rest : List D} {q : Int} (h0 : 0 ≤ q) (h1 : q < rest.length) : seqIndex? q rest.length = some q.toNat := seqIndex_of h0 h1
theorem order_ok {fs : FS} {r : Nat} (h : fs.ok) (h8 : r ≤ 8) : ∃ l fs', m_order fs [.int r] = some (.str (S l), fs') ∧ fs'.ok ∧ l.Perm (abc.take r) := by
  suffices hh : ∃ y fs', m_order fs [.int r] = some (y, fs') ∧ ((∃ l, y = .str (S l) ∧ l.Perm (abc.take r)) ∧ fs'.ok) by
    obtain ⟨y, fs', e, ⟨l, rfl, p⟩, ok⟩ := hh
    exact ⟨l, fs', e, ok, p⟩
  refine mOfF_ex rfl ?_
  show Ok (r_order [.fd fs, .fz (.int r), .un, .un, .un, .un]) _
  unfold r_order
  rw [abc_str, empty_str]
  have ha : abc.length = 8 := rfl
  refine ok_nx (d1 := [.fd fs, .fz (.int r), .ow (.list ((abc.take r).map ch)), .un, .un, .un]) ?_ ?_
  · unfold sAsgN
    rw [lc_map1 (xs := (abc.take r).map ch) (d1 := [.fd fs, .fz (.int r), .un, .un, .un, .un]) (fun x => x) ?_ (by show 5 < 6; decide) rfl (fun x _ => ?_) (by rw [List.length_map, List.length_take]; omega)]
    · simp only [bd_some, List.map_id']
      rfl
    · walk_at "dk"
      rw [fSl_take abc r (by omega) (by show 8 ≤ 16777216; omega)]
      walk_at "dk"
      rfl
    · walk_at "dk"
  refine ok_nx (d1 := [.fd fs, .fz (.int r), .ow (.list ((abc.take r).map ch)), .fz (.str (S [])), .un, .un]) (by walk_at "dk") ?_
  refine ok_seq (ok_for (xs := rowI 0 1 r) (d1 := [.fd fs, .fz (.int r), .ow (.list ((abc.take r).map ch)), .fz (.str (S [])), .un, .un]) (iR1N (r := r) (by walk_at "dk") (by omega))
    (fun pre post d => ∃ fs1 rest l s4, d = [.fd fs1, .fz (.int r), .ow (.list (rest.map ch)), .fz (.str (S l)), s4, .un] ∧ notFd (some s4) = true ∧ fs1.ok ∧ (l ++ rest).Perm (abc.take r) ∧ rest.length = post.length) ?_ ?_ ?_)
  · exact ⟨fs, abc.take r, [], .un, rfl, rfl, h, List.Perm.refl _, by rw [rowI_len, List.length_take]; omega⟩
  · rintro pre x post d e ⟨fs1, rest, l, s4, rfl, n4, ok1, p, hl⟩
    rw [List.length_cons] at hl
    have ht : l.length + rest.length = r := by
      have := p.length_eq
      rw [List.length_append, List.length_take] at this
      omega
    obtain ⟨q, fs2, e2, q0, q1, ok2⟩ := draw_one (n := (rest.length : Int)) ok1 (by omega) (by omega)
    have hq : q.toNat < rest.length := by omega
    refine ⟨[.fd fs1, .fz (.int r), .ow (.list (rest.map ch)), .fz (.str (S l)), .fz x, .un], by walk_at "dk"; rw [if_pos n4], ?_⟩
    refine ok_eq (o := .nx [.fd fs2, .fz (.int r), .ow (.list ((rest.eraseIdx q.toNat).map ch)), .fz (.str (S (l ++ [rest[q.toNat]]))), .fz x, .un]) ?_ ?_
    · walk_at "dk"
      rw [e2]
      walk_at "dk"
      rw [if_pos ⟨by omega, by omega⟩, seqIndex_of q0 q1]
      simp only [ob_some]
      rw [List.getElem?_map, List.getElem?_eq_getElem hq]
      simp only [Option.map_some, ob_some]
      walk_at "dk"
      rw [erase_map]
      rw [fAdd_S l [rest[q.toNat]] (by rw [List.length_singleton]; omega)]
      rfl
    · refine ⟨fs2, rest.eraseIdx q.toNat, _, _, rfl, rfl, ok2, ?_, by rw [List.length_eraseIdx_of_lt hq]; omega⟩
      refine List.Perm.trans ?_ p
      rw [List.append_assoc]
      refine List.Perm.append_left l ?_
      exact (erase_perm hq)
  · rintro d ⟨fs1, rest, l, s4, rfl, n4, ok1, p, hl⟩
    have : rest = [] := List.eq_nil_of_length_eq_zero hl
    subst this
    rw [List.append_nil] at p
    refine ok_eq (o := .rt (.str (S l)) [.fd fs1, .fz (.int r), .ow (.list []), .fz (.str (S l)), s4, .un]) (by walk_at "dk") ⟨_, _, _, rfl, ⟨l, rfl, p⟩, ok1⟩
theorem ok_cut {a b : SR} {d : List Slot} {P : Out → Prop} (I : List Slot → Prop) (h : Ok (a d) fun o => ∃ d1, o = .nx d1 ∧ I d1) (k : ∀ d1, I d1 → Ok (b d1) P) : Ok (sSeq a b d) P :=
  ok_seq (h.mono fun o q => by
    obtain ⟨d1, e, i⟩ := q
    subst e
    exact k d1 i)
theorem atI_nat {α : Type} {xs : List α} {i : Int} {k : Nat} {x : α} (h : i = k) (hx : xs[k]? = some x) : atI xs i = some x := by
  subst h
  obtain ⟨hk, hx⟩ := List.getElem?_eq_some_iff.mp hx
  unfold atI ixN
  rw [if_pos (by omega), Int.toNat_natCast, if_pos (by omega)]
  exact List.getElem?_eq_some_iff.mpr ⟨hk, hx⟩
theorem fIx_list {xs : List D} {i : Int} {k : Nat} {x : D} (h : i = k) (hx : xs[k]? = some x) : fIx (.list xs) (.int i) = some x := atI_nat h hx
theorem fIx_S {l : List Nat} {i : Int} {k c : Nat} (h : i = k) (hx : l[k]? = some c) (hl : l.length ≤ 16777216) : fIx (.str (S l)) (.int i) = some (ch c) := by
  show (if (S l).length ≤ sizeLine then _ else _) = _
  rw [if_pos (by rw [S_len, sizeL]; exact hl), S_list, atI_nat h hx]
  rfl
theorem fIx_dI {ns : List Int} {i : Int} {k : Nat} {x : Int} (h : i = k) (hx : ns[k]? = some x) : fIx (dI ns) (.int i) = some (.int x) := fIx_list h (by rw [List.getElem?_map, hx]; rfl)
theorem fRev_S (l : List Nat) (h : l.length ≤ 16777216) : fRev (.str (S l)) = some (.str (S l.reverse)) := by
  show (if (S l).length ≤ sizeLine then _ else _) = _
  rw [if_pos (by rw [S_len, sizeL]; exact h), revS_S]
theorem abc_get : ∀ {r : Nat}, r ≤ 8 → ∀ c ∈ abc.take r, c - 97 < r ∧ abc[c - 97]? = some c := by decide +kernel
theorem abc_at : ∀ i, (h : i < abc.length) → abc[i] = 97 + i := by decide +kernel
theorem abc_map {l : List Nat} {m : Nat} (hl : l.length = m) (h : m ≤ 8) : (abc.take m).map (fun c => l.getD (c - 97) 0) = l := by
  have ha : abc.length = 8 := rfl
  refine List.ext_getElem (by rw [List.length_map, List.length_take, ha]; omega) fun i h1 h2 => ?_
  rw [List.getElem_map, List.getElem_take, abc_at, show 97 + i - 97 = i by omega, List.getD_eq_getElem?_getD, List.getElem?_eq_getElem h2]
  rfl
theorem exchange_ok {fs : FS} {most : Nat} (h : fs.ok) (h1 : 1 ≤ most) (h8 : most ≤ 8) : ∃ l b ls fs', m_exchange fs [.int most] = some (.tuple [.str (S l), .str (S b), dI ls], fs') ∧ fs'.ok ∧ 1 ≤ l.length ∧ l.length ≤ most ∧ l.Perm (abc.take l.length) ∧ b.Perm l ∧ ls.length = l.length ∧ ∀ x ∈ ls, 1 ≤ x ∧ x ≤ 20 := by
  suffices hh : ∃ y fs', m_exchange fs [.int most] = some (y, fs') ∧ (∃ l b ls, y = .tuple [.str (S l), .str (S b), dI ls] ∧ 1 ≤ l.length ∧ l.length ≤ most ∧ l.Perm (abc.take l.length) ∧ b.Perm l ∧ ls.length = l.length ∧ ∀ x ∈ ls, 1 ≤ x ∧ x ≤ 20) ∧ fs'.ok by
    obtain ⟨y, fs', e, ⟨l, b, ls, rfl, p⟩, ok⟩ := hh
    exact ⟨l, b, ls, fs', e, ok, p⟩
  refine mOfF_ex rfl ?_
  show Ok (r_exchange [.fd fs, .fz (.int most), .un, .un, .un, .un, .un, .un]) _
  unfold r_exchange
  rw [abc_str, empty_str]
  obtain ⟨q, fs1, e1, q0, q1, ok1⟩ := draw_one (n := (most : Int)) h (by omega) (by omega)
  obtain ⟨m, hm⟩ : ∃ m : Nat, 1 + q = m := ⟨(1 + q).toNat, by omega⟩
  have ha : (abc.take m).length = m := by
    rw [List.length_take]
    show min m 8 = m
    omega
  refine ok_nx (d1 := [.fd fs1, .fz (.int most), .fz (.int m), .un, .un, .un, .un, .un]) (by walk_at "dk"; rw [e1]; try walk_at "dk"; rw [hm]) ?_
  refine ok_nx (d1 := [.fd fs1, .fz (.int most), .fz (.int m), .fz (.str (S (abc.take m))), .un, .un, .un, .un]) (by walk_at "dk"; rw [fSl_take abc m (by show m ≤ 8; omega) (by show 8 ≤ 16777216; omega)]; try walk_at "dk") ?_
  refine ok_cut (fun d => ∃ l fs2, d = [.fd fs2, .fz (.int most), .fz (.int m), .fz (.str (S l)), .un, .un, .un, .un] ∧ fs2.ok ∧ l.Perm (abc.take m)) ?_ ?_
  · obtain ⟨q2, fs2, e2, _, _, ok2⟩ := draw_one (n := 4) ok1 (by omega) (by omega)
    refine ok_if (d1 := [.fd fs2, .fz (.int most), .fz (.int m), .fz (.str (S (abc.take m))), .un, .un, .un, .un]) (by walk_at "dk"; rw [e2]; try walk_at "dk"; try rfl) (fun _ => ?_) (fun _ => ?_)
    · obtain ⟨l, fs3, e3, ok3, p⟩ := order_ok (r := m) ok2 (by omega)
      exact ok_eq (by walk_at "dk"; rw [e3]; try walk_at "dk"; try rfl) ⟨_, rfl, l, fs3, rfl, ok3, p⟩
    · exact ok_eq (by walk_at "dk"; try rfl) ⟨_, rfl, _, _, rfl, ok2, List.Perm.refl _⟩
  rintro _ ⟨l, fs2, rfl, ok2, pl⟩
  have hl : l.length = m := by rw [pl.length_eq, ha]
  obtain ⟨k, fs3, e3, k0, k1, ok3⟩ := draw_one (n := 3) ok2 (by omega) (by omega)
  refine ok_nx (d1 := [.fd fs3, .fz (.int most), .fz (.int m), .fz (.str (S l)), .fz (.int k), .un, .un, .un]) (by walk_at "dk"; rw [e3]; try walk_at "dk") ?_
  refine ok_nx (d1 := [.fd fs3, .fz (.int most), .fz (.int m), .fz (.str (S l)), .fz (.int k), .fz (.str (S l.reverse)), .un, .un]) (by walk_at "dk"; rw [fRev_S l (by omega)]; walk_at "dk") ?_
  refine ok_cut (fun d => ∃ b fs4, d = [.fd fs4, .fz (.int most), .fz (.int m), .fz (.str (S l)), .fz (.int k), .fz (.str (S b)), .un, .un] ∧ fs4.ok ∧ b.Perm l) ?_ ?_
  · refine ok_if (by walk_at "dk"; try rfl) (fun _ => ?_) (fun _ => ?_)
    · obtain ⟨b, fs4, e4, ok4, p⟩ := order_ok (r := m) ok3 (by omega)
      refine ok_nx (d1 := [.fd fs4, .fz (.int most), .fz (.int m), .fz (.str (S l)), .fz (.int k), .fz (.str (S b)), .un, .un]) (by walk_at "dk"; rw [e4]; try walk_at "dk") ?_
      have g : ∀ c ∈ b, c - 97 < l.length ∧ c ∈ abc := fun c hc => by
        have h2 := p.mem_iff.mp hc
        have h3 := abc_get (r := m) (by omega) c h2
        exact ⟨by omega, List.mem_of_mem_take h2⟩
      have hb : b.length = m := by rw [p.length_eq, ha]
      refine ok_eq (o := .nx [.fd fs4, .fz (.int most), .fz (.int m), .fz (.str (S l)), .fz (.int k), .fz (.str (S (b.map fun c => l.getD (c - 97) 0))), .un, .un]) ?_ ⟨_, rfl, _, _, rfl, ok4, ?_⟩
      · have e5 := lc_map1 (f := iX (rVar 5)) (e := rOp2 fIx (rVarB 3) (rB (rOpM "str" fSIndex (rB (rC (.str (S abc)))) (rConsB (rVarB 7) rNilB)))) (i := 7) (xs := b.map ch) (d := [.fd fs4, .fz (.int most), .fz (.int m), .fz (.str (S l)), .fz (.int k), .fz (.str (S b)), .un, .un]) (d1 := [.fd fs4, .fz (.int most), .fz (.int m), .fz (.str (S l)), .fz (.int k), .fz (.str (S b)), .un, .un]) (fun x => match x with | .str a => ch (l.getD (a.cps.toList.headD 0 - 97) 0) | _ => .none) (by walk_at "dk"; try rfl) (by show 7 < 8; omega) rfl ?_ (by rw [List.length_map]; omega)
        · unfold sAsg rOpM1
          walk_at "dk"
          rw [e5]
          walk_at "dk"
          rw [List.map_map]
          have e6 : List.map ((fun x => match x with | .str a => ch (l.getD (a.cps.toList.headD 0 - 97) 0) | _ => .none) ∘ ch) b = (b.map fun c => l.getD (c - 97) 0).map ch := by
            rw [List.map_map]
            rfl
          rw [e6, fJoin_ch _ (by rw [List.length_map]; omega)]
          try walk_at "dk"
        · intro x hx
          obtain ⟨c, hc, rfl⟩ := List.mem_map.mp hx
          obtain ⟨g1, g2⟩ := g c hc
          walk_at "dk"
          rw [index_abc c g2]
          walk_at "dk"
          rw [fIx_S (k := c - 97) (c := l[c - 97]) rfl (List.getElem?_eq_getElem g1) (by omega)]
          walk_at "dk"
          show some (ch l[c - 97], _) = some (ch (l.getD (c - 97) 0), _)
          rw [List.getD_eq_getElem?_getD, List.getElem?_eq_getElem g1]
          rfl
      · have := p.map fun c => l.getD (c - 97) 0
        rw [abc_map hl (by omega)] at this
        exact this
    · exact ok_eq (by walk_at "dk"; try rfl) ⟨_, rfl, _, _, rfl, ok3, List.reverse_perm l⟩
  rintro _ ⟨b, fs4, rfl, ok4, pb⟩
  obtain ⟨j, fs5, e5, j0, j1, ok5⟩ := draw_one (n := 3) ok4 (by omega) (by omega)
  obtain ⟨w, hw, w0, w1⟩ : ∃ w : Int, fIx (.list [.int 3, .int 8, .int 20]) (.int j) = some (.int w) ∧ 1 ≤ w ∧ w ≤ 20 := by
    have : j = (0 : Nat) ∨ j = (1 : Nat) ∨ j = (2 : Nat) := by omega
    rcases this with h | h | h
    · exact ⟨3, fIx_list h rfl, by omega, by omega⟩
    · exact ⟨8, fIx_list h rfl, by omega, by omega⟩
    · exact ⟨20, fIx_list h rfl, by omega, by omega⟩
  refine ok_nx (d1 := [.fd fs5, .fz (.int most), .fz (.int m), .fz (.str (S l)), .fz (.int k), .fz (.str (S b)), .fz (.int w), .un]) (by walk_at "dk"; rw [e5]; try walk_at "dk"; rw [hw]; try walk_at "dk") ?_
  obtain ⟨ys, d2, e6, ns, fs6, rfl, rfl, ok6, hns, hnl⟩ := lc_inv (f := iX (rVar 3)) (g := gN 7) (e := rOp2 fAdd (rB (rC (.int 1))) (rB (rCallF 0 m_draw (rConsA (rVar 6) rNilA)))) (vs := [7]) (xs := l.map ch) (d := [.fd fs5, .fz (.int most), .fz (.int m), .fz (.str (S l)), .fz (.int k), .fz (.str (S b)), .fz (.int w), .un]) (d1 := [.fd fs5, .fz (.int most), .fz (.int m), .fz (.str (S l)), .fz (.int k), .fz (.str (S b)), .fz (.int w), .un])
    (fun pre acc d => ∃ ns fs6, acc = ns.map PyData.int ∧ d = [.fd fs6, .fz (.int most), .fz (.int m), .fz (.str (S l)), .fz (.int k), .fz (.str (S b)), .fz (.int w), .un] ∧ fs6.ok ∧ (∀ x ∈ ns, 1 ≤ x ∧ x ≤ 20) ∧ ns.length = pre.length) (by walk_at "dk"; try rfl) rfl ⟨[], fs5, rfl, rfl, ok5, fun x hx => (by cases hx), rfl⟩ (by
      rintro pre x post acc d e ⟨ns, fs6, rfl, rfl, ok6, h3, h4⟩
      obtain ⟨q7, fs7, e7, q70, q71, ok7⟩ := draw_one (n := w) ok6 (by omega) (by omega)
      refine ⟨[.fd fs6, .fz (.int most), .fz (.int m), .fz (.str (S l)), .fz (.int k), .fz (.str (S b)), .fz (.int w), .fz x], .int (1 + q7), [.fd fs7, .fz (.int most), .fz (.int m), .fz (.str (S l)), .fz (.int k), .fz (.str (S b)), .fz (.int w), .fz x], [.fd fs7, .fz (.int most), .fz (.int m), .fz (.str (S l)), .fz (.int k), .fz (.str (S b)), .fz (.int w), .un], by walk_at "dk", by walk_at "dk"; rw [e7]; try walk_at "dk", by walk_at "dk", ns ++ [1 + q7], fs7, by rw [List.map_append]; rfl, rfl, ok7, ?_, by rw [List.length_append, List.length_append, h4]; rfl⟩
      intro x hx
      rcases List.mem_append.mp hx with h | h
      · exact h3 x h
      · rw [List.mem_singleton.mp h]
        omega) (by
      rintro pre acc d ⟨ns, fs6, rfl, rfl, ok6, h3, h4⟩
      rw [List.length_map, h4]) (by rw [List.length_map, sizeLine_eq]; omega)
  refine ok_eq (o := .rt (.tuple [.str (S l), .str (S b), dI ns]) [.fd fs6, .fz (.int most), .fz (.int m), .fz (.str (S l)), .fz (.int k), .fz (.str (S b)), .fz (.int w), .un]) (by walk_at "dk"; rw [e6]; try walk_at "dk") ⟨_, fs6, _, rfl, ⟨l, b, ns, rfl, by omega, by omega, by rw [hl]; exact pl, pb, by rw [hnl, List.length_map], hns⟩, ok6⟩
end DK
end
section
set_option maxRecDepth 100000
set_option maxHeartbeats 1000000
namespace DK
open PySem L2
local macro_rules | `(tactic| walk_at "dk") => `(tactic| simp (disch := first | assumption | omega) only [sAsg, sAsgN, sRet, sDrop, sNext, sApp, sExt, sAug, sSetL, sDPutR, sFS, sFA, sPar, rVar, rVarB, rC, rB, rOp2, rOp2N, rOp1, rOpA, rOpAN, rOpM, rOpM1, rLst, rTup, rSl, rSlN, rPart, rNoPart, rNilA, rConsA, rNilB, rConsB, rT, rAndT, rOrT, rNotT, rIf, rAndV, rOrV, rNotV, rChain, rYes, rDNew, rDGet, rPopI, rLrg, iX, iE, iZ, gN, gT, gConsR, gNilR, bd_some, ob_some, BV.get, slotD, getAll, isB, isL1, isL2, notFd_un, notFd_fz, notFd_ow, noOwn_un, noOwn_fz, noOwn_nil, wipeD, backD, itemsOf, fSub, fNeg, fInt, fAbs, fList, fLen_list, fLen_tuple, fAdd_int, fCmp, keyOf, oneCh, List.getElem?_cons_zero, List.getElem?_cons_succ, List.set_cons_zero, List.set_cons_succ, List.length_cons, List.length_nil, List.map_cons, List.map_nil, List.append_nil, List.nil_append, if_true, if_false, reduceIte, Bool.not_true, Bool.not_false, and_self, and_true, true_and, reduceCtorEq, rFI, rFL, rFN, fdAt, get1, get2, get3, put1, put2, put3, fMul_ok, fMod_pos, fDiv_pos, fEq_int, fNe_int, ltI, leI, gtI, geI, fLen_S, fAdd_S, fAdd_list, fSum_dI, fPow18, rCallF, rCall, rCallB, flatD, Option.map_some, Option.map_none, okT_str, okT_list, okT_dict, size_le, Nat.reduceAdd, Nat.reduceLT, List.length_map, List.length_range, List.length_append, size_lt])
theorem pigeon : ∀ (n : Nat) (c : Nat → Nat), (∀ i, i ≤ n → c i < n) → ∃ i j, i < j ∧ j ≤ n ∧ c i = c j := by
  intro n
  induction n with
  | zero => intro c h; exact absurd (h 0 (Nat.le_refl 0)) (Nat.not_lt_zero _)
  | succ n ih =>
    intro c h
    by_cases hv : ∃ i, i ≤ n ∧ c i = c (n + 1)
    · obtain ⟨i, hi, e⟩ := hv
      exact ⟨i, n + 1, by omega, Nat.le_refl _, e⟩
    · have nv : ∀ i, i ≤ n → c i ≠ c (n + 1) := fun i hi e => hv ⟨i, hi, e⟩
      obtain ⟨i, j, hij, hj, e⟩ := ih (fun i => if c i = n then c (n + 1) else c i) (fun i hi => by
        have h1 := h i (by omega)
        have h2 := h (n + 1) (Nat.le_refl _)
        have h3 := nv i hi
        show (if c i = n then c (n + 1) else c i) < n
        split <;> omega)
      refine ⟨i, j, hij, by omega, ?_⟩
      have n1 := nv i (by omega)
      have n2 := nv j (by omega)
      split at e <;> split at e <;> omega
theorem perm_range : ∀ (n : Nat) (l : List Nat), l.length = n → (∀ p, p < n → p ∈ l) → l.Perm (List.range n) := by
  intro n
  induction n with
  | zero =>
    intro l h _
    rw [List.eq_nil_of_length_eq_zero h]
    exact List.Perm.refl _
  | succ n ih =>
    intro l h hm
    have h1 := hm n (by omega)
    have p1 := List.perm_cons_erase h1
    have h2 : (l.erase n).length = n := by rw [List.length_erase_of_mem h1]; omega
    have p2 := ih (l.erase n) h2 fun p hp => (List.mem_erase_of_ne (by omega)).mpr (hm p (by omega))
    rw [List.range_succ]
    exact p1.trans ((List.Perm.cons n p2).trans (List.perm_append_comm (l₁ := [n]) (l₂ := List.range n)))

/-! ### places -/
abbrev dN (ns : List Nat) : D := .list (ns.map fun (n : Nat) => .int (n : Int))
theorem dN_app (a b : List Nat) : dN (a ++ b) = .list (a.map (fun (n : Nat) => .int (n : Int)) ++ b.map (fun (n : Nat) => .int (n : Int))) := by
  unfold dN
  rw [List.map_append]
theorem dI_dN {ls : List Int} (h : ∀ x ∈ ls, 0 ≤ x) : ∃ ns : List Nat, ls = ns.map (fun (n : Nat) => (n : Int)) ∧ dI ls = dN ns := by
  refine ⟨ls.map Int.toNat, ?_, ?_⟩
  · rw [List.map_map]
    exact (List.map_id' ls).symm.trans (List.map_congr_left fun x hx => (Int.toNat_of_nonneg (h x hx)).symm)
  · show PyData.list _ = PyData.list _
    rw [List.map_map]
    congr 1
    exact List.map_congr_left fun x hx => by
      show PyData.int x = PyData.int ((x.toNat : Nat) : Int)
      rw [Int.toNat_of_nonneg (h x hx)]
theorem rowI_mid {n : Nat} {pre post : List D} {x : D} (e : rowI 0 1 n = pre ++ x :: post) : x = .int (pre.length : Nat) ∧ pre.length < n := by
  have h := congrArg List.length e
  rw [rowI_len, List.length_append, List.length_cons] at h
  have h2 : (rowI 0 1 n)[pre.length]? = some x := by rw [e]; simp
  refine ⟨?_, by omega⟩
  have := rowI_get h2
  rw [this]
  congr 1
  omega
theorem fIx_dN {ns : List Nat} {i : Int} {k x : Nat} (h : i = k) (hx : ns[k]? = some x) : fIx (dN ns) (.int i) = some (.int (x : Nat)) := fIx_list h (by rw [List.getElem?_map, hx]; rfl)
theorem get_some {α : Type} {l : List α} {i : Nat} {z : α} (h : i < l.length) : l[i]? = some (l.getD i z) := by
  rw [List.getD_eq_getElem?_getD, List.getElem?_eq_getElem h]
  rfl
section
variable (l ns : List Nat)
def ent (i : Nat) : D × D := (ch (l.getD i 0), .tuple [.int ((ns.take i).sum : Nat), .int (ns.getD i 0 : Nat)])
def tabK (k : Nat) : List (D × D) := (List.range k).map (ent l ns)
/-- the length of a letter's block -/
def lenOf (c : Nat) : Nat := ns.getD (l.idxOf c) 0
/-- where a letter's block begins at the top -/
def topOf (c : Nat) : Nat := (ns.take (l.idxOf c)).sum
/-- where the block at an index begins at the bottom -/
def botOf (b : List Nat) (u : Nat) : Nat := ((b.take u).map (lenOf l ns)).sum
end
theorem isKey_ch {a b : Nat} : isKey (.inr (S [a])) (ch b) = decide (a = b) := by
  show decide (S [a] = S [b]) = _
  exact decide_eq_decide.mpr ⟨fun e => by have := S_inj e; simpa using this, fun e => by rw [e]⟩
theorem nodup_at {l : List Nat} (h : l.Nodup) {i j : Nat} (hi : i < l.length) (hj : j < l.length) (e : l.getD i 0 = l.getD j 0) : i = j := by
  rw [List.getD_eq_getElem?_getD, List.getD_eq_getElem?_getD, List.getElem?_eq_getElem hi, List.getElem?_eq_getElem hj] at e
  exact (List.getElem_inj h).mp e
theorem put_tab {l ns : List Nat} (h : l.Nodup) {k : Nat} (hk : k < l.length) (x : D) : putD (tabK l ns k) (.inr (S [l.getD k 0])) x = tabK l ns k ++ [(ch (l.getD k 0), x)] := by
  unfold putD
  rw [if_neg]
  · rfl
  · intro z
    obtain ⟨e, he, hk2⟩ := List.any_eq_true.mp z
    obtain ⟨i, hi, rfl⟩ := List.mem_map.mp he
    have hi := List.mem_range.mp hi
    unfold ent at hk2
    rw [isKey_ch, decide_eq_true_eq] at hk2
    have := nodup_at h hk (by omega) hk2
    omega
theorem get_tab {l ns : List Nat} (h : l.Nodup) {j : Nat} (hj : j < l.length) : ∀ k, k ≤ l.length → getD' (tabK l ns k) (.inr (S [l.getD j 0])) = if j < k then some (ent l ns j).2 else none
  | 0, _ => rfl
  | k + 1, hk => by
    have ih := get_tab (ns := ns) h hj k (by omega)
    unfold getD' tabK at ih ⊢
    rw [List.range_succ, List.map_append, List.find?_append]
    by_cases hjk : j < k
    · rw [if_pos hjk] at ih
      rw [if_pos (by omega)]
      cases e : List.find? (fun e => isKey (.inr (S [l.getD j 0])) e.1) ((List.range k).map (ent l ns)) with
      | none => rw [e] at ih; cases ih
      | some y => rw [e] at ih; exact ih
    · rw [if_neg hjk] at ih
      cases e : List.find? (fun e => isKey (.inr (S [l.getD j 0])) e.1) ((List.range k).map (ent l ns)) with
      | some y => rw [e] at ih; cases ih
      | none =>
        rw [Option.none_or, List.map_cons, List.map_nil, List.find?_cons]
        show Option.map _ (match isKey _ (ch (l.getD k 0)) with | true => _ | false => _) = _
        rw [isKey_ch]
        by_cases e2 : j = k
        · subst e2
          rw [decide_eq_true rfl, if_pos (by omega)]
          rfl
        · rw [decide_eq_false (fun z => e2 (nodup_at h hj (by omega) z)), if_neg (by omega)]
          rfl
theorem sum_take_le (ns : List Nat) : ∀ j, (ns.take j).sum ≤ ns.sum := by
  induction ns with
  | nil => intro j; simp
  | cons n ns ih =>
    intro j
    cases j with
    | zero => simp
    | succ j =>
      have := ih j
      simp only [List.take_succ_cons, List.sum_cons]
      omega
theorem sum_take_succ : ∀ (ns : List Nat) (j : Nat), (ns.take (j + 1)).sum = (ns.take j).sum + ns.getD j 0
  | [], j => by simp
  | n :: ns, 0 => by simp
  | n :: ns, j + 1 => by
    rw [List.take_succ_cons, List.take_succ_cons, List.sum_cons, List.sum_cons, sum_take_succ ns j, List.getD_cons_succ]
    omega
theorem sum_take_mono (ns : List Nat) {i j : Nat} (h : i ≤ j) : (ns.take i).sum ≤ (ns.take j).sum := by
  induction j with
  | zero => rw [Nat.le_zero.mp h]; exact Nat.le_refl _
  | succ j ih =>
    by_cases e : i = j + 1
    · rw [e]; exact Nat.le_refl _
    · have := ih (by omega)
      have := sum_take_succ ns j
      omega
theorem map_mid {α : Type} {f : α → D} {l : List α} {pre post : List D} {x : D} (z : α) (e : l.map f = pre ++ x :: post) : pre.length < l.length ∧ x = f (l.getD pre.length z) := by
  have h := congrArg List.length e
  rw [List.length_map, List.length_append, List.length_cons] at h
  have h1 : pre.length < l.length := by omega
  refine ⟨h1, ?_⟩
  have h2 : (l.map f)[pre.length]? = some x := by rw [e]; simp
  rw [List.getElem?_map, get_some (z := z) h1] at h2
  exact (Option.some.inj h2).symm
theorem ixN_nat {n k : Nat} {i : Int} (h : i = k) (hk : k < n) : ixN n i = some k := by
  subst h
  unfold ixN
  rw [if_pos (by omega), Int.toNat_natCast, if_pos (by omega)]
theorem idx_at {l : List Nat} {c : Nat} (h : c ∈ l) : l.idxOf c < l.length ∧ l.getD (l.idxOf c) 0 = c := by
  have h1 := List.idxOf_lt_length_of_mem h
  refine ⟨h1, ?_⟩
  rw [List.getD_eq_getElem?_getD, List.getElem?_eq_getElem h1]
  exact List.getElem_idxOf h1
theorem set_at {M : List Nat} {p v q : Nat} (hp : p < M.length) : (M.set p v)[q]? = if q = p then some v else M[q]? := by
  rw [List.getElem?_set]
  by_cases h : p = q
  · subst h
    rw [if_pos rfl, if_pos rfl, if_pos hp]
  · rw [if_neg h, if_neg (fun z => h z.symm)]
theorem botOf_succ {l ns b : List Nat} {u : Nat} (hu : u < b.length) : botOf l ns b (u + 1) = botOf l ns b u + lenOf l ns (b.getD u 0) := by
  unfold botOf
  rw [List.take_add_one, get_some (z := 0) hu, List.map_append, List.sum_append]
  simp
theorem apart {l ns b : List Nat} (hl : l.Nodup) (hb : b.Perm l) (hn : ns.length = l.length) {u v : Nat} (hu : u < b.length) (hv : v < b.length) (h : u ≠ v) :
    topOf l ns (b.getD u 0) + lenOf l ns (b.getD u 0) ≤ topOf l ns (b.getD v 0) ∨ topOf l ns (b.getD v 0) + lenOf l ns (b.getD v 0) ≤ topOf l ns (b.getD u 0) := by
  have mem : ∀ w, w < b.length → b.getD w 0 ∈ l := fun w hw => hb.mem_iff.mp (by rw [List.getD_eq_getElem?_getD, List.getElem?_eq_getElem hw]; exact List.getElem_mem hw)
  obtain ⟨_, e1⟩ := idx_at (mem u hu)
  obtain ⟨_, e2⟩ := idx_at (mem v hv)
  unfold topOf lenOf
  rw [← sum_take_succ, ← sum_take_succ]
  rcases Nat.lt_trichotomy (l.idxOf (b.getD u 0)) (l.idxOf (b.getD v 0)) with h1 | h1 | h1
  · exact .inl (sum_take_mono ns h1)
  · exfalso
    rw [h1, e2] at e1
    exact h (nodup_at (hb.nodup_iff.mpr hl) hu hv e1.symm)
  · exact .inr (sum_take_mono ns h1)
def r_places : SR :=
  (sSeq (sAsgN 3 rDNew)
  (sSeq (sAsg (rC (.int 0)) (gN 4))
  (sSeq (sFor (iR rng1 (rConsA (rOpA fLen (rConsB (rVarB 0) rNilB)) rNilA)) (gN 5) (sSeq (sDPutR 3 (rB (rOp2 fIx (rVarB 0) (rVarB 5))) (rTup (rConsA (rVar 4) (rConsA (rOp2 fIx (rVarB 2) (rVarB 5)) rNilA))))
   (sAug 4 (rB (rOp2 fIx (rVarB 2) (rVarB 5))) (fun i j => i + j))))
  (sSeq (sAsgN 6 (rLc (iR rng1 (rConsA (rVar 4) rNilA)) (gN 5) rYes (rC (.int 0)) [5]))
  (sSeq (sAsg (rC (.int 0)) (gN 4))
  (sSeq (sFor (iX (rVar 1)) (gN 7) (sSeq (sAsg (rDGet (rVarB 3) (rVarB 7)) (gT 2 (gConsR (gN 8) (gConsR (gN 9) gNilR))))
   (sSeq (sFor (iR rng1 (rConsA (rVar 9) rNilA)) (gN 5) (sSetL 6 (rOp2 fAdd (rVarB 4) (rVarB 5)) (rB (rOp2 fAdd (rVarB 8) (rVarB 5)))))
    (sAug 4 (rVarB 9) (fun i j => i + j)))))
  (sRet (rVar 6))))))))
def m_places : List D → Option D := mOf 10 3 r_places
theorem places_ok {l b ns : List Nat} (hl : l.Nodup) (hb : b.Perm l) (hn : ns.length = l.length) (h100 : l.length ≤ 1000) (hs : ns.sum ≤ 1000000) :
    ∃ M : List Nat, m_places [.str (S l), .str (S b), dN ns] = some (dN M) ∧ M.length = ns.sum ∧ ∀ u, u < b.length → ∀ i, i < lenOf l ns (b.getD u 0) → M[topOf l ns (b.getD u 0) + i]? = some (botOf l ns b u + i) := by
  suffices hh : Ok (r_places [.fz (.str (S l)), .fz (.str (S b)), .fz (dN ns), .un, .un, .un, .un, .un, .un, .un]) fun o => ∃ d M, o = .rt (dN M) d ∧ M.length = ns.sum ∧ ∀ u, u < b.length → ∀ i, i < lenOf l ns (b.getD u 0) → M[topOf l ns (b.getD u 0) + i]? = some (botOf l ns b u + i) by
    obtain ⟨o, e, d, M, rfl, h1, h2⟩ := hh
    exact ⟨M, mOf_rt rfl ⟨_, e, d, rfl⟩, h1, h2⟩
  unfold r_places
  refine ok_nx (d1 := [.fz (.str (S l)), .fz (.str (S b)), .fz (dN ns), .ow (.dict []), .un, .un, .un, .un, .un, .un]) (by walk_at "dk") ?_
  refine ok_nx (d1 := [.fz (.str (S l)), .fz (.str (S b)), .fz (dN ns), .ow (.dict []), .fz (.int 0), .un, .un, .un, .un, .un]) (by walk_at "dk") ?_
  refine ok_cut (fun d => ∃ s5, notFd (some s5) = true ∧ noOwn (some s5) = true ∧ d = [.fz (.str (S l)), .fz (.str (S b)), .fz (dN ns), .ow (.dict (tabK l ns l.length)), .fz (.int (ns.sum : Nat)), s5, .un, .un, .un, .un]) ?_ ?_
  · refine ok_for (iR1N (r := l.length) (by walk_at "dk"; try rfl) (by omega)) (fun pre post d => ∃ s5, notFd (some s5) = true ∧ noOwn (some s5) = true ∧ d = [.fz (.str (S l)), .fz (.str (S b)), .fz (dN ns), .ow (.dict (tabK l ns pre.length)), .fz (.int ((ns.take pre.length).sum : Nat)), s5, .un, .un, .un, .un]) ?_ ?_ ?_
    · exact ⟨.un, rfl, rfl, rfl⟩
    · rintro pre x post d e ⟨s5, n5, o5, rfl⟩
      obtain ⟨rfl, hk⟩ := rowI_mid e
      refine ⟨[.fz (.str (S l)), .fz (.str (S b)), .fz (dN ns), .ow (.dict (tabK l ns pre.length)), .fz (.int ((ns.take pre.length).sum : Nat)), .fz (.int (pre.length : Nat)), .un, .un, .un, .un], by walk_at "dk"; rw [if_pos n5], ?_⟩
      have e1 := fIx_S (l := l) (i := (pre.length : Nat)) rfl (get_some (z := 0) hk) (by omega)
      have e2 := fIx_dN (ns := ns) (i := (pre.length : Nat)) rfl (get_some (z := 0) (by omega))
      refine ok_nx (d1 := [.fz (.str (S l)), .fz (.str (S b)), .fz (dN ns), .ow (.dict (tabK l ns (pre.length + 1))), .fz (.int ((ns.take pre.length).sum : Nat)), .fz (.int (pre.length : Nat)), .un, .un, .un, .un]) ?_ ?_
      · walk_at "dk"
        rw [e2]
        walk_at "dk"
        rw [e1]
        walk_at "dk"
        rw [put_tab hl hk, if_pos (by unfold tabK; rw [List.length_map, List.length_range, sizeL]; omega)]
        unfold tabK
        rw [List.range_succ, List.map_append]
        rfl
      · refine ok_eq (o := .nx [.fz (.str (S l)), .fz (.str (S b)), .fz (dN ns), .ow (.dict (tabK l ns (pre.length + 1))), .fz (.int ((ns.take (pre.length + 1)).sum : Nat)), .fz (.int (pre.length : Nat)), .un, .un, .un, .un]) ?_ ?_
        · walk_at "dk"
          rw [e2]
          walk_at "dk"
          rw [sum_take_succ, Int.natCast_add]
        · exact ⟨_, rfl, rfl, by rw [List.length_append]; rfl⟩
    · rintro d ⟨s5, n5, o5, rfl⟩
      refine ⟨_, rfl, s5, n5, o5, ?_⟩
      rw [rowI_len, ← hn, List.take_length]
  rintro _ ⟨s5, n5, o5, rfl⟩
  refine ok_nx (d1 := [.fz (.str (S l)), .fz (.str (S b)), .fz (dN ns), .ow (.dict (tabK l ns l.length)), .fz (.int (ns.sum : Nat)), s5, .ow (dN (List.replicate ns.sum 0)), .un, .un, .un]) ?_ ?_
  · unfold sAsgN
    rw [lc_map1 (xs := rowI 0 1 ns.sum) (d1 := [.fz (.str (S l)), .fz (.str (S b)), .fz (dN ns), .ow (.dict (tabK l ns l.length)), .fz (.int (ns.sum : Nat)), s5, .un, .un, .un, .un]) (fun _ => .int 0) (iR1N (by walk_at "dk"; try rfl) (by omega)) (by show 5 < 10; omega) o5 (fun x _ => by walk_at "dk") (by rw [rowI_len]; omega)]
    have : (rowI 0 1 ns.sum).map (fun _ => PyData.int 0) = (List.replicate ns.sum 0).map fun (n : Nat) => PyData.int (n : Int) := by
      rw [List.map_const', rowI_len, List.map_replicate]
      rfl
    rw [this]
    rfl
  refine ok_nx (d1 := [.fz (.str (S l)), .fz (.str (S b)), .fz (dN ns), .ow (.dict (tabK l ns l.length)), .fz (.int 0), s5, .ow (dN (List.replicate ns.sum 0)), .un, .un, .un]) (by walk_at "dk") ?_
  refine ok_seq (ok_for (xs := b.map ch) (d1 := [.fz (.str (S l)), .fz (.str (S b)), .fz (dN ns), .ow (.dict (tabK l ns l.length)), .fz (.int 0), s5, .ow (dN (List.replicate ns.sum 0)), .un, .un, .un]) (by walk_at "dk"; try rfl)
    (fun pre post d => ∃ s5 s7 s8 s9 M, notFd (some s5) = true ∧ notFd (some s7) = true ∧ notFd (some s8) = true ∧ notFd (some s9) = true ∧ d = [.fz (.str (S l)), .fz (.str (S b)), .fz (dN ns), .ow (.dict (tabK l ns l.length)), .fz (.int (botOf l ns b pre.length : Nat)), s5, .ow (dN M), s7, s8, s9] ∧
      M.length = ns.sum ∧ ∀ u, u < pre.length → ∀ i, i < lenOf l ns (b.getD u 0) → M[topOf l ns (b.getD u 0) + i]? = some (botOf l ns b u + i)) ?_ ?_ ?_)
  · exact ⟨s5, .un, .un, .un, List.replicate ns.sum 0, n5, rfl, rfl, rfl, rfl, List.length_replicate, fun u hu => absurd hu (Nat.not_lt_zero _)⟩
  · rintro pre x post d e ⟨s5, s7, s8, s9, M, n5, n7, n8, n9, rfl, hM, hI⟩
    obtain ⟨hu, rfl⟩ := map_mid 0 e
    generalize hc : b.getD pre.length 0 = c
    have hcl : c ∈ l := hb.mem_iff.mp (by rw [← hc, List.getD_eq_getElem?_getD, List.getElem?_eq_getElem hu]; exact List.getElem_mem hu)
    obtain ⟨hj, ej⟩ := idx_at hcl
    have eg := get_tab (ns := ns) hl hj l.length (Nat.le_refl _)
    rw [ej, if_pos hj] at eg
    have eg : getD' (tabK l ns l.length) (.inr (S [c])) = some (.tuple [.int (topOf l ns c : Nat), .int (lenOf l ns c : Nat)]) := eg
    have hle : topOf l ns c + lenOf l ns c ≤ ns.sum := by
      unfold topOf lenOf
      rw [← sum_take_succ]
      exact sum_take_le ns _
    refine ⟨[.fz (.str (S l)), .fz (.str (S b)), .fz (dN ns), .ow (.dict (tabK l ns l.length)), .fz (.int (botOf l ns b pre.length : Nat)), s5, .ow (dN M), .fz (ch c), s8, s9], by walk_at "dk"; rw [if_pos n7], ?_⟩
    refine ok_nx (d1 := [.fz (.str (S l)), .fz (.str (S b)), .fz (dN ns), .ow (.dict (tabK l ns l.length)), .fz (.int (botOf l ns b pre.length : Nat)), s5, .ow (dN M), .fz (ch c), .fz (.int (topOf l ns c : Nat)), .fz (.int (lenOf l ns c : Nat))]) (by
      walk_at "dk"
      rw [eg]
      walk_at "dk"
      rw [if_pos n8]
      walk_at "dk"
      rw [if_pos n9]
      try walk_at "dk") ?_
    refine ok_cut (fun d => ∃ s5 M', notFd (some s5) = true ∧ d = [.fz (.str (S l)), .fz (.str (S b)), .fz (dN ns), .ow (.dict (tabK l ns l.length)), .fz (.int (botOf l ns b pre.length : Nat)), s5, .ow (dN M'), .fz (ch c), .fz (.int (topOf l ns c : Nat)), .fz (.int (lenOf l ns c : Nat))] ∧ M'.length = ns.sum ∧ (∀ i, i < lenOf l ns c → M'[topOf l ns c + i]? = some (botOf l ns b pre.length + i)) ∧ ∀ p, (p < topOf l ns c ∨ topOf l ns c + lenOf l ns c ≤ p) → M'[p]? = M[p]?) ?_ ?_
    · refine ok_for (iR1N (r := lenOf l ns c) (by walk_at "dk"; try rfl) (by omega)) (fun pre2 post2 d => ∃ s5 M', notFd (some s5) = true ∧ d = [.fz (.str (S l)), .fz (.str (S b)), .fz (dN ns), .ow (.dict (tabK l ns l.length)), .fz (.int (botOf l ns b pre.length : Nat)), s5, .ow (dN M'), .fz (ch c), .fz (.int (topOf l ns c : Nat)), .fz (.int (lenOf l ns c : Nat))] ∧ M'.length = ns.sum ∧ (∀ i, i < pre2.length → M'[topOf l ns c + i]? = some (botOf l ns b pre.length + i)) ∧ ∀ p, (p < topOf l ns c ∨ topOf l ns c + lenOf l ns c ≤ p) → M'[p]? = M[p]?) ?_ ?_ ?_
      · exact ⟨s5, M, n5, rfl, hM, fun i hi => absurd hi (Nat.not_lt_zero _), fun p _ => rfl⟩
      · rintro pre2 x2 post2 d e2 ⟨s5, M', n5, rfl, hM', h3, h4⟩
        obtain ⟨rfl, hk⟩ := rowI_mid e2
        refine ⟨[.fz (.str (S l)), .fz (.str (S b)), .fz (dN ns), .ow (.dict (tabK l ns l.length)), .fz (.int (botOf l ns b pre.length : Nat)), .fz (.int (pre2.length : Nat)), .ow (dN M'), .fz (ch c), .fz (.int (topOf l ns c : Nat)), .fz (.int (lenOf l ns c : Nat))], by walk_at "dk"; rw [if_pos n5], ?_⟩
        refine ok_eq (o := .nx [.fz (.str (S l)), .fz (.str (S b)), .fz (dN ns), .ow (.dict (tabK l ns l.length)), .fz (.int (botOf l ns b pre.length : Nat)), .fz (.int (pre2.length : Nat)), .ow (dN (M'.set (topOf l ns c + pre2.length) (botOf l ns b pre.length + pre2.length))), .fz (ch c), .fz (.int (topOf l ns c : Nat)), .fz (.int (lenOf l ns c : Nat))]) ?_ ?_
        · walk_at "dk"
          rw [ixN_nat (k := topOf l ns c + pre2.length) (by omega) (by omega)]
          walk_at "dk"
          rw [← Int.natCast_add, ← List.map_set (f := fun (n : Nat) => PyData.int (n : Int))]
        · refine ⟨_, _, rfl, rfl, by rw [List.length_set]; exact hM', fun i hi => ?_, fun p hp => ?_⟩
          · rw [List.length_append, List.length_singleton] at hi
            rw [set_at (by omega)]
            by_cases h : i = pre2.length
            · rw [if_pos (by omega), h]
            · rw [if_neg (by omega)]
              exact h3 i (by omega)
          · rw [set_at (by omega), if_neg (by omega)]
            exact h4 p hp
      · rintro d ⟨s5, M', n5, rfl, hM', h3, h4⟩
        exact ⟨_, rfl, s5, M', n5, rfl, hM', fun i hi => h3 i (by rw [rowI_len]; exact hi), h4⟩
    rintro _ ⟨s5, M', n5, rfl, hM', h3, h4⟩
    refine ok_eq (o := .nx [.fz (.str (S l)), .fz (.str (S b)), .fz (dN ns), .ow (.dict (tabK l ns l.length)), .fz (.int (botOf l ns b (pre.length + 1) : Nat)), s5, .ow (dN M'), .fz (ch c), .fz (.int (topOf l ns c : Nat)), .fz (.int (lenOf l ns c : Nat))]) ?_ ?_
    · walk_at "dk"
      rw [botOf_succ hu, hc, Int.natCast_add]
    · refine ⟨s5, _, _, _, M', n5, rfl, rfl, rfl, by rw [List.length_append]; rfl, hM', fun u hu2 i hi => ?_⟩
      rw [List.length_append, List.length_singleton] at hu2
      by_cases h : u = pre.length
      · subst h
        rw [hc] at hi ⊢
        exact h3 i hi
      · have ap := apart hl hb hn (u := u) (v := pre.length) (by omega) hu h
        rw [hc] at ap
        rw [h4 _ (by omega)]
        exact hI u (by omega) i hi
  · rintro d ⟨s5, s7, s8, s9, M, n5, n7, n8, n9, rfl, hM, hI⟩
    rw [List.length_map] at hI
    exact ok_eq (by walk_at "dk"; try rfl) ⟨_, M, rfl, hM, hI⟩
/-! ### rounds -/
def itr (f : Nat → Nat) (p : Nat) : Nat → Nat
  | 0 => p
  | i + 1 => f (itr f p i)
def r_round : SR :=
  (sSeq (sAsgN 2 (rLst (rConsA (rVar 1) rNilA)))
  (sSeq (sFor (iR rng1 (rConsA (rOpA fLen (rConsB (rVarB 0) rNilB)) rNilA)) (gN 3) (sSeq (sAsg (rOp2 fIx (rVarB 0) (rB (rOp2 fIx (rVarB 2) (rB (rOp1 fNeg (rB (rC (.int 1)))))))) (gN 4))
   (sSeq (sIf (rT (rB (rOp2 fEq (rVarB 4) (rVarB 1)))) (sRet (rVar 2)) sNext)
   (sApp 2 (rVar 4)))))
  (sRet (rVar 2))))
def m_round : List D → Option D := mOf 5 2 r_round
def stepL (M : List Nat) (p : Nat) : Nat := M.getD p 0
theorem itr_lt {f : Nat → Nat} {n p : Nat} (hp : p < n) (hf : ∀ x, x < n → f x < n) : ∀ i, itr f p i < n
  | 0 => hp
  | i + 1 => hf _ (itr_lt hp hf i)
theorem itr_back {f : Nat → Nat} {n p : Nat} (hp : p < n) (hf : ∀ x, x < n → f x < n) (inj : ∀ x y, x < n → y < n → f x = f y → x = y) : ∀ i j, i ≤ j → itr f p i = itr f p j → itr f p (j - i) = p
  | 0, j, _, e => by rw [Nat.sub_zero, ← e]; rfl
  | i + 1, j + 1, h, e => by
    have := itr_back hp hf inj i j (by omega) (inj _ _ (itr_lt hp hf i) (itr_lt hp hf j) e)
    rw [Nat.add_sub_add_right]
    exact this
theorem atI_last {α : Type} (xs : List α) (x : α) : atI (xs ++ [x]) (-1) = some x := by
  unfold atI ixN
  rw [if_neg (by omega), if_pos (by rw [List.length_append, List.length_singleton]; omega)]
  show (xs ++ [x])[_]? = _
  rw [show (-1 + ((xs ++ [x]).length : Nat) : Int).toNat = xs.length by rw [List.length_append, List.length_singleton]; omega]
  simp
theorem fIx_last (xs : List D) (x : D) : fIx (.list (xs ++ [x])) (.int (-1)) = some x := atI_last xs x
theorem round_ok {M : List Nat} (hM : ∀ x, x < M.length → stepL M x < M.length) (inj : ∀ x y, x < M.length → y < M.length → stepL M x = stepL M y → x = y) (h6 : M.length ≤ 1000000) {p : Nat} (hp : p < M.length) :
    ∃ r, 1 ≤ r ∧ r ≤ M.length ∧ m_round [dN M, .int p] = some (dN ((List.range r).map (itr (stepL M) p))) ∧ itr (stepL M) p r = p ∧ ∀ i, 0 < i → i < r → itr (stepL M) p i ≠ p := by
  have lt := itr_lt hp hM
  suffices hh : Ok (r_round [.fz (dN M), .fz (.int p), .un, .un, .un]) fun o => ∃ d r, 1 ≤ r ∧ r ≤ M.length ∧ o = .rt (dN ((List.range r).map (itr (stepL M) p))) d ∧ itr (stepL M) p r = p ∧ ∀ i, 0 < i → i < r → itr (stepL M) p i ≠ p by
    obtain ⟨o, e, d, r, h1, h2, rfl, h3⟩ := hh
    exact ⟨r, h1, h2, mOf_rt rfl ⟨_, e, d, rfl⟩, h3⟩
  unfold r_round
  refine ok_nx (d1 := [.fz (dN M), .fz (.int p), .ow (dN ((List.range 1).map (itr (stepL M) p))), .un, .un]) (by walk_at "dk"; try rfl) ?_
  refine ok_seq (ok_for (iR1N (r := M.length) (by walk_at "dk"; try rfl) (by omega)) (fun pre post d => ∃ s3 s4, notFd (some s3) = true ∧ notFd (some s4) = true ∧ d = [.fz (dN M), .fz (.int p), .ow (dN ((List.range (pre.length + 1)).map (itr (stepL M) p))), s3, s4] ∧ ∀ i, 0 < i → i ≤ pre.length → itr (stepL M) p i ≠ p) ?_ ?_ ?_)
  · exact ⟨.un, .un, rfl, rfl, rfl, fun i h0 h1 => absurd h1 (by show ¬ i ≤ 0; omega)⟩
  · rintro pre x post d e ⟨s3, s4, n3, n4, rfl, hI⟩
    obtain ⟨rfl, hk⟩ := rowI_mid e
    refine ⟨[.fz (dN M), .fz (.int p), .ow (dN ((List.range (pre.length + 1)).map (itr (stepL M) p))), .fz (.int (pre.length : Nat)), s4], by walk_at "dk"; rw [if_pos n3], ?_⟩
    have e1 : fIx (dN ((List.range (pre.length + 1)).map (itr (stepL M) p))) (.int (-1)) = some (.int (itr (stepL M) p pre.length : Nat)) := by
      rw [List.range_succ, List.map_append, dN, List.map_append]
      exact fIx_last _ _
    refine ok_nx (d1 := [.fz (dN M), .fz (.int p), .ow (dN ((List.range (pre.length + 1)).map (itr (stepL M) p))), .fz (.int (pre.length : Nat)), .fz (.int (itr (stepL M) p (pre.length + 1) : Nat))]) ?_ ?_
    · walk_at "dk"
      rw [e1]
      walk_at "dk"
      rw [fIx_dN (x := itr (stepL M) p (pre.length + 1)) rfl (get_some (z := 0) (lt pre.length))]
      walk_at "dk"
      rw [if_pos n4]
      try walk_at "dk"
    · by_cases h : itr (stepL M) p (pre.length + 1) = p
      · refine ok_seq (ok_if (k := true) (by walk_at "dk"; rw [h, decide_eq_true rfl]) (fun _ => ok_eq (o := .rt (dN ((List.range (pre.length + 1)).map (itr (stepL M) p))) _) (by walk_at "dk"; try rfl) ⟨_, pre.length + 1, by omega, by omega, rfl, h, fun i h0 h1 => hI i h0 (by omega)⟩) (fun z => by cases z))
      · refine ok_nx (d1 := [.fz (dN M), .fz (.int p), .ow (dN ((List.range (pre.length + 1)).map (itr (stepL M) p))), .fz (.int (pre.length : Nat)), .fz (.int (itr (stepL M) p (pre.length + 1) : Nat))]) ?_ ?_
        · unfold sIf
          walk_at "dk"
          rw [decide_eq_false (by omega)]
          rfl
        · refine ok_eq (o := .nx [.fz (dN M), .fz (.int p), .ow (dN ((List.range (pre.length + 1 + 1)).map (itr (stepL M) p))), .fz (.int (pre.length : Nat)), .fz (.int (itr (stepL M) p (pre.length + 1) : Nat))]) ?_ ?_
          · walk_at "dk"
            rw [List.range_succ (n := pre.length + 1), List.map_append, dN_app]
            rfl
          · refine ⟨_, _, rfl, rfl, by rw [List.length_append]; rfl, fun i h0 h1 => ?_⟩
            rw [List.length_append, List.length_singleton] at h1
            by_cases h2 : i = pre.length + 1
            · rw [h2]
              exact h
            · exact hI i h0 (by omega)
  · rintro d ⟨s3, s4, n3, n4, rfl, hI⟩
    exfalso
    rw [rowI_len] at hI
    obtain ⟨i, j, hij, hj, e⟩ := pigeon M.length (itr (stepL M) p) fun i _ => lt i
    exact hI (j - i) (by omega) (by omega) (itr_back hp hM inj i j (by omega) e)
end DK
end
section
set_option maxRecDepth 100000
set_option maxHeartbeats 1000000
namespace DK
open PySem L2
local macro_rules | `(tactic| walk_at "dk") => `(tactic| simp (disch := first | assumption | omega) only [sAsg, sAsgN, sRet, sDrop, sNext, sApp, sExt, sAug, sSetL, sDPutR, sFS, sFA, sPar, rVar, rVarB, rC, rB, rOp2, rOp2N, rOp1, rOpA, rOpAN, rOpM, rOpM1, rLst, rTup, rSl, rSlN, rPart, rNoPart, rNilA, rConsA, rNilB, rConsB, rT, rAndT, rOrT, rNotT, rIf, rAndV, rOrV, rNotV, rChain, rYes, rDNew, rDGet, rPopI, rLrg, iX, iE, iZ, gN, gT, gConsR, gNilR, bd_some, ob_some, BV.get, slotD, getAll, isB, isL1, isL2, notFd_un, notFd_fz, notFd_ow, noOwn_un, noOwn_fz, noOwn_nil, wipeD, backD, itemsOf, fSub, fNeg, fInt, fAbs, fList, fLen_list, fLen_tuple, fAdd_int, fCmp, keyOf, oneCh, List.getElem?_cons_zero, List.getElem?_cons_succ, List.set_cons_zero, List.set_cons_succ, List.length_cons, List.length_nil, List.map_cons, List.map_nil, List.append_nil, List.nil_append, if_true, if_false, reduceIte, Bool.not_true, Bool.not_false, and_self, and_true, true_and, reduceCtorEq, rFI, rFL, rFN, fdAt, get1, get2, get3, put1, put2, put3, fMul_ok, fMod_pos, fDiv_pos, fEq_int, fNe_int, ltI, leI, gtI, geI, fLen_S, fAdd_S, fAdd_list, fSum_dI, fPow18, rCallF, rCall, rCallB, flatD, Option.map_some, Option.map_none, okT_str, okT_list, okT_dict, size_le, Nat.reduceAdd, Nat.reduceLT, List.length_map, List.length_range, List.length_append, size_lt])
theorem sAsgCall {mr : List D → Option D} {a : AR} {i : Nat} {d d1 : List Slot} {xs : List D} {y : D} (ha : a d = some (xs, d1)) (hm : mr xs = some y) (hi : notFd d1[i]? = true) : sAsg (rCall mr a) (gN i) d = some (.nx (d1.set i (.fz y))) := by
  unfold sAsg rCall gN
  rw [ha]
  simp only [bd_some, ob_some, hm, hi, if_true]
theorem fNe_self {x : D} (h : SeqAt.shaped x = true) : fNe x x = some (.bool false) := by
  unfold fNe
  rw [if_pos ⟨h, h⟩, SeqAt.eqv_refl x (SeqAt.canLay_of_shaped h)]
  rfl
theorem fEq_self {x : D} (h : SeqAt.shaped x = true) : fEq x x = some (.bool true) := by
  unfold fEq
  rw [if_pos ⟨h, h⟩, SeqAt.eqv_refl x (SeqAt.canLay_of_shaped h)]
theorem dN_dI (ns : List Nat) : dN ns = dI (ns.map fun (n : Nat) => (n : Int)) := by
  unfold dN dI
  rw [List.map_map]
  rfl
theorem shaped_dN (ns : List Nat) : SeqAt.shaped (dN ns) = true := by
  rw [dN_dI]
  exact shaped_dI _
theorem any_dN (i : Nat) : ∀ ns : List Nat, ((ns.map fun (n : Nat) => PyData.int (n : Int)).any fun z => PyData.eqv z (.int (i : Int))) = decide (i ∈ ns)
  | [] => rfl
  | n :: ns => by
    rw [List.map_cons, List.any_cons, any_dN i ns]
    show ((n : Int) == (i : Int) || _) = _
    by_cases h : i = n
    · subst h
      simp
    · have : ¬ (n : Int) = (i : Int) := by omega
      simp [h, this]
theorem fIn_dN (neg : Bool) (i : Nat) (ns : List Nat) : fIn neg (.int (i : Int)) (dN ns) = some (.bool (if neg then !decide (i ∈ ns) else decide (i ∈ ns))) := by
  show fInD neg (.int (i : Int)) (dN ns) = _
  unfold fInD dN
  dsimp only
  rw [if_pos ⟨rfl, shaped_dN ns⟩, any_dN]
def r_rounds : SR :=
  (sSeq (sAsgN 1 (rLst rNilA))
  (sSeq (sAsg (rLst rNilA) (gN 2))
  (sSeq (sFor (iR rng1 (rConsA (rOpA fLen (rConsB (rVarB 0) rNilB)) rNilA)) (gN 3) (sIf (rT (rB (rOp2 (fIn true) (rVarB 3) (rVarB 2)))) (sSeq (sAsg (rCall m_round (rConsA (rVar 0) (rConsA (rVar 3) rNilA))) (gN 4))
    (sSeq (sApp 1 (rVar 4))
    (sAsg (rOp2 fAdd (rVarB 2) (rVarB 4)) (gN 2)))) sNext))
  (sRet (rVar 1)))))
def m_rounds : List D → Option D := mOf 5 1 r_rounds
/-- a round, from its first place -/
def isOrb (M o : List Nat) (i : Nat) : Prop := ∃ r, 1 ≤ r ∧ r ≤ M.length ∧ o = (List.range r).map (itr (stepL M) i) ∧ itr (stepL M) i r = i ∧ ∀ k, 0 < k → k < r → itr (stepL M) i k ≠ i
theorem isOrb.len {M o : List Nat} {i : Nat} (h : isOrb M o i) : 1 ≤ o.length ∧ o.length ≤ M.length := by
  obtain ⟨r, h1, h2, rfl, _⟩ := h
  rw [List.length_map, List.length_range]
  exact ⟨h1, h2⟩
theorem isOrb.mem {M o : List Nat} {i : Nat} (h : isOrb M o i) : i ∈ o := by
  obtain ⟨r, h1, h2, rfl, _⟩ := h
  exact List.mem_map.mpr ⟨0, List.mem_range.mpr h1, rfl⟩
theorem rounds_ok {M : List Nat} (hM : ∀ x, x < M.length → stepL M x < M.length) (inj : ∀ x y, x < M.length → y < M.length → stepL M x = stepL M y → x = y) (h6 : M.length ≤ 1000) :
    ∃ outs : List (List Nat), m_rounds [dN M] = some (.list (outs.map dN)) ∧ (∀ p, p < M.length → p ∈ outs.flatten) ∧ (∀ o ∈ outs, ∃ i, i < M.length ∧ isOrb M o i) ∧ (0 < M.length → ∃ o rest, outs = o :: rest ∧ isOrb M o 0) := by
  suffices hh : Ok (r_rounds [.fz (dN M), .un, .un, .un, .un]) fun oo => ∃ d outs, oo = .rt (.list (outs.map dN)) d ∧ (∀ p, p < M.length → p ∈ outs.flatten) ∧ (∀ o ∈ outs, ∃ i, i < M.length ∧ isOrb M o i) ∧ (0 < M.length → ∃ o rest, outs = o :: rest ∧ isOrb M o 0) by
    obtain ⟨o, e, d, outs, rfl, h3⟩ := hh
    exact ⟨outs, mOf_rt rfl ⟨_, e, d, rfl⟩, h3⟩
  unfold r_rounds
  have hr := fun (p : Nat) (hp : p < M.length) => round_ok hM inj (by omega) hp
  generalize m_round = mr at hr ⊢
  refine ok_nx (d1 := [.fz (dN M), .ow (.list []), .un, .un, .un]) (by walk_at "dk"; try rfl) ?_
  refine ok_nx (d1 := [.fz (dN M), .ow (.list []), .fz (dN []), .un, .un]) (by walk_at "dk"; try rfl) ?_
  refine ok_seq (ok_for (iR1N (r := M.length) (by walk_at "dk"; try rfl) (by omega)) (fun pre post d => ∃ s3 s4 outs, notFd (some s3) = true ∧ notFd (some s4) = true ∧ d = [.fz (dN M), .ow (.list (outs.map dN)), .fz (dN outs.flatten), s3, s4] ∧ outs.length ≤ pre.length ∧ outs.flatten.length ≤ pre.length * M.length ∧ (∀ p, p < pre.length → p ∈ outs.flatten) ∧ (∀ o ∈ outs, ∃ i, i < M.length ∧ isOrb M o i) ∧ (0 < pre.length → ∃ o rest, outs = o :: rest ∧ isOrb M o 0)) ?_ ?_ ?_)
  · exact ⟨.un, .un, [], rfl, rfl, rfl, Nat.le_refl _, Nat.zero_le _, fun p h => absurd h (Nat.not_lt_zero _), fun o h => (by cases h), fun h => absurd h (Nat.not_lt_zero _)⟩
  · rintro pre x post d e ⟨s3, s4, outs, n3, n4, rfl, hn, hl, hp, ho, h0⟩
    obtain ⟨rfl, hk⟩ := rowI_mid e
    have hmul : pre.length * M.length ≤ 1000 * 1000 := Nat.mul_le_mul (by omega) h6
    refine ⟨[.fz (dN M), .ow (.list (outs.map dN)), .fz (dN outs.flatten), .fz (.int (pre.length : Nat)), s4], by walk_at "dk"; rw [if_pos n3], ?_⟩
    refine ok_if (k := !decide (pre.length ∈ outs.flatten)) (by walk_at "dk"; rw [fIn_dN]; walk_at "dk"; rfl) (fun h => ?_) (fun h => ?_)
    · have hin : ¬ pre.length ∈ outs.flatten := by simpa using h
      obtain ⟨r, r1, r2, er, e2, e3⟩ := hr _ hk
      have orb : isOrb M ((List.range r).map (itr (stepL M) pre.length)) pre.length := ⟨r, r1, r2, rfl, e2, e3⟩
      generalize (List.range r).map (itr (stepL M) pre.length) = o at er orb
      have lo := orb.len
      refine ok_nx (d1 := [.fz (dN M), .ow (.list (outs.map dN)), .fz (dN outs.flatten), .fz (.int (pre.length : Nat)), .fz (dN o)]) (sAsgCall (xs := [dN M, .int (pre.length : Nat)]) (d1 := [.fz (dN M), .ow (.list (outs.map dN)), .fz (dN outs.flatten), .fz (.int (pre.length : Nat)), s4]) (by walk_at "dk") er n4) ?_
      refine ok_nx (d1 := [.fz (dN M), .ow (.list ((outs ++ [o]).map dN)), .fz (dN outs.flatten), .fz (.int (pre.length : Nat)), .fz (dN o)]) (by walk_at "dk"; rw [List.map_append]; rfl) ?_
      refine ok_eq (o := .nx [.fz (dN M), .ow (.list ((outs ++ [o]).map dN)), .fz (dN (outs ++ [o]).flatten), .fz (.int (pre.length : Nat)), .fz (dN o)]) ?_ ?_
      · walk_at "dk"
        rw [fAdd_list _ _ (by rw [List.length_map, List.length_map]; omega)]
        walk_at "dk"
        rw [List.flatten_append, List.flatten_cons, List.flatten_nil, List.append_nil, dN_app]
      · refine ⟨_, _, outs ++ [o], rfl, rfl, rfl, ?_, ?_, fun p h2 => ?_, fun o2 h2 => ?_, fun _ => ?_⟩
        · rw [List.length_append, List.length_append, List.length_singleton, List.length_singleton]
          omega
        · rw [List.flatten_append, List.length_append, List.flatten_cons, List.flatten_nil, List.append_nil, List.length_append, List.length_singleton, Nat.add_mul]
          omega
        · rw [List.length_append, List.length_singleton] at h2
          rw [List.flatten_append, List.flatten_cons, List.flatten_nil, List.append_nil, List.mem_append]
          by_cases h3 : p = pre.length
          · rw [h3]
            exact .inr orb.mem
          · exact .inl (hp p (by omega))
        · rcases List.mem_append.mp h2 with h3 | h3
          · exact ho o2 h3
          · rw [List.mem_singleton.mp h3]
            exact ⟨_, hk, orb⟩
        · by_cases h4 : 0 < pre.length
          · obtain ⟨o2, rest, rfl, h5⟩ := h0 h4
            exact ⟨o2, rest ++ [o], rfl, h5⟩
          · have z : pre.length = 0 := by omega
            have : outs = [] := List.eq_nil_of_length_eq_zero (by omega)
            subst this
            exact ⟨o, [], rfl, by rw [z] at orb; exact orb⟩
    · have hin : pre.length ∈ outs.flatten := by simpa using h
      refine ok_eq (o := .nx [.fz (dN M), .ow (.list (outs.map dN)), .fz (dN outs.flatten), .fz (.int (pre.length : Nat)), s4]) (by walk_at "dk"; try rfl) ⟨_, _, outs, rfl, n4, rfl, ?_, ?_, fun p h2 => ?_, ho, fun _ => ?_⟩
      · rw [List.length_append]
        omega
      · rw [List.length_append, List.length_singleton, Nat.add_mul]
        omega
      · rw [List.length_append, List.length_singleton] at h2
        by_cases h3 : p = pre.length
        · rw [h3]
          exact hin
        · exact hp p (by omega)
      · by_cases h4 : 0 < pre.length
        · exact h0 h4
        · have : outs = [] := List.eq_nil_of_length_eq_zero (by omega)
          subst this
          cases hin
  · rintro d ⟨s3, s4, outs, n3, n4, rfl, hn, hl, hp, ho, h0⟩
    rw [rowI_len] at hp h0
    exact ok_eq (o := .rt (.list (outs.map dN)) _) (by walk_at "dk"; try rfl) ⟨_, outs, rfl, hp, ho, h0⟩
end DK
end
section
set_option maxRecDepth 100000
set_option maxHeartbeats 1000000
/-! shorter reckoning: what is left in a slot, typed loops and comprehensions, single signs, order, dicts by signs, rounds -/
namespace DK
open PySem L2
local macro_rules | `(tactic| walk_at "dk") => `(tactic| simp (disch := first | assumption | omega) only [sAsg, sAsgN, sRet, sDrop, sNext, sApp, sExt, sAug, sSetL, sDPutR, sFS, sFA, sPar, rVar, rVarB, rC, rB, rOp2, rOp2N, rOp1, rOpA, rOpAN, rOpM, rOpM1, rLst, rTup, rSl, rSlN, rPart, rNoPart, rNilA, rConsA, rNilB, rConsB, rT, rAndT, rOrT, rNotT, rIf, rAndV, rOrV, rNotV, rChain, rYes, rDNew, rDGet, rPopI, rLrg, iX, iE, iZ, gN, gT, gConsR, gNilR, bd_some, ob_some, BV.get, slotD, getAll, isB, isL1, isL2, notFd_un, notFd_fz, notFd_ow, noOwn_un, noOwn_fz, noOwn_nil, wipeD, backD, itemsOf, fSub, fNeg, fInt, fAbs, fList, fLen_list, fLen_tuple, fAdd_int, fCmp, keyOf, oneCh, List.getElem?_cons_zero, List.getElem?_cons_succ, List.set_cons_zero, List.set_cons_succ, List.length_cons, List.length_nil, List.map_cons, List.map_nil, List.append_nil, List.nil_append, if_true, if_false, reduceIte, Bool.not_true, Bool.not_false, and_self, and_true, true_and, reduceCtorEq, rFI, rFL, rFN, fdAt, get1, get2, get3, put1, put2, put3, fMul_ok, fMod_pos, fDiv_pos, fEq_int, fNe_int, ltI, leI, gtI, geI, fLen_S, fAdd_S, fAdd_list, fSum_dI, fPow18, rCallF, rCall, rCallB, flatD, Option.map_some, Option.map_none, okT_str, okT_list, okT_dict, size_le, Nat.reduceAdd, Nat.reduceLT, List.length_map, List.length_range, List.length_append, size_lt])
/-- what a loop leaves in a slot -/
inductive J where
  | un
  | fz (x : D)
def J.s : J → Slot
  | .un => .un
  | .fz x => .fz x
theorem J.nf (j : J) : notFd (some j.s) = true := by cases j <;> rfl
theorem J.no (j : J) : noOwn (some j.s) = true := by cases j <;> rfl
theorem jun : J.un.s = Slot.un := rfl
theorem jfz (x : D) : (J.fz x).s = Slot.fz x := rfl
theorem ok_enx {r : Option Out} {d : List Slot} {P : Out → Prop} (h : r = some (.nx d)) (p : P (.nx d)) : Ok r P := ⟨_, h, p⟩
theorem ok_ert {r : Option Out} {d : List Slot} {x : D} {P : Out → Prop} (h : r = some (.rt x d)) (p : P (.rt x d)) : Ok r P := ⟨_, h, p⟩
/-! ### typed loops -/
theorem ok_forT {α : Type} {enc : α → D} {ys : List α} {f : IR} {g : GR} {b : SR} {d d1 : List Slot} {P : Out → Prop} (hf : f d = some (ys.map enc, d1)) (I : Nat → List Slot → Prop) (h0 : I 0 d1)
    (hs : ∀ k d, (hk : k < ys.length) → I k d → ∃ d2, g (enc ys[k]) d = some d2 ∧ Ok (b d2) fun o => match o with
      | .nx d3 => I (k + 1) d3
      | .ct d3 => I (k + 1) d3
      | .bk d3 => P (.nx d3)
      | .rt y d3 => P (.rt y d3)) (hd : ∀ d, I ys.length d → P (.nx d)) : Ok (sFor f g b d) P := by
  refine ok_for hf (fun pre post d => I pre.length d) h0 (fun pre x post d e h => ?_) (fun d h => hd d (by rw [List.length_map] at h; exact h))
  have hk : pre.length < ys.length := by
    have := congrArg List.length e
    rw [List.length_map, List.length_append, List.length_cons] at this
    omega
  have hx : x = enc ys[pre.length] := by
    have h1 : (ys.map enc)[pre.length]? = some x := by rw [e]; simp
    rw [List.getElem?_map, List.getElem?_eq_getElem hk] at h1
    exact (Option.some.inj h1).symm
  subst hx
  obtain ⟨d2, e2, h2⟩ := hs _ d hk h
  refine ⟨d2, e2, h2.mono fun o q => ?_⟩
  cases o with
  | nx d3 => rw [List.length_append]; exact q
  | ct d3 => rw [List.length_append]; exact q
  | bk d3 => exact q
  | rt y d3 => exact q
/-- range(n), as it is walked -/
theorem rowI_N (n : Nat) : rowI 0 1 n = (List.range n).map fun (i : Nat) => PyData.int (i : Int) := by
  unfold rowI
  refine List.map_congr_left fun i _ => ?_
  congr 1
  omega
theorem iRT {e : ER} {d d1 : List Slot} {r : Nat} (h : e d = some (.int r, d1)) (h1 : r < 2 ^ 62) : iR rng1 (rConsA e rNilA) d = some ((List.range r).map fun (i : Nat) => PyData.int (i : Int), d1) := by
  rw [iR1N h h1, rowI_N]
theorem ok_rng {e : ER} {r : Nat} {g : GR} {b : SR} {d d1 : List Slot} {P : Out → Prop} (hf : e d = some (.int r, d1)) (hr : r < 2 ^ 62) (I : Nat → List Slot → Prop) (h0 : I 0 d1)
    (hs : ∀ k d, k < r → I k d → ∃ d2, g (.int (k : Int)) d = some d2 ∧ Ok (b d2) fun o => match o with
      | .nx d3 => I (k + 1) d3
      | .ct d3 => I (k + 1) d3
      | .bk d3 => P (.nx d3)
      | .rt y d3 => P (.rt y d3)) (hd : ∀ d, I r d → P (.nx d)) : Ok (sFor (iR rng1 (rConsA e rNilA)) g b d) P :=
  ok_forT (iRT hf hr) I h0 (fun k d hk h => by
    rw [List.length_range] at hk
    rw [List.getElem_range]
    exact hs k d hk h) (fun d h => hd d (by rw [List.length_range] at h; exact h))
theorem ok_rngE {f : IR} {r : Nat} {g : GR} {b : SR} {d d1 : List Slot} {P : Out → Prop} (hf : f d = some ((List.range r).map fun (i : Nat) => PyData.int (i : Int), d1)) (I : Nat → List Slot → Prop) (h0 : I 0 d1)
    (hs : ∀ k d, k < r → I k d → ∃ d2, g (.int (k : Int)) d = some d2 ∧ Ok (b d2) fun o => match o with
      | .nx d3 => I (k + 1) d3
      | .ct d3 => I (k + 1) d3
      | .bk d3 => P (.nx d3)
      | .rt y d3 => P (.rt y d3)) (hd : ∀ d, I r d → P (.nx d)) : Ok (sFor f g b d) P :=
  ok_forT hf I h0 (fun k d hk h => by
    rw [List.length_range] at hk
    rw [List.getElem_range]
    exact hs k d hk h) (fun d h => hd d (by rw [List.length_range] at h; exact h))
/-- range, told without its reckoning -/
def RngOk (rg : List D → Option (List D)) : Prop := ∀ {e : ER} {d d1 : List Slot} {r : Nat}, e d = some (.int r, d1) → r < 2 ^ 62 → iR rg (rConsA e rNilA) d = some ((List.range r).map fun (i : Nat) => PyData.int (i : Int), d1)
theorem rng1_fine : RngOk rng1 := fun h h1 => iRT h h1
/-! ### typed comprehensions -/
theorem lc_mapT {α β : Type} {enc : α → D} {ys : List α} {f : IR} {g : GR} {e : ER} {vs : List Nat} {d d1 : List Slot} (eb : β → D) (G : α → β) (hf : f d = some (ys.map enc, d1)) (hv : (vs.all fun v => noOwn d1[v]?) = true)
    (h : ∀ y ∈ ys, ∃ d2, g (enc y) (wipeD d1 vs) = some d2 ∧ ∃ d4, e d2 = some (eb (G y), d4) ∧ backD d1 vs d4 = some d1) (hl : ys.length ≤ 16777216) : rLc f g rYes e vs d = some (.list ((ys.map G).map eb), d1) := by
  have gen : ∀ (l : List α) (acc : List D), (∀ y ∈ l, y ∈ ys) → acc.length + l.length ≤ sizeLine → lcR g rYes e vs d1 (l.map enc) acc d1 = some (acc ++ (l.map G).map eb, d1) := by
    intro l
    induction l with
    | nil =>
      intro acc _ _
      rw [List.map_nil, List.map_nil, List.map_nil, List.append_nil]
      rfl
    | cons y l ih =>
      intro acc hm hs
      obtain ⟨d2, h1, d4, h2, h3⟩ := h y (hm y List.mem_cons_self)
      rw [List.length_cons] at hs
      rw [List.map_cons, List.map_cons, List.map_cons]
      unfold lcR
      rw [h1]
      show bd (e d2) _ = _
      rw [h2]
      show (if acc.length < sizeLine then ob (backD d1 vs d4) _ else none) = _
      rw [if_pos (by omega), h3]
      show lcR g rYes e vs d1 (l.map enc) (acc ++ [eb (G y)]) d1 = _
      rw [ih _ (fun z hz => hm z (List.mem_cons_of_mem _ hz)) (by rw [List.length_append, List.length_singleton]; omega), List.append_assoc]
      rfl
  unfold rLc
  rw [hf]
  show (if _ then _ else _) = _
  rw [if_pos hv, gen ys [] (fun y h => h) (by rw [sizeLine_eq]; simpa using hl)]
  rfl
theorem lc_filT {α β : Type} {enc : α → D} {ys : List α} {f : IR} {g : GR} {t : TR} {e : ER} {vs : List Nat} {d d1 : List Slot} (eb : β → D) (G : α → β) (p : α → Bool) (hf : f d = some (ys.map enc, d1)) (hv : (vs.all fun v => noOwn d1[v]?) = true)
    (h : ∀ y ∈ ys, ∃ d2, g (enc y) (wipeD d1 vs) = some d2 ∧ ∃ d3, t d2 = some (p y, d3) ∧ (p y = true → ∃ d4, e d3 = some (eb (G y), d4) ∧ backD d1 vs d4 = some d1) ∧ (p y = false → backD d1 vs d3 = some d1)) (hl : ys.length ≤ 16777216) : rLc f g t e vs d = some (.list (((ys.filter p).map G).map eb), d1) := by
  have gen : ∀ (l : List α) (acc : List D), (∀ y ∈ l, y ∈ ys) → acc.length + l.length ≤ sizeLine → lcR g t e vs d1 (l.map enc) acc d1 = some (acc ++ ((l.filter p).map G).map eb, d1) := by
    intro l
    induction l with
    | nil =>
      intro acc _ _
      rw [List.map_nil, List.filter_nil, List.map_nil, List.map_nil, List.append_nil]
      rfl
    | cons y l ih =>
      intro acc hm hs
      obtain ⟨d2, h1, d3, h2, h3, h4⟩ := h y (hm y List.mem_cons_self)
      rw [List.length_cons] at hs
      rw [List.map_cons]
      unfold lcR
      rw [h1]
      show bd (t d2) _ = _
      rw [h2]
      cases hp : p y with
      | true =>
        obtain ⟨d4, e1, e2⟩ := h3 hp
        show bd (e d3) _ = _
        rw [e1]
        show (if acc.length < sizeLine then ob (backD d1 vs d4) _ else none) = _
        rw [if_pos (by omega), e2]
        show lcR g t e vs d1 (l.map enc) (acc ++ [eb (G y)]) d1 = _
        rw [ih _ (fun z hz => hm z (List.mem_cons_of_mem _ hz)) (by rw [List.length_append, List.length_singleton]; omega), List.append_assoc, List.filter_cons_of_pos hp]
        rfl
      | false =>
        show ob (backD d1 vs d3) _ = _
        rw [h4 hp]
        show lcR g t e vs d1 (l.map enc) acc d1 = _
        rw [ih _ (fun z hz => hm z (List.mem_cons_of_mem _ hz)) (by omega), List.filter_cons_of_neg (by rw [hp]; decide)]
  unfold rLc
  rw [hf]
  show (if _ then _ else _) = _
  rw [if_pos hv, gen ys [] (fun y h => h) (by rw [sizeLine_eq]; simpa using hl)]
  rfl
/-- a comprehension whose test or element draws -/
theorem lc_invT {f : IR} {g : GR} {t : TR} {e : ER} {vs : List Nat} {d d1 : List Slot} {xs : List D} (I : Nat → List D → List Slot → Prop) (hf : f d = some (xs, d1)) (hv : (vs.all fun v => noOwn d1[v]?) = true) (h0 : I 0 [] d1)
    (h : ∀ k acc d, (hk : k < xs.length) → I k acc d → ∃ d2, g xs[k] (wipeD d vs) = some d2 ∧ ∃ b d3, t d2 = some (b, d3) ∧ (b = true → ∃ y d4 d5, e d3 = some (y, d4) ∧ backD d1 vs d4 = some d5 ∧ I (k + 1) (acc ++ [y]) d5) ∧ (b = false → ∃ d5, backD d1 vs d3 = some d5 ∧ I (k + 1) acc d5))
    (hl : ∀ k acc d, I k acc d → acc.length ≤ k) (hx : xs.length ≤ 16777216) : ∃ ys d2, rLc f g t e vs d = some (.list ys, d2) ∧ I xs.length ys d2 := by
  have e0 : rLc f g t e vs d = (bd (lcR g t e vs d1 xs [] d1) fun ys d2 => some (.list ys, d2)) := by
    unfold rLc
    rw [hf]
    exact if_pos hv
  rw [e0]
  have gen : ∀ (post pre acc : List D) (d : List Slot), xs = pre ++ post → I pre.length acc d → ∃ ys d2, lcR g t e vs d1 post acc d = some (ys, d2) ∧ I xs.length ys d2 := by
    intro post
    induction post with
    | nil =>
      intro pre acc d e1 i
      rw [List.append_nil] at e1
      subst e1
      exact ⟨acc, d, rfl, i⟩
    | cons x post ih =>
      intro pre acc d e1 i
      have hlx : xs.length = pre.length + (post.length + 1) := by rw [e1]; simp
      obtain ⟨d2, h1, b, d3, h2, h3, h4⟩ := h pre.length acc d (by omega) i
      have ex : xs[pre.length]'(by omega) = x := by
        have q : xs[pre.length]? = some x := by rw [e1]; simp
        rw [List.getElem?_eq_getElem (by omega)] at q
        exact Option.some.inj q
      rw [ex] at h1
      have hla := hl _ acc d i
      unfold lcR
      rw [h1]
      show ∃ ys d2', bd (t d2) _ = _ ∧ _
      rw [h2]
      cases b with
      | true =>
        obtain ⟨y, d4, d5, e2, e3, i2⟩ := h3 rfl
        obtain ⟨ys, d6, e6, i6⟩ := ih (pre ++ [x]) (acc ++ [y]) d5 (by rw [e1, List.append_assoc]; rfl) (by rw [List.length_append]; exact i2)
        refine ⟨ys, d6, ?_, i6⟩
        show bd (e d3) _ = _
        rw [e2]
        show (if acc.length < sizeLine then ob (backD d1 vs d4) _ else none) = _
        rw [if_pos (by rw [sizeLine_eq]; omega), e3]
        exact e6
      | false =>
        obtain ⟨d5, e3, i2⟩ := h4 rfl
        obtain ⟨ys, d6, e6, i6⟩ := ih (pre ++ [x]) acc d5 (by rw [e1, List.append_assoc]; rfl) (by rw [List.length_append]; exact i2)
        refine ⟨ys, d6, ?_, i6⟩
        show ob (backD d1 vs d3) _ = _
        rw [e3]
        exact e6
  obtain ⟨ys, d2, e1, i⟩ := gen xs [] [] d1 rfl h0
  exact ⟨ys, d2, by rw [e1]; rfl, i⟩
/-! ### items by place -/
theorem ixN_cast {n k : Nat} (h : k < n) : ixN n (k : Int) = some k := ixN_nat rfl h
theorem fIx_N {ns : List Nat} {k : Nat} (h : k < ns.length) : fIx (.list (ns.map fun (n : Nat) => .int (n : Int))) (.int (k : Int)) = some (.int (ns.getD k 0 : Nat)) := fIx_dN rfl (get_some h)
theorem fIx_T {l : List Nat} {k : Nat} (h : k < l.length) (hl : l.length ≤ 16777216) : fIx (.str (S l)) (.int (k : Int)) = some (ch (l.getD k 0)) := fIx_S rfl (get_some h) hl
theorem fIx_L {α : Type} {enc : α → D} {ys : List α} {k : Nat} (h : k < ys.length) : fIx (.list (ys.map enc)) (.int (k : Int)) = some (enc ys[k]) := fIx_list rfl (by rw [List.getElem?_map, List.getElem?_eq_getElem h]; rfl)
theorem fIx_t0 (x : D) (xs : List D) : fIx (.tuple (x :: xs)) (.int 0) = some x := by
  show atI (x :: xs) 0 = _
  exact atI_nat (k := 0) rfl rfl
theorem fIx_t1 (x y : D) (xs : List D) : fIx (.tuple (x :: y :: xs)) (.int 1) = some y := by
  show atI (x :: y :: xs) 1 = _
  exact atI_nat (k := 1) rfl rfl
theorem fRev_l (xs : List D) : fRev (.list xs) = some (.list xs.reverse) := rfl
theorem fIn_ch (neg : Bool) (c : Nat) (l : List Nat) : fIn neg (ch c) (.str (S l)) = some (.bool (if neg then !decide (c ∈ l) else decide (c ∈ l))) := rfl
/-! ### single signs of a text -/
open StrLaws Builtin.Str in
theorem occ_go (s : Str) (c hi lim : Nat) : ∀ (m i : Nat) (fo : Array Nat), (hh : hi = s.length) → ∀ free, free ≤ i →
    (forIn (List.range' i m) (fo, free) (occBody s ⟨#[c]⟩ hi lim)).run.fst.toList = fo.toList ++ (((List.range' i m).filter fun k => decide (s.cps.toList[k]? = some c)).take (lim - fo.size))
  | 0, i, fo, _, _, _ => by simp
  | m + 1, i, fo, hh, free, hf => by
    subst hh
    rw [List.range'_succ, List.forIn_cons]
    unfold occBody
    by_cases hc : s.cps.toList[i]? = some c
    · have q := (subAt_one s c i).mpr hc
      rw [List.filter_cons_of_pos (by simpa using hc)]
      by_cases hl : fo.size < lim
      · rw [if_pos ⟨⟨⟨hl, hf⟩, q.1⟩, q.2⟩]
        show (forIn (List.range' (i + 1) m) (fo.push i, i + 1) (occBody s ⟨#[c]⟩ s.length lim)).run.fst.toList = _
        rw [occ_go s c s.length lim m (i + 1) (fo.push i) rfl (i + 1) (Nat.le_refl _), Array.size_push]
        obtain ⟨j, hj⟩ : ∃ j, lim - fo.size = j + 1 := ⟨lim - fo.size - 1, by omega⟩
        rw [hj, List.take_succ_cons, show lim - (fo.size + 1) = j by omega]
        simp
      · rw [if_neg (fun z => hl z.1.1.1)]
        show (forIn (List.range' (i + 1) m) (fo, free) (occBody s ⟨#[c]⟩ s.length lim)).run.fst.toList = _
        rw [occ_go s c s.length lim m (i + 1) fo rfl free (by omega), show lim - fo.size = 0 by omega]
        simp
    · rw [List.filter_cons_of_neg (by simpa using hc), if_neg (fun z => hc ((subAt_one s c i).mp ⟨z.1.2, z.2⟩))]
      show (forIn (List.range' (i + 1) m) (fo, free) (occBody s ⟨#[c]⟩ s.length lim)).run.fst.toList = _
      exact occ_go s c s.length lim m (i + 1) fo rfl free (by omega)
theorem occ_one (l : List Nat) (c lim : Nat) : Builtin.Str.occurrences (S l) (S [c]) 0 l.length lim = ((List.range l.length).filter fun k => decide (l[k]? = some c)).take lim := by
  rw [StrLaws.occ_eq]
  have := occ_go (S l) c l.length lim (l.length + 1) 0 #[] (S_len l).symm 0 (Nat.le_refl _)
  rw [show l.length + 1 - 0 = l.length + 1 from rfl]
  refine this.trans ?_
  rw [List.nil_append, List.range'_1_concat, List.filter_append, List.range_eq_range', Nat.zero_add]
  have e : ([l.length].filter fun k => decide ((S l).cps.toList[k]? = some c)) = [] := by
    rw [S_list, List.filter_cons_of_neg (by simp)]
    rfl
  rw [e, List.append_nil]
  rfl
theorem filter_first {l : List Nat} {c : Nat} (h : c ∈ l) : ∃ r, ((List.range l.length).filter fun k => decide (l[k]? = some c)) = l.idxOf c :: r := by
  have gen : ∀ (l : List Nat) (b : Nat), c ∈ l → ∃ r, ((List.range' b l.length).filter fun k => decide (l[k - b]? = some c)) = (b + l.idxOf c) :: r := by
    intro l
    induction l with
    | nil => intro b h; cases h
    | cons x l ih =>
      intro b h
      rw [List.length_cons, List.range'_succ]
      by_cases hx : x = c
      · subst hx
        rw [List.filter_cons_of_pos (by simp)]
        have e0 : b + (x :: l).idxOf x = b := by simp [List.idxOf_cons]
        exact ⟨_, by rw [e0]⟩
      · have hm : c ∈ l := by
          rcases List.mem_cons.mp h with e | e
          · exact absurd e.symm hx
          · exact e
        rw [List.filter_cons_of_neg (by simp [hx])]
        obtain ⟨r, e⟩ := ih (b + 1) hm
        refine ⟨r, ?_⟩
        have e1 : (x :: l).idxOf c = l.idxOf c + 1 := by
          have : (x == c) = false := by simpa using hx
          simp [List.idxOf_cons, this]
        rw [e1, show b + (l.idxOf c + 1) = b + 1 + l.idxOf c by omega, ← e]
        refine List.filter_congr fun k hk => ?_
        have := List.mem_range'_1.mp hk
        rw [show k - b = (k - (b + 1)) + 1 by omega, List.getElem?_cons_succ]
  obtain ⟨r, e⟩ := gen l 0 h
  rw [Nat.zero_add] at e
  exact ⟨r, by rw [List.range_eq_range', ← e]; rfl⟩
theorem index_ch {l : List Nat} {c : Nat} (h : c ∈ l) : fSIndex (.str (S l)) [ch c] = some (.int (l.idxOf c : Nat)) := by
  unfold fSIndex
  dsimp only
  obtain ⟨r, e⟩ := filter_first h
  rw [S_len, occ_one, e]
  rfl
/-! ### signs in order -/
theorem intsOf_ch (c : Nat) (l : List Nat) : intsOf ((c :: l).map ch) = none := rfl
theorem ltC_ch (a b : Nat) : ltC (S [a]) (S [b]) = decide (a < b) := by
  unfold ltC
  rw [S_list, S_list]
  refine decide_eq_decide.mpr ⟨fun h => ?_, fun h => .rel h⟩
  cases h with
  | rel h => exact h
  | cons h => cases h
theorem strsOf_ch : ∀ l : List Nat, strsOf (l.map ch) = some (l.map fun c => S [c])
  | [] => rfl
  | c :: l => by
    show ob (strsOf (l.map ch)) _ = _
    rw [strsOf_ch l]
    rfl
/-- the signs of a text in order -/
def ltN (a b : Nat) : Bool := decide (a < b)
theorem ins_ch (c : Nat) : ∀ l : List Nat, ins ltC (S [c]) (l.map fun c => S [c]) = (ins ltN c l).map fun c => S [c]
  | [] => rfl
  | x :: l => by
    rw [List.map_cons]
    unfold ins
    rw [ltC_ch, ins_ch c l]
    show _ = List.map _ (if decide (x < c) = true then _ else _)
    split <;> rfl
theorem isort_ch : ∀ l : List Nat, isort ltC (l.map fun c => S [c]) = (isort ltN l).map fun c => S [c]
  | [] => rfl
  | c :: l => by
    rw [List.map_cons]
    unfold isort
    rw [isort_ch l, ins_ch]
theorem fSort_ch (l : List Nat) : fSort [.list (l.map ch)] = some ((isort ltN l).map ch) := by
  cases l with
  | nil => rfl
  | cons c l =>
    unfold fSort
    dsimp only
    rw [show intsOf (List.map ch (c :: l)) = none from rfl, strsOf_ch]
    dsimp only
    rw [isort_ch, List.map_map]
    rfl
/-! ### dicts by signs -/
theorem getD_ch (v : Nat → D) (c : Nat) : ∀ ks : List Nat, getD' (ks.map fun x => (ch x, v x)) (.inr (S [c])) = if c ∈ ks then some (v c) else none
  | [] => rfl
  | x :: ks => by
    have ih := getD_ch v c ks
    unfold getD' at ih ⊢
    rw [List.map_cons]
    by_cases h : c = x
    · subst h
      rw [List.find?_cons_of_pos (by rw [isKey_ch]; simp), if_pos List.mem_cons_self]
      rfl
    · rw [List.find?_cons_of_neg (by rw [isKey_ch]; simpa using h), ih]
      have : c ∈ x :: ks ↔ c ∈ ks := by simp [h]
      simp only [this]
theorem putD_ch (v : Nat → D) (c : Nat) (x : D) {ks : List Nat} (h : ¬ c ∈ ks) : putD (ks.map fun x => (ch x, v x)) (.inr (S [c])) x = ks.map (fun x => (ch x, v x)) ++ [(ch c, x)] := by
  unfold putD
  rw [if_neg]
  · rfl
  · rw [List.any_map]
    intro z
    obtain ⟨y, hy, e⟩ := List.any_eq_true.mp z
    have e : isKey (.inr (S [c])) (ch y) = true := e
    rw [isKey_ch] at e
    exact h (by rw [of_decide_eq_true e]; exact hy)
/-! ### rounds told once more: by least places, one list alone -/
theorem isOrb.uniq {M o o' : List Nat} {i : Nat} (h : isOrb M o i) (h' : isOrb M o' i) : o = o' := by
  obtain ⟨r, a1, a2, rfl, a3, a4⟩ := h
  obtain ⟨q, b1, b2, rfl, b3, b4⟩ := h'
  have : r = q := by
    by_cases h1 : r < q
    · exact absurd a3 (b4 r a1 h1)
    · by_cases h2 : q < r
      · exact absurd b3 (a4 q b1 h2)
      · omega
  rw [this]
inductive Rn (M : List Nat) : Nat → List (List Nat) → Prop
  | zero : Rn M 0 []
  | skip {k : Nat} {outs : List (List Nat)} : Rn M k outs → k ∈ outs.flatten → Rn M (k + 1) outs
  | take {k : Nat} {outs : List (List Nat)} {o : List Nat} : Rn M k outs → ¬ k ∈ outs.flatten → isOrb M o k → Rn M (k + 1) (outs ++ [o])
theorem Rn.uniq {M : List Nat} : ∀ {k : Nat} {a b : List (List Nat)}, Rn M k a → Rn M k b → a = b
  | _, _, _, .zero, .zero => rfl
  | _, _, _, .skip h _, .skip h' _ => Rn.uniq h h'
  | _, _, _, .skip h hk, .take h' n _ => by
    have := Rn.uniq h h'
    subst this
    exact absurd hk n
  | _, _, _, .take h n _, .skip h' hk => by
    have := Rn.uniq h h'
    subst this
    exact absurd hk n
  | _, _, _, .take h _ o, .take h' _ o' => by
    have := Rn.uniq h h'
    subst this
    rw [o.uniq o']
theorem Rn.len {M : List Nat} : ∀ {k : Nat} {a : List (List Nat)}, Rn M k a → a.length ≤ k ∧ a.flatten.length ≤ k * M.length
  | _, _, .zero => ⟨Nat.le_refl _, Nat.zero_le _⟩
  | _, _, .skip h _ => by
    have := Rn.len h
    rw [Nat.add_mul]
    omega
  | _, _, .take h _ o => by
    have := Rn.len h
    have := o.len
    rw [List.length_append, List.flatten_append, List.length_append, List.length_singleton, Nat.add_mul]
    simp only [List.flatten_cons, List.flatten_nil, List.append_nil]
    omega
theorem Rn.cover {M : List Nat} : ∀ {k : Nat} {a : List (List Nat)}, Rn M k a → ∀ p, p < k → p ∈ a.flatten
  | _, _, .zero, p, hp => absurd hp (Nat.not_lt_zero _)
  | _, _, .skip (k := k) h hk, p, hp => by
    by_cases e : p = k
    · rw [e]; exact hk
    · exact Rn.cover h p (by omega)
  | _, _, .take (k := k) h _ o, p, hp => by
    rw [List.flatten_append, List.mem_append]
    by_cases e : p = k
    · right
      rw [e]
      simp only [List.flatten_cons, List.flatten_nil, List.append_nil]
      exact o.mem
    · exact .inl (Rn.cover h p (by omega))
theorem Rn.orb {M : List Nat} : ∀ {k : Nat} {a : List (List Nat)}, Rn M k a → k ≤ M.length → ∀ o ∈ a, ∃ i, i < M.length ∧ isOrb M o i
  | _, _, .zero, _, o, ho => by cases ho
  | _, _, .skip h hk, hl, o, ho => Rn.orb h (by omega) o ho
  | _, _, .take (k := k) h _ q, hl, o, ho => by
    rcases List.mem_append.mp ho with z | z
    · exact Rn.orb h (by omega) o z
    · rw [List.mem_singleton.mp z]
      exact ⟨k, by omega, q⟩
section
variable {M : List Nat} (hM : ∀ x, x < M.length → stepL M x < M.length) (inj : ∀ x y, x < M.length → y < M.length → stepL M x = stepL M y → x = y)
include hM inj
theorem orb_ex (h6 : M.length ≤ 1000000) {p : Nat} (hp : p < M.length) : ∃ o, isOrb M o p := by
  obtain ⟨r, r1, r2, _, e, n⟩ := round_ok hM inj h6 hp
  exact ⟨_, r, r1, r2, rfl, e, n⟩
theorem round_ok2 (h6 : M.length ≤ 1000000) {p : Nat} (hp : p < M.length) : ∃ o, isOrb M o p ∧ m_round [dN M, .int p] = some (dN o) := by
  obtain ⟨r, r1, r2, e2, e, n⟩ := round_ok hM inj h6 hp
  exact ⟨_, ⟨r, r1, r2, rfl, e, n⟩, e2⟩
theorem rounds_ok2 (h6 : M.length ≤ 1000) : ∃ outs : List (List Nat), Rn M M.length outs ∧ m_rounds [dN M] = some (.list (outs.map dN)) := by
  suffices hh : Ok (r_rounds [.fz (dN M), .un, .un, .un, .un]) fun oo => ∃ d outs, oo = .rt (.list (outs.map dN)) d ∧ Rn M M.length outs by
    obtain ⟨o, e, d, outs, rfl, h3⟩ := hh
    exact ⟨outs, h3, mOf_rt rfl ⟨_, e, d, rfl⟩⟩
  unfold r_rounds
  have hr := fun (p : Nat) (hp : p < M.length) => round_ok2 hM inj (by omega) hp
  generalize m_round = mr at hr ⊢
  refine ok_nx (by walk_at "dk"; rfl) ?_
  refine ok_nx (by walk_at "dk"; rfl) ?_
  refine ok_seq (ok_rng (r := M.length) (by walk_at "dk"; rfl) (by omega) (fun k d => ∃ (j3 j4 : J) (outs : List (List Nat)), d = [.fz (dN M), .ow (.list (outs.map dN)), .fz (dN outs.flatten), j3.s, j4.s] ∧ Rn M k outs) ⟨.un, .un, [], rfl, .zero⟩ ?_ ?_)
  · rintro k d hk ⟨j3, j4, outs, rfl, hR⟩
    have hl := hR.len
    have hmul : k * M.length ≤ 1000 * 1000 := Nat.mul_le_mul (by omega) h6
    refine ⟨_, by simp (disch := first | assumption | omega) only [sAsg, sAsgN, sRet, sDrop, sNext, sApp, sExt, sAug, sSetL, sDPutR, sFS, sFA, sPar, rVar, rVarB, rC, rB, rOp2, rOp2N, rOp1, rOpA, rOpAN, rOpM, rOpM1, rLst, rTup, rSl, rSlN, rPart, rNoPart, rNilA, rConsA, rNilB, rConsB, rT, rAndT, rOrT, rNotT, rIf, rAndV, rOrV, rNotV, rChain, rYes, rDNew, rDGet, rPopI, rLrg, iX, iE, iZ, gN, gT, gConsR, gNilR, bd_some, ob_some, BV.get, slotD, getAll, isB, isL1, isL2, notFd_un, notFd_fz, notFd_ow, noOwn_un, noOwn_fz, noOwn_nil, wipeD, backD, itemsOf, fSub, fNeg, fInt, fAbs, fList, fLen_list, fLen_tuple, fAdd_int, fCmp, keyOf, oneCh, List.getElem?_cons_zero, List.getElem?_cons_succ, List.set_cons_zero, List.set_cons_succ, List.length_cons, List.length_nil, List.map_cons, List.map_nil, List.append_nil, List.nil_append, if_true, if_false, reduceIte, Bool.not_true, Bool.not_false, and_self, and_true, true_and, reduceCtorEq, rFI, rFL, rFN, fdAt, get1, get2, get3, put1, put2, put3, fMul_ok, fMod_pos, fDiv_pos, fEq_int, fNe_int, ltI, leI, gtI, geI, fLen_S, fAdd_S, fAdd_list, fSum_dI, fPow18, rCallF, rCall, rCallB, flatD, Option.map_some, Option.map_none, okT_str, okT_list, okT_dict, size_le, Nat.reduceAdd, Nat.reduceLT, List.length_map, List.length_range, List.length_append, size_lt, J.nf]; rfl, ?_⟩
    refine ok_if (k := !decide (k ∈ outs.flatten)) (by walk_at "dk"; rw [fIn_dN]; walk_at "dk"; rfl) (fun h => ?_) (fun h => ?_)
    · have hin : ¬ k ∈ outs.flatten := by simpa using h
      obtain ⟨o, orb, er⟩ := hr _ hk
      have lo := orb.len
      refine ok_nx (sAsgCall (xs := [dN M, .int (k : Nat)]) (d1 := [.fz (dN M), .ow (.list (outs.map dN)), .fz (dN outs.flatten), .fz (.int (k : Nat)), j4.s]) (by walk_at "dk") er j4.nf) ?_
      refine ok_nx (by walk_at "dk"; rfl) ?_
      refine ok_enx (by
        walk_at "dk"
        rw [fAdd_list _ _ (by rw [List.length_map, List.length_map]; omega)]
        walk_at "dk"
        rfl) ?_
      exact ⟨.fz _, .fz _, outs ++ [o], (by
        rw [List.map_append, List.flatten_append, List.flatten_cons, List.flatten_nil, List.append_nil, dN_app]
        rfl), .take hR hin orb⟩
    · have hin : k ∈ outs.flatten := by simpa using h
      exact ok_enx (by walk_at "dk"; rfl) ⟨.fz _, j4, outs, rfl, .skip hR hin⟩
  · rintro d ⟨j3, j4, outs, rfl, hR⟩
    exact ok_ert (by walk_at "dk"; rfl) ⟨_, outs, rfl, hR⟩
end

theorem rev_map {α β : Type} (f : α → β) (l : List α) : (l.map f).reverse = l.reverse.map f := List.map_reverse.symm
/-! ### slices, ranges as lists, pairs -/
theorem small_up {a b : Int} (ha : -(2 ^ 62) ≤ a) (ha' : a < 2 ^ 62) (hb : -(2 ^ 62) ≤ b) (hb' : b < 2 ^ 62) : Builtin.Range.small a b 1 = true := by
  unfold Builtin.Range.small
  rw [show Builtin.Range.rangeSize a b 1 = ((b - a).toNat : Int) from PyProof.Rows.rangeSize_nat a b]
  simp only [Builtin.Range.rangeFitsLong, Bool.and_eq_true, Bool.or_eq_true, decide_eq_true_eq, beq_iff_eq, show ((1 : Int) > 0) by decide, if_true]
  omega
theorem rngL_up {i j : Int} (h1 : -(2 ^ 62) ≤ i) (h2 : i < 2 ^ 62) (h3 : -(2 ^ 62) ≤ j) (h4 : j < 2 ^ 62) (h5 : j - i ≤ 16777216) : rngL i j 1 = some (rowI i 1 (j - i).toNat) := by
  unfold rngL
  rw [show Builtin.Range.rangeSize i j 1 = ((j - i).toNat : Int) from PyProof.Rows.rangeSize_nat i j, Int.toNat_natCast, if_pos ⟨small_of h1 h2, small_of h3 h4, by decide, by decide, small_up h1 h2 h3 h4, rfl, by omega⟩]
theorem rowI_from (b n : Nat) : rowI (b : Int) 1 n = (List.range n).map fun (i : Nat) => PyData.int ((b + i : Nat) : Int) := by
  unfold rowI
  refine List.map_congr_left fun i _ => ?_
  congr 1
  omega
theorem lrg_from {b n : Nat} (h1 : b ≤ 1000000000) (h2 : n ≤ 16777216) : lrg [.int (b : Int), .int ((b : Int) + (n : Int))] = some ((List.range n).map fun (i : Nat) => PyData.int ((b + i : Nat) : Int)) := by
  show rngL _ _ _ = _
  rw [rngL_up (by omega) (by omega) (by omega) (by omega) (by omega), show ((b : Int) + (n : Int) - (b : Int)).toNat = n by omega, rowI_from]
theorem lrg_one {n : Nat} (h2 : n ≤ 16777216) : lrg [.int (n : Int)] = some ((List.range n).map fun (i : Nat) => PyData.int (i : Int)) := by
  show rngL _ _ _ = _
  rw [rngL_up (by omega) (by omega) (by omega) (by omega) (by omega), show ((n : Int) - 0).toNat = n by omega, rowI_N]
theorem cut_any {α : Type} (xs : List α) (a b : Nat) : (xs.drop (min a xs.length)).take (min b xs.length - min a xs.length) = (xs.drop a).take (b - a) := by
  by_cases h : a ≤ xs.length
  · rw [Nat.min_eq_left h]
    by_cases h2 : b ≤ xs.length
    · rw [Nat.min_eq_left h2]
    · rw [Nat.min_eq_right (by omega), List.take_of_length_le (by rw [List.length_drop]; omega), List.take_of_length_le (by rw [List.length_drop]; omega)]
  · rw [Nat.min_eq_right (show xs.length ≤ a by omega), List.drop_eq_nil_of_le (Nat.le_refl _), List.drop_eq_nil_of_le (show xs.length ≤ a by omega)]
    simp
theorem cutD_ab (xs : List D) (a b : Nat) : cutD xs (some (a : Int)) (some (b : Int)) = (xs.drop a).take (b - a) := by
  unfold cutD
  rw [HT.sIx_nat, HT.sIx_nat, cut_any]
theorem cutD_a (xs : List D) (a : Nat) : cutD xs (some (a : Int)) none = xs.drop a := by
  unfold cutD
  rw [HT.sIx_nat, HT.sIx_none, List.take_of_length_le (by rw [List.length_drop]; omega)]
  by_cases h : a ≤ xs.length
  · rw [Nat.min_eq_left h]
  · rw [Nat.min_eq_right (by omega), List.drop_eq_nil_of_le (Nat.le_refl _), List.drop_eq_nil_of_le (by omega)]
theorem cutD_b (xs : List D) (b : Nat) : cutD xs none (some (b : Int)) = xs.take b := by
  unfold cutD
  rw [HT.sIx_nat, HT.sIx_none, List.drop_zero, Nat.sub_zero]
  by_cases h : b ≤ xs.length
  · rw [Nat.min_eq_left h]
  · rw [Nat.min_eq_right (by omega), List.take_of_length_le (Nat.le_refl _), List.take_of_length_le (by omega)]
theorem cutS_ab (l : List Nat) (a b : Nat) : cutS (S l) (some (a : Int)) (some (b : Int)) = S ((l.drop a).take (b - a)) := by
  unfold cutS
  rw [S_list, HT.sIx_nat, HT.sIx_nat, S_len, cut_any]
  rfl
theorem cutS_a (l : List Nat) (a : Nat) : cutS (S l) (some (a : Int)) none = S (l.drop a) := by
  unfold cutS
  rw [S_list, HT.sIx_nat, HT.sIx_none, S_len, List.take_of_length_le (by rw [List.length_drop]; omega)]
  by_cases h : a ≤ l.length
  · rw [Nat.min_eq_left h]; rfl
  · rw [Nat.min_eq_right (by omega), List.drop_eq_nil_of_le (Nat.le_refl _), List.drop_eq_nil_of_le (by omega)]; rfl
theorem cutS_b (l : List Nat) (b : Nat) : cutS (S l) none (some (b : Int)) = S (l.take b) := by
  unfold cutS
  rw [S_list, HT.sIx_nat, HT.sIx_none, S_len, List.drop_zero, Nat.sub_zero]
  by_cases h : b ≤ l.length
  · rw [Nat.min_eq_left h]; rfl
  · rw [Nat.min_eq_right (by omega), List.take_of_length_le (Nat.le_refl _), List.take_of_length_le (by omega)]; rfl
theorem fSl_lab (xs : List D) (a b : Nat) : fSl (.list xs) (some (a : Int)) (some (b : Int)) = some (.list ((xs.drop a).take (b - a))) := by
  show some (PyData.list (cutD _ _ _)) = _
  rw [cutD_ab]
theorem fSl_lan (xs : List D) (a n : Nat) : fSl (.list xs) (some (a : Int)) (some ((a : Int) + (n : Int))) = some (.list ((xs.drop a).take n)) := by
  rw [← Int.natCast_add, fSl_lab, Nat.add_sub_cancel_left]
theorem fSl_la (xs : List D) (a : Nat) : fSl (.list xs) (some (a : Int)) none = some (.list (xs.drop a)) := by
  show some (PyData.list (cutD _ _ _)) = _
  rw [cutD_a]
theorem fSl_lb (xs : List D) (b : Nat) : fSl (.list xs) none (some (b : Int)) = some (.list (xs.take b)) := by
  show some (PyData.list (cutD _ _ _)) = _
  rw [cutD_b]
theorem fSl_Tab {l : List Nat} (h : l.length ≤ 16777216) (a b : Nat) : fSl (.str (S l)) (some (a : Int)) (some (b : Int)) = some (.str (S ((l.drop a).take (b - a)))) := by
  show (if (S l).length ≤ sizeLine then _ else _) = _
  rw [if_pos (by rw [S_len, sizeL]; exact h), cutS_ab]
theorem fSl_Tan {l : List Nat} (h : l.length ≤ 16777216) (a n : Nat) : fSl (.str (S l)) (some (a : Int)) (some ((a : Int) + (n : Int))) = some (.str (S ((l.drop a).take n))) := by
  rw [← Int.natCast_add, fSl_Tab h, Nat.add_sub_cancel_left]
theorem fSl_Ta {l : List Nat} (h : l.length ≤ 16777216) (a : Nat) : fSl (.str (S l)) (some (a : Int)) none = some (.str (S (l.drop a))) := by
  show (if (S l).length ≤ sizeLine then _ else _) = _
  rw [if_pos (by rw [S_len, sizeL]; exact h), cutS_a]
theorem fSl_Tb {l : List Nat} (h : l.length ≤ 16777216) (b : Nat) : fSl (.str (S l)) none (some (b : Int)) = some (.str (S (l.take b))) := by
  show (if (S l).length ≤ sizeLine then _ else _) = _
  rw [if_pos (by rw [S_len, sizeL]; exact h), cutS_b]
theorem pairsOf_T {α β : Type} (e1 : α → D) (e2 : β → D) (l : List α) (m : List β) : pairsOf (l.map e1) (m.map e2) = (l.zip m).map fun p => .tuple [e1 p.1, e2 p.2] := by
  unfold pairsOf
  rw [List.zip_map, List.map_map]
  rfl
theorem counted_T {α : Type} (e : α → D) (l : List α) : counted (l.map e) = ((List.range l.length).zip l).map fun p => .tuple [.int (p.1 : Int), e p.2] := by
  unfold counted
  rw [List.length_map, rowI_N, pairsOf_T]

theorem drop_map {α β : Type} (f : α → β) (l : List α) (i : Nat) : (l.map f).drop i = (l.drop i).map f := List.map_drop.symm
theorem take_map {α β : Type} (f : α → β) (l : List α) (i : Nat) : (l.map f).take i = (l.take i).map f := List.map_take.symm
theorem drop_getD {α : Type} {l : List α} {k : Nat} (z : α) (h : k < l.length) : l.drop k = l.getD k z :: l.drop (k + 1) := by
  rw [List.drop_eq_getElem_cons h, List.getD_eq_getElem?_getD, List.getElem?_eq_getElem h]
  rfl
theorem fRepL_one (x : D) {n : Nat} (h : n ≤ 16777216) : fRepL (.list [x]) (.int (n : Int)) = some (List.replicate n x) := by
  unfold fRepL
  dsimp only
  rw [if_pos ⟨by omega, by omega, by rw [sizeL, Int.toNat_natCast, List.length_singleton]; omega⟩, Int.toNat_natCast]
  congr 1
  induction n with
  | zero => rfl
  | succ n ih =>
    rw [List.replicate_succ, List.flatten_cons, ih (by omega)]
    rfl
theorem map_rep {α β : Type} (f : α → β) (n : Nat) (x : α) : List.replicate n (f x) = (List.replicate n x).map f := List.map_replicate.symm

/-! ### data that tell all apart -/
structure EncOk {α : Type} (P : α → Prop) (e : α → D) (n : Nat) : Prop where
  lay : ∀ x, P x → (e x).canLay0 = true
  dep : ∀ x, (e x).depth ≤ n
  eqv : ∀ x y, PyData.eqv (e x) (e y) = true ↔ x = y
def Any {α : Type} : α → Prop := fun _ => True
theorem encZ : EncOk Any PyData.int 0 := ⟨fun _ _ => rfl, fun _ => Nat.le_refl _, fun x y => by simp [PyData.eqv]⟩
theorem encN : EncOk Any (fun (n : Nat) => PyData.int (n : Int)) 0 := ⟨fun _ _ => rfl, fun _ => Nat.le_refl _, fun x y => by simp [PyData.eqv]; omega⟩
theorem encB : EncOk Any PyData.bool 0 := ⟨fun _ _ => rfl, fun _ => Nat.le_refl _, fun x y => by simp [PyData.eqv]⟩
/-- letters that are letters -/
def Lt (l : List Nat) : Prop := ∀ c ∈ l, c < 1114112
theorem encT : EncOk Lt (fun l => PyData.str (S l)) 0 := ⟨fun l h => by
  show l.toArray.all (· < 0x110000) = true
  rw [List.all_toArray, List.all_eq_true]
  intro c hc
  exact decide_eq_true (h c hc), fun _ => Nat.le_refl _, fun x y => by
  show (S x == S y) = true ↔ x = y
  rw [beq_iff_eq]
  exact ⟨S_inj, fun h => by rw [h]⟩⟩
theorem encC : EncOk (fun c => c < 1114112) ch 0 := ⟨fun c h => encT.lay [c] (fun x hx => by rw [List.mem_singleton.mp hx]; exact h), fun _ => Nat.le_refl _, fun x y => by
  refine (encT.eqv [x] [y]).trans ?_
  simp⟩
section
variable {α β γ : Type} {P : α → Prop} {Q : β → Prop} {R : γ → Prop} {e : α → D} {f : β → D} {g : γ → D} {n m k : Nat}
theorem lay_all (h : EncOk P e n) : ∀ l : List α, (∀ x ∈ l, P x) → PyData.canLayAll0 (l.map e) = true
  | [], _ => rfl
  | x :: l, hp => by
    show ((e x).canLay0 && PyData.canLayAll0 (l.map e)) = true
    rw [h.lay x (hp x List.mem_cons_self), lay_all h l fun y hy => hp y (List.mem_cons_of_mem _ hy)]
    rfl
theorem dep_all (h : EncOk P e n) : ∀ l : List α, PyData.depthAll (l.map e) ≤ n
  | [] => Nat.zero_le _
  | x :: l => by
    have h1 := h.dep x
    have h2 := dep_all h l
    rw [List.map_cons]
    unfold PyData.depthAll
    omega
theorem eqv_all (h : EncOk P e n) : ∀ l m : List α, PyData.eqvAll (l.map e) (m.map e) = true ↔ l = m
  | [], [] => by simp [PyData.eqvAll]
  | [], y :: m => by simp [PyData.eqvAll]
  | x :: l, [] => by simp [PyData.eqvAll]
  | x :: l, y :: m => by
    rw [List.map_cons, List.map_cons]
    unfold PyData.eqvAll
    rw [Bool.and_eq_true, h.eqv x y, eqv_all h l m]
    simp
theorem encL (h : EncOk P e n) : EncOk (fun l : List α => ∀ x ∈ l, P x) (fun l : List α => PyData.list (l.map e)) (n + 1) := ⟨fun l hp => lay_all h l hp, fun l => by
  show (PyData.list (l.map e)).depth ≤ n + 1
  have := dep_all h l
  unfold PyData.depth
  omega, fun x y => by
  show PyData.eqvAll _ _ = true ↔ _
  exact eqv_all h x y⟩
theorem encP2 (h : EncOk P e n) (h' : EncOk Q f m) : EncOk (fun p : α × β => P p.1 ∧ Q p.2) (fun p : α × β => PyData.tuple [e p.1, f p.2]) (n + m + 1) := ⟨fun p hp => by
  show ((e p.1).canLay0 && ((f p.2).canLay0 && true)) = true
  rw [h.lay _ hp.1, h'.lay _ hp.2]
  rfl, fun p => by
  have h1 := h.dep p.1
  have h2 := h'.dep p.2
  unfold PyData.depth PyData.depthAll PyData.depthAll PyData.depthAll
  omega, fun x y => by
  show (PyData.eqv (e x.1) (e y.1) && (PyData.eqv (f x.2) (f y.2) && true)) = true ↔ _
  rw [Bool.and_true, Bool.and_eq_true, h.eqv, h'.eqv, Prod.ext_iff]⟩
theorem EncOk.shaped (h : EncOk P e n) (hn : n ≤ 64) {x : α} (hx : P x) : SeqAt.shaped (e x) = true := by
  unfold SeqAt.shaped
  rw [h.lay x hx, Bool.true_and, decide_eq_true_eq]
  exact Nat.le_trans (h.dep x) hn
theorem EncOk.eqvD [DecidableEq α] (h : EncOk P e n) (x y : α) : PyData.eqv (e x) (e y) = decide (x = y) := by
  have := h.eqv x y
  by_cases hx : x = y
  · rw [decide_eq_true hx, this.mpr hx]
  · rw [decide_eq_false hx]
    exact Bool.eq_false_iff.mpr fun z => hx (this.mp z)
theorem EncOk.eq [DecidableEq α] (h : EncOk P e n) (hn : n ≤ 64) {x y : α} (hx : P x) (hy : P y) : fEq (e x) (e y) = some (.bool (decide (x = y))) := by
  unfold fEq
  rw [if_pos ⟨h.shaped hn hx, h.shaped hn hy⟩, h.eqvD]
theorem EncOk.ne [DecidableEq α] (h : EncOk P e n) (hn : n ≤ 64) {x y : α} (hx : P x) (hy : P y) : fNe (e x) (e y) = some (.bool (!decide (x = y))) := by
  unfold fNe
  rw [if_pos ⟨h.shaped hn hx, h.shaped hn hy⟩, h.eqvD]
theorem EncOk.neS (h : EncOk P e n) (hn : n ≤ 64) {x : α} (hx : P x) : fNe (e x) (e x) = some (.bool false) := fNe_self (h.shaped hn hx)
theorem EncOk.eqS (h : EncOk P e n) (hn : n ≤ 64) {x : α} (hx : P x) : fEq (e x) (e x) = some (.bool true) := fEq_self (h.shaped hn hx)
theorem EncOk.isin [DecidableEq α] (h : EncOk P e n) (hn : n + 1 ≤ 64) (neg : Bool) {x : α} {ys : List α} (hx : P x) (hy : ∀ y ∈ ys, P y) : fIn neg (e x) (.list (ys.map e)) = some (.bool (if neg then !decide (x ∈ ys) else decide (x ∈ ys))) := by
  show fInD neg (e x) (.list (ys.map e)) = _
  unfold fInD
  dsimp only
  rw [if_pos ⟨h.shaped (by omega) hx, (encL h).shaped hn hy⟩]
  have : ((ys.map e).any fun z => PyData.eqv z (e x)) = decide (x ∈ ys) := by
    rw [List.any_map]
    have e1 : ((fun z => PyData.eqv z (e x)) ∘ e) = fun y => decide (y = x) := funext fun y => h.eqvD y x
    rw [e1]
    refine Bool.eq_iff_iff.mpr ?_
    rw [List.any_eq_true, decide_eq_true_eq]
    exact ⟨fun ⟨y, hy, e⟩ => by rw [← of_decide_eq_true e]; exact hy, fun hx => ⟨x, hx, decide_eq_true rfl⟩⟩
  rw [this]
end

theorem fAdd_map {α : Type} (e : α → D) {a b : List α} (h : a.length + b.length ≤ 16777216) : fAdd (.list (a.map e)) (.list (b.map e)) = some (.list ((a ++ b).map e)) := by
  rw [fAdd_list _ _ (by rw [List.length_map, List.length_map]; exact h), List.map_append]
def slotLen : Option Slot → Nat
  | some (.ow (.list xs)) => xs.length
  | some (.fz (.list xs)) => xs.length
  | _ => 0
end DK
end
section
set_option maxRecDepth 100000
set_option maxHeartbeats 1000000
namespace DK
open PySem PySem.W L2
/-! ### isinstance -/
section
variable (i : Int) (b : Bool) (z : Str) (xs : List D)
theorem isi_ii : fIsi "int" (.int i) = some (.bool true) := by show (kitB "int" "int").map _ = _; rw [show kitB "int" "int" = some true by decide +kernel]; rfl
theorem isi_ib : fIsi "int" (.bool b) = some (.bool true) := by show (kitB "bool" "int").map _ = _; rw [show kitB "bool" "int" = some true by decide +kernel]; rfl
theorem isi_bi : fIsi "bool" (.int i) = some (.bool false) := by show (kitB "int" "bool").map _ = _; rw [show kitB "int" "bool" = some false by decide +kernel]; rfl
theorem isi_bb : fIsi "bool" (.bool b) = some (.bool true) := by show (kitB "bool" "bool").map _ = _; rw [show kitB "bool" "bool" = some true by decide +kernel]; rfl
theorem isi_ss : fIsi "str" (.str z) = some (.bool true) := by show (kitB "str" "str").map _ = _; rw [show kitB "str" "str" = some true by decide +kernel]; rfl
theorem isi_ll : fIsi "list" (.list xs) = some (.bool true) := by show (kitB "list" "list").map _ = _; rw [show kitB "list" "list" = some true by decide +kernel]; rfl
theorem isi_tt : fIsi "tuple" (.tuple xs) = some (.bool true) := by show (kitB "tuple" "tuple").map _ = _; rw [show kitB "tuple" "tuple" = some true by decide +kernel]; rfl
theorem isi_lt : fIsi "list" (.tuple xs) = some (.bool false) := by show (kitB "tuple" "list").map _ = _; rw [show kitB "tuple" "list" = some false by decide +kernel]; rfl
theorem isi_tl : fIsi "tuple" (.list xs) = some (.bool false) := by show (kitB "list" "tuple").map _ = _; rw [show kitB "list" "tuple" = some false by decide +kernel]; rfl
end
/-! ### texts compared, counted, some times -/
theorem fCmp_T (p : Int → Int → Bool) (q : List Nat → List Nat → Bool) (a b : List Nat) : fCmp p q (.str (S a)) (.str (S b)) = some (.bool (q a b)) := rfl
theorem fCount_ch (l : List Nat) (c : Nat) : fCount (.str (S l)) [ch c] = some (.int ((l.filter fun x => decide (x = c)).length : Nat)) := by
  show some (PyData.int (Txt.count (S l) (S [c]))) = _
  unfold Txt.count
  have h : ∀ (l : List Nat) (b : Nat), ((List.range' b l.length).filter fun k => decide (l[k - b]? = some c)).length = (l.filter fun x => decide (x = c)).length := by
    intro l
    induction l with
    | nil => intro b; rfl
    | cons x l ih =>
      intro b
      have e : ((List.range' (b + 1) l.length).filter fun k => decide ((x :: l)[k - b]? = some c)) = ((List.range' (b + 1) l.length).filter fun k => decide (l[k - (b + 1)]? = some c)) := by
        refine List.filter_congr fun k hk => ?_
        have := List.mem_range'_1.mp hk
        rw [show k - b = (k - (b + 1)) + 1 by omega, List.getElem?_cons_succ]
      rw [List.length_cons, List.range'_succ]
      by_cases hx : x = c
      · rw [List.filter_cons_of_pos (by simp [hx]), List.filter_cons_of_pos (by simp [hx]), List.length_cons, List.length_cons, e, ih]
      · rw [List.filter_cons_of_neg (by simp [hx]), List.filter_cons_of_neg (by simp [hx]), e, ih]
  have h0 := h l 0
  rw [← List.range_eq_range'] at h0
  have h1 : ((List.range l.length).filter fun k => decide (l[k]? = some c)).length ≤ l.length := by
    have := List.length_filter_le (fun k => decide (l[k]? = some c)) (List.range l.length)
    rw [List.length_range] at this
    exact this
  rw [S_len, occ_one, List.take_of_length_le (by omega)]
  have h0 : ((List.range l.length).filter fun k => decide (l[k]? = some c)).length = (l.filter fun x => decide (x = c)).length := h0
  rw [h0]
theorem fMul_T (l : List Nat) (k : Nat) (h : l.length * k ≤ 16777216) (hk : k ≤ 16777216) : fMul (.str (S l)) (.int (k : Int)) = some (.str (S (List.replicate k l).flatten)) := by
  unfold fMul
  dsimp only
  rw [if_pos ⟨by omega, by omega, by rw [S_len, sizeL, Int.toNat_natCast]; exact h⟩]
  congr 2
/-! ### the letter before -/
theorem fIx_pre {l : List Nat} {k : Nat} (h : k < l.length) (hl : l.length ≤ 16777216) : fIx (.str (S l)) (.int ((k : Int) - 1)) = some (ch (l.getD ((k + l.length - 1) % l.length) 0)) := by
  cases k with
  | zero =>
    have e : (0 + l.length - 1) % l.length = l.length - 1 := by rw [Nat.zero_add]; exact Nat.mod_eq_of_lt (by omega)
    rw [e]
    show (if (S l).length ≤ sizeLine then _ else _) = _
    rw [if_pos (by rw [S_len, sizeL]; exact hl), S_list]
    have : atI l (((0 : Nat) : Int) - 1) = some (l.getD (l.length - 1) 0) := by
      unfold atI ixN
      rw [if_neg (by omega), if_pos (by omega)]
      show l[_]? = _
      rw [show (((0 : Nat) : Int) - 1 + (l.length : Int)).toNat = l.length - 1 by omega]
      exact get_some (by omega)
    rw [this]
    rfl
  | succ k =>
    have e : (k + 1 + l.length - 1) % l.length = k := by rw [show k + 1 + l.length - 1 = k + l.length by omega, Nat.add_mod_right]; exact Nat.mod_eq_of_lt (by omega)
    rw [e]
    exact fIx_S (k := k) (by omega) (get_some (by omega)) hl
/-! ### sorted, told by what is in order -/
theorem isort_map {α : Type} (e : α → D) : ∀ l : List α, isort dataLt (l.map e) = (isort (fun a b => dataLt (e a) (e b)) l).map e
  | [] => rfl
  | x :: l => by
    have h : ∀ m : List α, ins dataLt (e x) (m.map e) = (ins (fun a b => dataLt (e a) (e b)) x m).map e := by
      intro m
      induction m with
      | nil => rfl
      | cons y m ih =>
        rw [List.map_cons]
        unfold ins
        split
        · rw [ih]; rfl
        · rfl
    show ins dataLt (e x) (isort dataLt (l.map e)) = _
    rw [isort_map e l, h]
    rfl
structure SortOk {α : Type} (e : α → D) : Prop where
  alike : ∀ x y, alike (e x) (e y) = true
  kind : (∀ x, ∃ y r, e x = .tuple (y :: r)) ∨ ∀ x, e x ≠ .none ∧ ∀ xs, e x ≠ .tuple xs
theorem okS_map {α : Type} {P : α → Prop} {e : α → D} {n : Nat} (h : EncOk P e n) (hn : n < 64) (so : SortOk e) {l : List α} (hl : ∀ x ∈ l, P x) : okS (l.map e) = true := by
  unfold okS
  rw [(encL h).shaped (by omega) hl, Bool.true_and, Bool.and_eq_true]
  refine ⟨List.all_eq_true.mpr fun x hx => List.all_eq_true.mpr fun y hy => ?_, ?_⟩
  · obtain ⟨a, _, rfl⟩ := List.mem_map.mp hx
    obtain ⟨b, _, rfl⟩ := List.mem_map.mp hy
    exact so.alike a b
  · rw [Bool.or_eq_true]
    rcases so.kind with k | k
    · left
      refine List.all_eq_true.mpr fun x hx => ?_
      obtain ⟨a, _, rfl⟩ := List.mem_map.mp hx
      obtain ⟨y, r, e⟩ := k a
      rw [e]
    · right
      refine List.all_eq_true.mpr fun x hx => ?_
      obtain ⟨a, _, rfl⟩ := List.mem_map.mp hx
      obtain ⟨k1, k2⟩ := k a
      cases e : e a with
      | none => exact absurd e k1
      | tuple xs => exact absurd e (k2 xs)
      | _ => rfl
theorem fSortD_ex {α : Type} {P : α → Prop} {e : α → D} {n : Nat} (h : EncOk P e n) (hn : n < 64) (so : SortOk e) {l : List α} (hl : ∀ x ∈ l, P x) : ∃ m : List α, m.Perm l ∧ m.Pairwise (fun a b => dataLt (e b) (e a) = false) ∧ fSortD [.list (l.map e)] = some (m.map e) := by
  refine ⟨isort (fun a b => dataLt (e a) (e b)) l, isort_perm _ l, ?_, ?_⟩
  · have := isort_srtD (l.map e)
    rw [isort_map] at this
    exact List.pairwise_map.mp this
  · unfold fSortD
    dsimp only
    rw [if_pos (okS_map h hn so hl), isort_map]
theorem fSortD_eq {α : Type} {P : α → Prop} {e : α → D} {n : Nat} (h : EncOk P e n) (hn : n < 64) (so : SortOk e) {l m : List α} (hl : ∀ x ∈ l, P x) (hp : m.Perm l) (hm : m.Pairwise (fun a b => dataLt (e b) (e a) = false)) : fSortD [.list (l.map e)] = some (m.map e) := by
  unfold fSortD
  dsimp only
  rw [if_pos (okS_map h hn so hl)]
  congr 1
  refine srt_uniqOn (fun x hx y hy a1 a2 => ?_) (isort_srtD _) (List.pairwise_map.mpr hm) ((isort_perm dataLt _).trans (hp.map e).symm)
  have hx := (isort_perm dataLt (l.map e)).mem_iff.mp hx
  have hy := (isort_perm dataLt (l.map e)).mem_iff.mp hy
  obtain ⟨a, _, rfl⟩ := List.mem_map.mp hx
  obtain ⟨b, _, rfl⟩ := List.mem_map.mp hy
  exact eqv_eq (so.alike a b) (lt_eq (so.alike a b) a1 a2)
abbrev eT (l : List Nat) : D := .str (S l)
theorem sortT : SortOk eT := ⟨fun _ _ => rfl, .inr fun _ => ⟨(by intro z; cases z), (by intro xs z; cases z)⟩⟩
theorem ltT (a b : List Nat) : dataLt (eT a) (eT b) = decide (a < b) := dataLt_str _ _
abbrev eTN (p : List Nat × Nat) : D := .tuple [.str (S p.1), .int (p.2 : Int)]
theorem encTN : EncOk (fun p : List Nat × Nat => Lt p.1 ∧ Any p.2) eTN 1 := encP2 encT encN
theorem sortTN : SortOk eTN := ⟨fun _ _ => rfl, .inl fun _ => ⟨_, _, rfl⟩⟩
theorem ltTN {a b : List Nat × Nat} (h : dataLt (eTN b) (eTN a) = false) : ¬ b.1 < a.1 := by
  intro z
  have e := dataLt_pair (x := .str (S b.1)) (y := .int (b.2 : Int)) (x' := .str (S a.1)) (y' := .int (a.2 : Int)) rfl rfl
  rw [show dataLt (eTN b) (eTN a) = _ from e] at h
  have ne : PyData.eqv (.str (S b.1)) (.str (S a.1)) = false := by
    rw [encT.eqvD b.1 a.1]
    exact decide_eq_false fun q => by rw [q] at z; exact List.lt_irrefl _ z
  rw [ne, if_neg (by decide), dataLt_str] at h
  exact of_decide_eq_false h z

/-! ### runs at told data, by the kernel -/
mutual
def eqD : D → D → Bool
  | .none, .none => true
  | .bool a, .bool b => a == b
  | .int a, .int b => decide (a = b)
  | .str a, .str b => decide (a.cps.toList = b.cps.toList)
  | .list a, .list b => eqDs a b
  | .tuple a, .tuple b => eqDs a b
  | .dict a, .dict b => eqDk a b
  | _, _ => false
def eqDs : List D → List D → Bool
  | [], [] => true
  | x :: xs, y :: ys => eqD x y && eqDs xs ys
  | _, _ => false
def eqDk : List (D × D) → List (D × D) → Bool
  | [], [] => true
  | (x, u) :: xs, (y, v) :: ys => eqD x y && (eqD u v && eqDk xs ys)
  | _, _ => false
end
mutual
theorem eqD_ok : ∀ x y : D, eqD x y = true → x = y
  | .none, y, h => by cases y <;> first | rfl | (simp [eqD] at h)
  | .bool a, y, h => by cases y <;> simp [eqD] at h; rw [h]
  | .int a, y, h => by cases y <;> simp [eqD] at h; rw [h]
  | .str a, y, h => by
    cases y <;> simp [eqD] at h
    exact congrArg PyData.str (str_ext (by rw [h]))
  | .list a, y, h => by
    cases y <;> simp [eqD] at h
    rw [eqDs_ok _ _ h]
  | .tuple a, y, h => by
    cases y <;> simp [eqD] at h
    rw [eqDs_ok _ _ h]
  | .dict a, y, h => by
    cases y <;> simp [eqD] at h
    rw [eqDk_ok _ _ h]
theorem eqDs_ok : ∀ x y : List D, eqDs x y = true → x = y
  | [], y, h => by cases y <;> first | rfl | (simp [eqDs] at h)
  | x :: xs, y, h => by
    cases y with
    | nil => simp [eqDs] at h
    | cons y ys =>
      simp only [eqDs, Bool.and_eq_true] at h
      rw [eqD_ok _ _ h.1, eqDs_ok _ _ h.2]
theorem eqDk_ok : ∀ x y : List (D × D), eqDk x y = true → x = y
  | [], y, h => by cases y <;> first | rfl | (simp [eqDk] at h)
  | (x, u) :: xs, y, h => by
    cases y with
    | nil => simp [eqDk] at h
    | cons q ys =>
      obtain ⟨y, v⟩ := q
      simp only [eqDk, Bool.and_eq_true] at h
      rw [eqD_ok _ _ h.1, eqD_ok _ _ h.2.1, eqDk_ok _ _ h.2.2]
end
def isD (r : Option D) (y : D) : Bool := match r with
  | some x => eqD x y
  | none => false
theorem by_calc {r : Option D} {y : D} (h : isD r y = true) : r = some y := by
  unfold isD at h
  split at h
  · rw [eqD_ok _ _ h]
  · cases h
/-! ### sums of numbers of letters as such -/
theorem castA (a b : Nat) : (a : Int) + (b : Int) = ((a + b : Nat) : Int) := (Int.natCast_add a b).symm
theorem castA1 (a : Nat) : (a : Int) + 1 = ((a + 1 : Nat) : Int) := rfl
theorem cast1A (a : Nat) : (1 : Int) + (a : Int) = ((1 + a : Nat) : Int) := by omega
theorem castM (a b : Nat) : (a : Int) % (b : Int) = ((a % b : Nat) : Int) := (Int.natCast_emod a b).symm
theorem castD (a b : Nat) : (a : Int) / (b : Int) = ((a / b : Nat) : Int) := (Int.natCast_ediv a b).symm
theorem castX (a b : Nat) : (a : Int) * (b : Int) = ((a * b : Nat) : Int) := (Int.natCast_mul a b).symm
/-! ### drawn letters -/
theorem lc_draws {D1 : FS → List Slot} {f : IR} {i : Nat} {e : ER} {fs : FS} {xs : List D} (hf : f (D1 fs) = some (xs, D1 fs)) (hv : noOwn (D1 fs)[i]? = true) (hg : ∀ fs x, gN i x (wipeD (D1 fs) [i]) = some ((D1 fs).set i (.fz x)))
    (hb : ∀ fs' x, backD (D1 fs) [i] ((D1 fs').set i (.fz x)) = some (D1 fs')) (P : D → Prop) (he : ∀ fs x, fs.ok → ∃ c fs', e ((D1 fs).set i (.fz x)) = some (c, (D1 fs').set i (.fz x)) ∧ P c ∧ fs'.ok) (ok : fs.ok) (hl : xs.length ≤ 16777216) :
    ∃ t fs', rLc f (gN i) rYes e [i] (D1 fs) = some (.list t, D1 fs') ∧ t.length = xs.length ∧ (∀ c ∈ t, P c) ∧ fs'.ok := by
  obtain ⟨ys, d2, e2, fs', rfl, h1, h2, ok'⟩ := lc_invT (f := f) (g := gN i) (t := rYes) (e := e) (vs := [i]) (d := D1 fs) (d1 := D1 fs) (xs := xs) (fun k acc d => ∃ fs', d = D1 fs' ∧ acc.length = k ∧ (∀ c ∈ acc, P c) ∧ fs'.ok) hf (by rw [List.all_cons, hv]; rfl) ⟨fs, rfl, rfl, fun c h => (by cases h), ok⟩ (by
    rintro k acc d hk ⟨fs1, rfl, h1, h2, ok1⟩
    obtain ⟨c, fs2, e3, pc, ok2⟩ := he fs1 xs[k] ok1
    refine ⟨_, hg fs1 _, true, _, rfl, fun _ => ⟨c, _, _, e3, hb fs2 _, fs2, rfl, by rw [List.length_append, h1]; rfl, fun x hx => ?_, ok2⟩, fun z => (by cases z)⟩
    rcases List.mem_append.mp hx with q | q
    · exact h2 x q
    · rw [List.mem_singleton.mp q]; exact pc) (by
    rintro k acc d ⟨fs1, rfl, h1, _⟩
    omega) hl
  exact ⟨ys, fs', e2, h1, h2, ok'⟩
/-- a list of signs is a text's -/
theorem signs_of : ∀ {t : List D}, (∀ c ∈ t, ∃ a ∈ abc, c = ch a) → ∃ l : List Nat, t = l.map ch ∧ l.length = t.length ∧ ∀ a ∈ l, a ∈ abc
  | [], _ => ⟨[], rfl, rfl, fun _ h => by cases h⟩
  | c :: t, h => by
    obtain ⟨a, ha, rfl⟩ := h c List.mem_cons_self
    obtain ⟨l, rfl, hl, hm⟩ := signs_of (t := t) fun c hc => h c (List.mem_cons_of_mem _ hc)
    refine ⟨a :: l, rfl, by rw [List.length_cons, List.length_cons, hl], fun x hx => ?_⟩
    rcases List.mem_cons.mp hx with q | q
    · rw [q]; exact ha
    · exact hm x q
theorem abc_ix {r : Nat} (h : r < 8) : fIx (.str (S abc)) (.int (r : Int)) = some (ch (abc.getD r 0)) ∧ abc.getD r 0 ∈ abc := by
  have hr : r < abc.length := h
  refine ⟨fIx_T hr (by decide), ?_⟩
  rw [List.getD_eq_getElem?_getD, List.getElem?_eq_getElem hr]
  exact List.getElem_mem hr
theorem Lt_abc {l : List Nat} (h : ∀ c ∈ l, c ∈ abc) : Lt l := fun c hc => by
  have := h c hc
  have all : ∀ c ∈ abc, c < 1114112 := by decide
  exact all c this
theorem drawN {fs : FS} {n : Nat} (ok : fs.ok) (h0 : 0 < n) (h1 : n < 1000000000) : ∃ (r : Nat) (fs' : FS), m_draw fs [.int (n : Int)] = some (.int (r : Int), fs') ∧ r < n ∧ fs'.ok := by
  obtain ⟨r, fs', e, h2, h3, ok'⟩ := draw_one (n := (n : Int)) ok (by omega) (by omega)
  obtain ⟨k, rfl⟩ := Int.eq_ofNat_of_zero_le h2
  exact ⟨k, fs', e, by omega, ok'⟩
theorem start_ok (script : List Int) : FS.ok ⟨script, 0, 0, 1⟩ := ⟨Int.le_refl 0, Int.le_refl 0, (by show (0 : Int) ≤ 1; omega), (by show (1 : Int) < 2147483647; omega)⟩
theorem sAsgCallF' {mr : FS → List D → Option (D × FS)} {j : Nat} {a : AR} {g : GR} {d d1 d2 : List Slot} {fs0 fs fs' : FS} {xs : List D} {y : D} (h0 : d[j]? = some (.fd fs0)) (ha : a d = some (xs, d1)) (h1 : d1[j]? = some (.fd fs)) (hm : mr fs xs = some (y, fs')) (hg : g y (d1.set j (.fd fs')) = some d2) : sAsg (rCallF j mr a) g d = some (.nx d2) := by
  unfold sAsg rCallF
  rw [h0]
  dsimp only
  rw [ha]
  simp only [bd_some, h1, hm, ob_some, hg]

/-- a comprehension over an owned list, told by one over the same items -/
theorem lcO_of {i : Nat} {g : GR} {t : TR} {e : ER} {vs : List Nat} {d d0 d2 d3 : List Slot} {xs ys zs : List D} (h : d[i]? = some (.ow (.list xs))) (h0 : d.set i .un = d0) (hr : rLc (fun d => some (xs, d)) g t e vs d0 = some (.list ys, d2)) (h2 : d2[i]? = some .un) (hz : ys = zs) (h3 : d2.set i (.ow (.list xs)) = d3 := by rfl) : rLcO i g t e vs d = some (.list zs, d3) := by
  subst h0 hz h3
  unfold rLc at hr
  dsimp only [bd_some] at hr
  unfold rLcO
  rw [h]
  dsimp only
  have hr : (if (vs.all fun v => noOwn (d.set i .un)[v]?) = true then bd (lcR g t e vs (d.set i .un) xs [] (d.set i .un)) fun ys d2 => some (PyData.list ys, d2) else none) = some (.list ys, d2) := hr
  split at hr
  · rename_i hv
    rw [if_pos hv]
    obtain ⟨ws, d5, e5, hr⟩ := of_bd hr
    cases hr
    rw [e5]
    simp only [bd_some, h2]
  · cases hr
end DK
end
section
--DZ
--DZC
set_option maxRecDepth 100000
set_option maxHeartbeats 4000000
/-! what several laws share: words of the eight letters, drawn; ranges from 1; lists of told numbers -/
namespace DK
open PySem L2
local macro_rules | `(tactic| simp! [$ts,*]) => `(tactic| simp -implicitDefEqProofs (disch := first | assumption | omega) only [sAsg, sAsgN, sRet, sDrop, sNext, sApp, sExt, sAug, sSetL, sDPutR, sFS, sFA, sPar, rVar, rVarB, rC, rB, rOp2, rOp2N, rOp1, rOpA, rOpAN, rOpM, rOpM1, rLst, rTup, rSl, rSlN, rPart, rNoPart, rNilA, rConsA, rNilB, rConsB, rT, rAndT, rOrT, rNotT, rIf, rAndV, rOrV, rNotV, rChain, rYes, rDNew, rDGet, rPopI, rLrg, iX, iE, iZ, gN, gT, gConsR, gNilR, bd_some, ob_some, BV.get, slotD, getAll, isB, isL1, isL2, notFd_un, notFd_fz, notFd_ow, noOwn_un, noOwn_fz, noOwn_nil, wipeD, backD, itemsOf, fSub, fNeg, fInt, fAbs, fList, fLen_list, fLen_tuple, fAdd_int, fCmp, keyOf, oneCh, List.getElem?_cons_zero, List.getElem?_cons_succ, List.set_cons_zero, List.set_cons_succ, List.length_cons, List.length_nil, List.map_cons, List.map_nil, List.append_nil, List.nil_append, if_true, if_false, reduceIte, Bool.not_true, Bool.not_false, and_self, and_true, true_and, reduceCtorEq, rFI, rFL, rFN, fdAt, get1, get2, get3, put1, put2, put3, fMul_ok, fMod_pos, fDiv_pos, fEq_int, fNe_int, ltI, leI, gtI, geI, fLen_S, fAdd_S, fAdd_list, fSum_dI, fPow18, rCallF, rCall, rCallB, flatD, Option.map_some, Option.map_none, okT_str, okT_list, okT_dict, size_le, Nat.reduceAdd, Nat.reduceLT, List.length_map, List.length_range, List.length_append, size_lt, J.nf, J.no, jun, jfz, ixN_cast, fIx_N, fIx_T, fIx_t0, fIx_t1, fRev_l, fIn_ch, index_ch, fRev_S, chars_ch, wipeD, backD, List.getElem?_nil, List.all_cons, List.all_nil, Bool.and_true, Bool.and_self, iZG, srcItems, pairsOf_T, counted_T, fSl_lan, fSl_la, fSl_lb, fSl_Tan, fSl_Ta, fSl_Tb, rev_map, drop_map, take_map, fRepL_one, fAdd_map, castA, castA1, cast1A, castM, castD, castX, fSl_Tab, fSl_lab, isi_ii, isi_ib, isi_bi, isi_bb, isi_ss, isi_ll, isi_tt, isi_lt, isi_tl, fCmp_T, fCount_ch, fMul_T, fIx_pre, sAsgO, sRetO, sRetF, isB, fInt, S_list, ltS, leS, gtS, geS, $ts,*])
def AB (l : List Nat) : Prop := ∀ c ∈ l, c ∈ abc
theorem AB.lt {l : List Nat} (h : AB l) : Lt l := Lt_abc h
theorem AB.take {l : List Nat} (h : AB l) (k : Nat) : AB (l.take k) := fun c hc => h c (List.mem_of_mem_take hc)
theorem AB.drop {l : List Nat} (h : AB l) (k : Nat) : AB (l.drop k) := fun c hc => h c (List.mem_of_mem_drop hc)
theorem AB.app {l m : List Nat} (h : AB l) (g : AB m) : AB (l ++ m) := fun c hc => by
  rcases List.mem_append.mp hc with q | q
  · exact h c q
  · exact g c q
theorem AB.rep {l : List Nat} (h : AB l) (k : Nat) : AB (List.replicate k l).flatten := fun c hc => by
  obtain ⟨m, hm, hc⟩ := List.mem_flatten.mp hc
  rw [(List.mem_replicate.mp hm).2] at hc
  exact h c hc
theorem AB.one {c : Nat} (h : c ∈ abc) : AB [c] := fun x hx => by rw [List.mem_singleton.mp hx]; exact h
theorem rep_len (k : Nat) (l : List Nat) : (List.replicate k l).flatten.length = l.length * k := by
  rw [List.length_flatten, List.map_replicate, List.sum_replicate_nat, Nat.mul_comm]
theorem ix4 {a b c e : Int} {r : Nat} (h : r < 4) (ha : 0 ≤ a) (hb : 0 ≤ b) (hc : 0 ≤ c) (he : 0 ≤ e) : ∃ m : Nat, fIx (.list [.int a, .int b, .int c, .int e]) (.int (r : Int)) = some (.int (m : Int)) ∧ ((m : Int) = a ∨ (m : Int) = b ∨ (m : Int) = c ∨ (m : Int) = e) := by
  have : r = 0 ∨ r = 1 ∨ r = 2 ∨ r = 3 := by omega
  obtain ⟨a, rfl⟩ := Int.eq_ofNat_of_zero_le ha
  obtain ⟨b, rfl⟩ := Int.eq_ofNat_of_zero_le hb
  obtain ⟨c, rfl⟩ := Int.eq_ofNat_of_zero_le hc
  obtain ⟨e, rfl⟩ := Int.eq_ofNat_of_zero_le he
  rcases this with rfl | rfl | rfl | rfl
  · exact ⟨a, fIx_list rfl rfl, .inl rfl⟩
  · exact ⟨b, fIx_list rfl rfl, .inr (.inl rfl)⟩
  · exact ⟨c, fIx_list rfl rfl, .inr (.inr (.inl rfl))⟩
  · exact ⟨e, fIx_list rfl rfl, .inr (.inr (.inr rfl))⟩
theorem ix3 {a b c : Int} {r : Nat} (h : r < 3) (ha : 0 ≤ a) (hb : 0 ≤ b) (hc : 0 ≤ c) : ∃ m : Nat, fIx (.list [.int a, .int b, .int c]) (.int (r : Int)) = some (.int (m : Int)) ∧ ((m : Int) = a ∨ (m : Int) = b ∨ (m : Int) = c) := by
  have : r = 0 ∨ r = 1 ∨ r = 2 := by omega
  obtain ⟨a, rfl⟩ := Int.eq_ofNat_of_zero_le ha
  obtain ⟨b, rfl⟩ := Int.eq_ofNat_of_zero_le hb
  obtain ⟨c, rfl⟩ := Int.eq_ofNat_of_zero_le hc
  rcases this with rfl | rfl | rfl
  · exact ⟨a, fIx_list rfl rfl, .inl rfl⟩
  · exact ⟨b, fIx_list rfl rfl, .inr (.inl rfl)⟩
  · exact ⟨c, fIx_list rfl rfl, .inr (.inr rfl)⟩
theorem drawZ {fs : FS} {n : Int} (ok : fs.ok) (h0 : 0 < n) (h1 : n < 1000000000) : ∃ (r : Nat) (fs' : FS), m_draw fs [.int n] = some (.int (r : Int), fs') ∧ (r : Int) < n ∧ fs'.ok := by
  obtain ⟨r, fs', e, h2, h3, ok'⟩ := draw_one (n := n) ok (by omega) (by omega)
  obtain ⟨k, rfl⟩ := Int.eq_ofNat_of_zero_le h2
  exact ⟨k, fs', e, h3, ok'⟩
theorem lc_from {f : IR} {g : GR} {t : TR} {e : ER} {vs : List Nat} {d d1 : List Slot} {xs : List D} (hf : f d = some (xs, d1)) : rLc f g t e vs d = rLc (fun d => some (xs, d)) g t e vs d1 := by
  unfold rLc
  rw [hf]
/-- drawn letters joined -/
theorem draw_text (D1 : FS → List Slot) {f : IR} {d : List Slot} {i k : Nat} {a : AR} {fs : FS} {xs : List D} {few : Int} (hf : f d = some (xs, D1 fs)) (hv : noOwn (D1 fs)[i]? = true) (hg : ∀ fs x, gN i x (wipeD (D1 fs) [i]) = some ((D1 fs).set i (.fz x)))
    (hb : ∀ fs fs' x, backD (D1 fs) [i] ((D1 fs').set i (.fz x)) = some (D1 fs')) (he : ∀ fs x r fs', m_draw fs [.int few] = some (.int (r : Int), fs') → rCallF k m_draw a ((D1 fs).set i (.fz x)) = some (.int (r : Int), (D1 fs').set i (.fz x)))
    (h0 : 0 < few) (h8 : few ≤ 8) (ok : fs.ok) (hl : xs.length ≤ 1000) :
    ∃ l fs', rLc f (gN i) rYes (rOp2 fIx (rB (rC (.str (S abc)))) (rB (rCallF k m_draw a))) [i] d = some (.list (l.map ch), D1 fs') ∧ fJoin (.str (S [])) [.list (l.map ch)] = some (.str (S l)) ∧ l.length = xs.length ∧ AB l ∧ fs'.ok := by
  obtain ⟨t, fs', e, hlen, hP, ok'⟩ := lc_draws (D1 := D1) (f := fun d => some (xs, d)) (e := rOp2 fIx (rB (rC (.str (S abc)))) (rB (rCallF k m_draw a))) (fs := fs) (xs := xs) rfl hv hg (fun fs' x => hb fs fs' x) (fun c => ∃ a ∈ abc, c = ch a) (fun fs x ok => by
    obtain ⟨r, fs2, e1, r1, ok2⟩ := drawZ (n := few) ok h0 (by omega)
    obtain ⟨e2, hm⟩ := abc_ix (r := r) (by omega)
    have e3 := he fs x r fs2 e1
    refine ⟨_, fs2, ?_, ⟨_, hm, rfl⟩, ok2⟩
    unfold rOp2 rB rC
    simp only [bd_some, e3, BV.get, ob_some, e2]) ok (by omega)
  obtain ⟨l, rfl, hl2, hab⟩ := signs_of hP
  rw [lc_from hf]
  exact ⟨l, fs', e, fJoin_ch l (by omega), by rw [hl2, hlen], hab, ok'⟩
theorem rowI_1 (n : Nat) : rowI 1 1 (n - 1) = (List.range (n - 1)).map fun (i : Nat) => PyData.int (((i + 1 : Nat) : Nat) : Int) := by
  unfold rowI
  refine List.map_congr_left fun i _ => ?_
  congr 1
  omega
theorem iR12 {e : ER} {d d1 : List Slot} {n : Nat} (h : e d = some (.int n, d1)) (hn : n < 2 ^ 61) : iR rng2 (rConsA (rC (.int 1)) (rConsA e rNilA)) d = some ((List.range (n - 1)).map fun (i : Nat) => PyData.int (((i + 1 : Nat) : Nat) : Int), d1) := by
  rw [iR2 (i := 1) (j := n) (d1 := d) rfl h (by omega) (by omega) (by omega) (by omega)]
  rw [← rowI_1, show ((n : Int) - 1).toNat = n - 1 by omega]
theorem iR12' {e : ER} {d d1 : List Slot} {n : Nat} (h : e d = some (.int n, d1)) (hn : n ≤ 1000) : iR rng2 (rConsA (rC (.int 1)) (rConsA (rOp2 fAdd (rB e) (rB (rC (.int 1)))) rNilA)) d = some ((List.range n).map fun (i : Nat) => PyData.int (((i + 1 : Nat) : Nat) : Int), d1) := by
  have := iR12 (e := rOp2 fAdd (rB e) (rB (rC (.int 1)))) (d := d) (d1 := d1) (n := n + 1) (by unfold rOp2 rB rC; simp only [h, bd_some, BV.get, ob_some, fAdd_int]; rfl) (by omega)
  rw [Nat.add_sub_cancel] at this
  exact this
theorem fMin_NN (a : Int) (b : Nat) (m : Nat) (ha : a = (m : Int)) : fMin [.int a, .int (b : Int)] = some (.int ((min m b : Nat) : Int)) := by
  subst ha
  unfold fMin
  dsimp only
  split
  · rw [show min m b = b by omega]
  · rw [show min m b = m by omega]
theorem two_eq {i : Nat} (h : i < 4) : ∃ m : Nat, fDiv (.int (i : Int)) (.int 2) = some (.int (m : Int)) ∧ m < 2 := ⟨i / 2, by rw [fDiv_pos (i : Int) 2 (by omega) (by omega)]; rfl, by omega⟩
theorem ix2 {r : Nat} (h : r < 2) : ∃ m : Nat, fIx (.list [.int 3, .int 8]) (.int (r : Int)) = some (.int (m : Int)) ∧ 0 < m ∧ m ≤ 8 := by
  have : r = 0 ∨ r = 1 := by omega
  rcases this with rfl | rfl
  · exact ⟨3, fIx_list rfl rfl, by omega, by omega⟩
  · exact ⟨8, fIx_list rfl rfl, by omega, by omega⟩
theorem rLrg_ok {a : AR} {d d1 : List Slot} {xs zs : List D} (h : a d = some (xs, d1)) (e : lrg xs = some zs) : rLrg a d = some (.list zs, d1) := by
  unfold rLrg
  rw [h]
  show ob (lrg xs) _ = _
  rw [e]
  rfl
theorem sExt_ok {i : Nat} {e : ER} {d d1 d2 : List Slot} {xs0 xs ys : List D} (h0 : d[i]? = some (.ow (.list xs0))) (hb : e d = some (.list ys, d1)) (h1 : d1[i]? = some (.ow (.list xs))) (hl : xs.length + ys.length ≤ 16777216) (h2 : d1.set i (.ow (.list (xs ++ ys))) = d2) : sExt i (rB e) d = some (.nx d2) := by
  unfold sExt rB
  rw [h0]
  dsimp only
  rw [hb]
  simp only [bd_some, BV.get, ob_some, h1]
  rw [if_pos (by rw [sizeL]; exact hl), h2]
theorem fSum_dN (ns : List Nat) : fSum [.list (ns.map fun (n : Nat) => .int (n : Int))] = some (.int (ns.sum : Nat)) := by
  show fSum [dN ns] = _
  rw [dN_dI, fSum_dI]
  have : (List.map (fun (n : Nat) => (n : Int)) ns).sum = ((ns.sum : Nat) : Int) := by
    induction ns with
    | nil => rfl
    | cons n ns ih =>
      rw [List.map_cons, List.sum_cons, List.sum_cons, ih]
      omega
  rw [this]
theorem sortN' : SortOk (fun (n : Nat) => PyData.int (n : Int)) := ⟨fun _ _ => rfl, .inr fun _ => ⟨(by intro z; cases z), (by intro xs z; cases z)⟩⟩
theorem ordN : Ord ltN := ⟨fun x y h => decide_eq_false (by have := of_decide_eq_true h; omega), fun x y z h k => decide_eq_false (by have := of_decide_eq_false h; have := of_decide_eq_false k; omega), fun x y h k => by have := of_decide_eq_false h; have := of_decide_eq_false k; omega⟩
theorem sortD_N (l : List Nat) : fSortD [.list (l.map fun (n : Nat) => PyData.int (n : Int))] = some ((isort ltN l).map fun (n : Nat) => PyData.int (n : Int)) := by
  refine fSortD_eq encN (by decide) sortN' (fun _ _ => trivial) (isort_perm ltN l) ((isort_srt ordN l).imp fun {a b} h => ?_)
  rw [PySem.W.dataLt_int]
  have h := of_decide_eq_false h
  exact decide_eq_false (by omega)
theorem iR12b {b : BR} {bv : BV} {d d1 : List Slot} {n : Nat} (h : b d = some (bv, d1)) (hg : bv.get d1 = some (.int (n : Int))) (hn : n ≤ 1000) : iR rng2 (rConsA (rC (.int 1)) (rConsA (rOp2 fAdd b (rB (rC (.int 1)))) rNilA)) d = some ((List.range n).map fun (i : Nat) => PyData.int (((i + 1 : Nat) : Nat) : Int), d1) := by
  have := iR12 (e := rOp2 fAdd b (rB (rC (.int 1)))) (d := d) (d1 := d1) (n := n + 1) (by
    unfold rOp2 rB rC
    simp only [h, bd_some]
    show ob (bv.get d1) _ = _
    rw [hg]
    rfl) (by omega)
  rw [Nat.add_sub_cancel] at this
  exact this
theorem ok_rng1b {b : BR} {bv : BV} {r : Nat} {g : GR} {b2 : SR} {d d1 : List Slot} {P : Out → Prop} (hf : b d = some (bv, d1)) (hg : bv.get d1 = some (.int (r : Int))) (hr : r ≤ 1000) (I : Nat → List Slot → Prop) (h0 : I 0 d1)
    (hs : ∀ k d, k < r → I k d → ∃ d2, g (.int ((k + 1 : Nat) : Int)) d = some d2 ∧ Ok (b2 d2) fun o => match o with
      | .nx d3 => I (k + 1) d3
      | .ct d3 => I (k + 1) d3
      | .bk d3 => P (.nx d3)
      | .rt y d3 => P (.rt y d3)) (hd : ∀ d, I r d → P (.nx d)) : Ok (sFor (iR rng2 (rConsA (rC (.int 1)) (rConsA (rOp2 fAdd b (rB (rC (.int 1)))) rNilA))) g b2 d) P := by
  refine ok_forT (ys := List.range r) (enc := fun (i : Nat) => PyData.int (((i + 1 : Nat) : Nat) : Int)) (iR12b hf hg hr) I h0 ?_ ?_
  · intro k d hk hI
    rw [List.length_range] at hk
    rw [List.getElem_range]
    exact hs k d hk hI
  · intro d hI
    rw [List.length_range] at hI
    exact hd d hI
/-- a range from 1 to n, both within -/
theorem ok_rng1 {e : ER} {r : Nat} {g : GR} {b : SR} {d d1 : List Slot} {P : Out → Prop} (hf : e d = some (.int r, d1)) (hr : r ≤ 1000) (I : Nat → List Slot → Prop) (h0 : I 0 d1)
    (hs : ∀ k d, k < r → I k d → ∃ d2, g (.int ((k + 1 : Nat) : Int)) d = some d2 ∧ Ok (b d2) fun o => match o with
      | .nx d3 => I (k + 1) d3
      | .ct d3 => I (k + 1) d3
      | .bk d3 => P (.nx d3)
      | .rt y d3 => P (.rt y d3)) (hd : ∀ d, I r d → P (.nx d)) : Ok (sFor (iR rng2 (rConsA (rC (.int 1)) (rConsA (rOp2 fAdd (rB e) (rB (rC (.int 1)))) rNilA))) g b d) P := by
  refine ok_forT (ys := List.range r) (enc := fun (i : Nat) => PyData.int (((i + 1 : Nat) : Nat) : Int)) (iR12' hf hr) I h0 ?_ ?_
  · intro k d hk hI
    rw [List.length_range] at hk
    rw [List.getElem_range]
    exact hs k d hk hI
  · intro d hI
    rw [List.length_range] at hI
    exact hd d hI
end DK
end
section
--DZ
--DZC
set_option maxRecDepth 100000
set_option maxHeartbeats 4000000
/-! comprehensions over one name that leave the state: to be rewritten where they stand -/
namespace DK
open PySem L2
local macro_rules | `(tactic| simp! [$ts,*]) => `(tactic| simp -implicitDefEqProofs (disch := first | assumption | omega) only [sAsg, sAsgN, sRet, sDrop, sNext, sApp, sExt, sAug, sSetL, sDPutR, sFS, sFA, sPar, rVar, rVarB, rC, rB, rOp2, rOp2N, rOp1, rOpA, rOpAN, rOpM, rOpM1, rLst, rTup, rSl, rSlN, rPart, rNoPart, rNilA, rConsA, rNilB, rConsB, rT, rAndT, rOrT, rNotT, rIf, rAndV, rOrV, rNotV, rChain, rYes, rDNew, rDGet, rPopI, rLrg, iX, iE, iZ, gN, gT, gConsR, gNilR, bd_some, ob_some, BV.get, slotD, getAll, isB, isL1, isL2, notFd_un, notFd_fz, notFd_ow, noOwn_un, noOwn_fz, noOwn_nil, wipeD, backD, itemsOf, fSub, fNeg, fInt, fAbs, fList, fLen_list, fLen_tuple, fAdd_int, fCmp, keyOf, oneCh, List.getElem?_cons_zero, List.getElem?_cons_succ, List.set_cons_zero, List.set_cons_succ, List.length_cons, List.length_nil, List.map_cons, List.map_nil, List.append_nil, List.nil_append, if_true, if_false, reduceIte, Bool.not_true, Bool.not_false, and_self, and_true, true_and, reduceCtorEq, rFI, rFL, rFN, fdAt, get1, get2, get3, put1, put2, put3, fMul_ok, fMod_pos, fDiv_pos, fEq_int, fNe_int, ltI, leI, gtI, geI, fLen_S, fAdd_S, fAdd_list, fSum_dI, fPow18, rCallF, rCall, rCallB, flatD, Option.map_some, Option.map_none, okT_str, okT_list, okT_dict, size_le, Nat.reduceAdd, Nat.reduceLT, List.length_map, List.length_range, List.length_append, size_lt, J.nf, J.no, jun, jfz, ixN_cast, fIx_N, fIx_T, fIx_t0, fIx_t1, fRev_l, fIn_ch, index_ch, fRev_S, chars_ch, wipeD, backD, List.getElem?_nil, List.all_cons, List.all_nil, Bool.and_true, Bool.and_self, iZG, srcItems, pairsOf_T, counted_T, fSl_lan, fSl_la, fSl_lb, fSl_Tan, fSl_Ta, fSl_Tb, rev_map, drop_map, take_map, fRepL_one, fAdd_map, castA, castA1, cast1A, castM, castD, castX, fSl_Tab, fSl_lab, isi_ii, isi_ib, isi_bi, isi_bb, isi_ss, isi_ll, isi_tt, isi_lt, isi_tl, fCmp_T, fCount_ch, fMul_T, fIx_pre, sAsgO, sRetO, sRetF, isB, fInt, S_list, ltS, leS, gtS, geS, $ts,*])
theorem lcP_map {α β : Type} {enc : α → D} {ys : List α} {f : IR} {e : ER} {i : Nat} {d : List Slot} (eb : β → D) (G : α → β) (hf : f d = some (ys.map enc, d)) (hv : noOwn d[i]? = true) (hi : i < d.length) (h : ∀ y ∈ ys, e (d.set i (.fz (enc y))) = some (eb (G y), d.set i (.fz (enc y)))) (hl : ys.length ≤ 16777216) : rLc f (gN i) rYes e [i] d = some (.list ((ys.map G).map eb), d) :=
  lc_mapT eb G hf (by rw [List.all_cons, hv]; rfl) (fun y hy => ⟨_, gN1 hi, _, h y hy, back1 hi rfl hv⟩) hl
theorem lcP_fil {α β : Type} {enc : α → D} {ys : List α} {f : IR} {t : TR} {e : ER} {i : Nat} {d : List Slot} (eb : β → D) (G : α → β) (p : α → Bool) (hf : f d = some (ys.map enc, d)) (hv : noOwn d[i]? = true) (hi : i < d.length) (ht : ∀ y ∈ ys, t (d.set i (.fz (enc y))) = some (p y, d.set i (.fz (enc y)))) (h : ∀ y ∈ ys, p y = true → e (d.set i (.fz (enc y))) = some (eb (G y), d.set i (.fz (enc y)))) (hl : ys.length ≤ 16777216) : rLc f (gN i) t e [i] d = some (.list (((ys.filter p).map G).map eb), d) :=
  lc_filT eb G p hf (by rw [List.all_cons, hv]; rfl) (fun y hy => ⟨_, gN1 hi, _, ht y hy, fun q => ⟨_, h y hy q, back1 hi rfl hv⟩, fun _ => back1 hi rfl hv⟩) hl
theorem lcP_sub {α : Type} {enc : α → D} {ys : List α} {f : IR} {t : TR} {i : Nat} {d : List Slot} (p : α → Bool) (hf : f d = some (ys.map enc, d)) (hv : noOwn d[i]? = true) (hi : i < d.length) (ht : ∀ y ∈ ys, t (d.set i (.fz (enc y))) = some (p y, d.set i (.fz (enc y)))) (hl : ys.length ≤ 16777216) : rLc f (gN i) t (rVar i) [i] d = some (.list ((ys.filter p).map enc), d) := by
  rw [lcP_fil enc id p hf hv hi ht (fun y hy _ => by unfold rVar; rw [List.getElem?_set_self hi]; rfl) hl, List.map_id]
theorem tru_b (b : Bool) : truD2 (.bool b) = some b := rfl
theorem tru_l (xs : List D) : truD2 (.list xs) = some (!xs.isEmpty) := rfl
theorem zip_rng {α : Type} (z : α) (l : List α) : (List.range l.length).zip l = (List.range l.length).map fun k => (k, l.getD k z) := by
  apply List.ext_getElem
  · simp
  · intro i h1 h2
    have : i < l.length := by simpa using h2
    simp [this]
theorem counted_S (l : List Nat) : counted (l.map ch) = (List.range l.length).map fun (k : Nat) => PyData.tuple [.int (k : Int), ch (l.getD k 0)] := by
  rw [counted_T, zip_rng 0, List.map_map]
  rfl
theorem iEX_ch {a : AR} {d d1 : List Slot} {l : List Nat} (h : a d = some ([.str (S l)], d1)) : iEX a d = some ((List.range l.length).map fun (k : Nat) => PyData.tuple [.int (k : Int), ch (l.getD k 0)], d1) := by
  rw [← counted_S, ← chars_ch]
  unfold iEX
  rw [h]
  rfl
end DK
end
section
--DZ
--DZC
set_option maxRecDepth 100000
set_option maxHeartbeats 4000000
/-! dicts by texts or numbers; lists without repeats -/
namespace DK
open PySem L2
local macro_rules | `(tactic| simp! [$ts,*]) => `(tactic| simp -implicitDefEqProofs (disch := first | assumption | omega) only [sAsg, sAsgN, sRet, sDrop, sNext, sApp, sExt, sAug, sSetL, sDPutR, sFS, sFA, sPar, rVar, rVarB, rC, rB, rOp2, rOp2N, rOp1, rOpA, rOpAN, rOpM, rOpM1, rLst, rTup, rSl, rSlN, rPart, rNoPart, rNilA, rConsA, rNilB, rConsB, rT, rAndT, rOrT, rNotT, rIf, rAndV, rOrV, rNotV, rChain, rYes, rDNew, rDGet, rPopI, rLrg, iX, iE, iZ, gN, gT, gConsR, gNilR, bd_some, ob_some, BV.get, slotD, getAll, isB, isL1, isL2, notFd_un, notFd_fz, notFd_ow, noOwn_un, noOwn_fz, noOwn_nil, wipeD, backD, itemsOf, fSub, fNeg, fInt, fAbs, fList, fLen_list, fLen_tuple, fAdd_int, fCmp, keyOf, oneCh, List.getElem?_cons_zero, List.getElem?_cons_succ, List.set_cons_zero, List.set_cons_succ, List.length_cons, List.length_nil, List.map_cons, List.map_nil, List.append_nil, List.nil_append, if_true, if_false, reduceIte, Bool.not_true, Bool.not_false, and_self, and_true, true_and, reduceCtorEq, rFI, rFL, rFN, fdAt, get1, get2, get3, put1, put2, put3, fMul_ok, fMod_pos, fDiv_pos, fEq_int, fNe_int, ltI, leI, gtI, geI, fLen_S, fAdd_S, fAdd_list, fSum_dI, fPow18, rCallF, rCall, rCallB, flatD, Option.map_some, Option.map_none, okT_str, okT_list, okT_dict, size_le, Nat.reduceAdd, Nat.reduceLT, List.length_map, List.length_range, List.length_append, size_lt, J.nf, J.no, jun, jfz, ixN_cast, fIx_N, fIx_T, fIx_t0, fIx_t1, fRev_l, fIn_ch, index_ch, fRev_S, chars_ch, wipeD, backD, List.getElem?_nil, List.all_cons, List.all_nil, Bool.and_true, Bool.and_self, iZG, srcItems, pairsOf_T, counted_T, fSl_lan, fSl_la, fSl_lb, fSl_Tan, fSl_Ta, fSl_Tb, rev_map, drop_map, take_map, fRepL_one, fAdd_map, castA, castA1, cast1A, castM, castD, castX, fSl_Tab, fSl_lab, isi_ii, isi_ib, isi_bi, isi_bb, isi_ss, isi_ll, isi_tt, isi_lt, isi_tl, fCmp_T, fCount_ch, fMul_T, fIx_pre, sAsgO, sRetO, sRetF, isB, fInt, S_list, ltS, leS, gtS, geS, $ts,*])
theorem ok_nop {a b : SR} {d : List Slot} {P : Out → Prop} (h : a d = some (.nx d)) (k : Ok (b d) P) : Ok (sSeq a b d) P := ok_nx h k
theorem neB (a b : Bool) : fNe (.bool a) (.bool b) = some (.bool (!decide (a = b))) := encB.ne (by decide) trivial trivial
theorem neBS (b : Bool) : fNe (.bool b) (.bool b) = some (.bool false) := by rw [neB, decide_eq_true rfl]; rfl
theorem neIS (i : Int) : fNe (.int i) (.int i) = some (.bool false) := by rw [fNe_int, decide_eq_true rfl]; rfl
theorem neTS {l : List Nat} (h : Lt l) : fNe (.str (S l)) (.str (S l)) = some (.bool false) := encT.neS (by decide) h
section
variable {α β : Type} [DecidableEq α]
def getA (es : List (α × β)) (a : α) : Option β := (es.find? fun e => decide (e.1 = a)).map (·.2)
def putA (es : List (α × β)) (a : α) (v : β) : List (α × β) := if (es.any fun e => decide (e.1 = a)) = true then es.map (fun e => if e.1 = a then (e.1, v) else e) else es ++ [(a, v)]
def eKV (ke : α → Key) (ev : β → D) (e : α × β) : D × D := (kD (ke e.1), ev e.2)
def KInj (ke : α → Key) : Prop := ∀ a b, ke a = ke b → a = b
variable {ke : α → Key} {ev : β → D} (ki : KInj ke)
include ki
theorem isKey_A (a b : α) : isKey (ke a) (kD (ke b)) = decide (b = a) := by
  rw [isKey_kD, decide_eq_decide]
  exact ⟨ki _ _, fun h => by rw [h]⟩
theorem getD_A (a : α) : ∀ es : List (α × β), getD' (es.map (eKV ke ev)) (ke a) = (getA es a).map ev
  | [] => rfl
  | e :: es => by
    have ih := getD_A a es
    unfold getD' getA at ih ⊢
    rw [List.map_cons]
    by_cases h : e.1 = a
    · rw [List.find?_cons_of_pos (by show isKey (ke a) (kD (ke e.1)) = true; rw [isKey_A ki]; exact decide_eq_true h), List.find?_cons_of_pos (p := fun e : α × β => decide (e.1 = a)) (decide_eq_true h)]
      rfl
    · rw [List.find?_cons_of_neg (by show ¬ isKey (ke a) (kD (ke e.1)) = true; rw [isKey_A ki, decide_eq_true_eq]; exact h), List.find?_cons_of_neg (p := fun e : α × β => decide (e.1 = a)) (by rw [decide_eq_true_eq]; exact h), ih]
theorem putD_A (a : α) (v : β) (es : List (α × β)) : putD (es.map (eKV ke ev)) (ke a) (ev v) = (putA es a v).map (eKV ke ev) := by
  unfold putD putA
  have h1 : ((es.map (eKV ke ev)).any fun e => isKey (ke a) e.1) = es.any fun e => decide (e.1 = a) := by
    rw [List.any_map]
    congr 1
    funext e
    exact isKey_A ki a e.1
  rw [h1]
  split
  · rw [List.map_map, List.map_map]
    refine List.map_congr_left fun e _ => ?_
    show (if isKey (ke a) (kD (ke e.1)) = true then (kD (ke e.1), ev v) else eKV ke ev e) = eKV ke ev (if e.1 = a then (e.1, v) else e)
    rw [isKey_A ki]
    by_cases h : e.1 = a
    · rw [if_pos (decide_eq_true h), if_pos h]; rfl
    · rw [if_neg (by rw [decide_eq_true_eq]; exact h), if_neg h]
  · rw [List.map_append]
    rfl
omit ki
def kadd (K : List α) (a : α) : List α := if a ∈ K then K else K ++ [a]
def uq (l : List α) : List α := l.foldl kadd []
theorem keys_put (a : α) (v : β) (es : List (α × β)) : (putA es a v).map (·.1) = kadd (es.map (·.1)) a := by
  unfold putA kadd
  have h1 : ((es.any fun e => decide (e.1 = a)) = true) ↔ a ∈ es.map (·.1) := by
    rw [List.any_eq_true, List.mem_map]
    constructor
    · rintro ⟨e, he, h⟩
      exact ⟨e, he, of_decide_eq_true h⟩
    · rintro ⟨e, he, h⟩
      exact ⟨e, he, decide_eq_true h⟩
  by_cases h : a ∈ es.map (·.1)
  · rw [if_pos (h1.mpr h), if_pos h, List.map_map]
    refine List.map_congr_left fun e _ => ?_
    show (if e.1 = a then (e.1, v) else e).1 = e.1
    split <;> rfl
  · rw [if_neg (fun z => h (h1.mp z)), if_neg h, List.map_append]
    rfl
theorem uq_snoc (l : List α) (a : α) : uq (l ++ [a]) = kadd (uq l) a := by unfold uq; rw [List.foldl_append]; rfl
theorem mem_kadd {K : List α} {a x : α} : x ∈ kadd K a ↔ x ∈ K ∨ x = a := by
  unfold kadd
  by_cases h : a ∈ K
  · rw [if_pos h]
    exact ⟨.inl, fun z => z.elim id fun e => by rw [e]; exact h⟩
  · rw [if_neg h, List.mem_append, List.mem_singleton]
theorem kadd_nd {K : List α} (h : K.Nodup) (a : α) : (kadd K a).Nodup := by
  unfold kadd
  by_cases z : a ∈ K
  · rw [if_pos z]; exact h
  · rw [if_neg z]
    refine List.nodup_append.mpr ⟨h, List.nodup_cons.mpr ⟨List.not_mem_nil, List.nodup_nil⟩, fun x hx y hy e => ?_⟩
    rw [List.mem_singleton.mp hy] at e
    exact z (e ▸ hx)
theorem mem_foldk (x : α) : ∀ (l K : List α), x ∈ l.foldl kadd K ↔ x ∈ K ∨ x ∈ l
  | [], K => by simp
  | a :: l, K => by rw [List.foldl_cons, mem_foldk x l, mem_kadd, List.mem_cons, or_assoc]
theorem mem_uq {l : List α} {x : α} : x ∈ uq l ↔ x ∈ l := by unfold uq; rw [mem_foldk]; simp
theorem foldk_nd : ∀ (l K : List α), K.Nodup → (l.foldl kadd K).Nodup
  | [], K, h => h
  | a :: l, K, h => foldk_nd l _ (kadd_nd h a)
theorem uq_nd (l : List α) : (uq l).Nodup := foldk_nd l [] List.nodup_nil
theorem uq_rep (f : Nat → α) : ∀ m, (uq ((List.range m).map f)).length + ((List.range m).filter fun x => decide (f x ∈ (List.range x).map f)).length = m
  | 0 => rfl
  | m + 1 => by
    have ih := uq_rep f m
    rw [List.range_succ, List.map_append, List.filter_append, List.map_cons, List.map_nil, uq_snoc, List.length_append]
    unfold kadd
    by_cases h : f m ∈ (List.range m).map f
    · rw [if_pos (mem_uq.mpr h)]
      have : ([m].filter fun x => decide (f x ∈ (List.range x).map f)) = [m] := List.filter_cons_of_pos (decide_eq_true h)
      rw [this]
      rw [List.length_cons, List.length_nil]
      omega
    · rw [if_neg (fun z => h (mem_uq.mp z)), List.length_append]
      have : ([m].filter fun x => decide (f x ∈ (List.range x).map f)) = [] := List.filter_cons_of_neg (by rw [decide_eq_true_eq]; exact h)
      rw [this]
      simp only [List.length_cons, List.length_nil]
      omega
end
theorem strs_T : ∀ ls : List (List Nat), strsOf (ls.map eT) = some (ls.map S)
  | [] => rfl
  | l :: ls => by
    show (strsOf (ls.map eT)).map (fun ys => S l :: ys) = _
    rw [strs_T ls]
    rfl
theorem fJoin_T (ls : List (List Nat)) (h : ls.flatten.length ≤ 16777216) : fJoin (.str (S [])) [.list (ls.map eT)] = some (.str (S ls.flatten)) := by
  unfold fJoin
  dsimp only
  rw [strs_T]
  show (if _ then _ else _) = _
  have e : ((ls.map S).map fun x => x.length).sum = ls.flatten.length := by
    rw [List.map_map, List.length_flatten]
    congr 1
  rw [if_pos, join_S]
  rw [e]
  show _ + _ * 0 ≤ _
  omega
def Rng12 (rg : List D → Option (List D)) : Prop := ∀ {e : ER} {d d1 : List Slot} {n : Nat}, e d = some (.int n, d1) → n < 2 ^ 61 → iR rg (rConsA (rC (.int 1)) (rConsA e rNilA)) d = some ((List.range (n - 1)).map fun (i : Nat) => PyData.int (((i + 1 : Nat) : Nat) : Int), d1)
theorem rng12_fine : Rng12 rng2 := fun h hn => iR12 h hn
theorem kiT : KInj (fun l : List Nat => (.inr (S l) : Key)) := fun a b h => S_inj (Sum.inr.inj h)
theorem kiN : KInj (fun n : Nat => (.inl (n : Int) : Key)) := fun a b h => by have := Sum.inl.inj h; omega
theorem kiZ : KInj (fun n : Int => (.inl n : Key)) := fun a b h => Sum.inl.inj h
abbrev kT (l : List Nat) : Key := .inr (S l)
abbrev kN (n : Nat) : Key := .inl (n : Int)
end DK
end
section
set_option maxRecDepth 100000
set_option maxHeartbeats 4000000
namespace Wk81
open PySem PySem.Spec PyProof.Rows L2 DK
def topS (i : Nat) : Stmt := PySem.Challenge.pw_backletters_k81_whole_texts_least_of_the.main.body.getD i (.Pass ⟨0, 0, 0, 0⟩)
abbrev s_is_least : Stmt := topS 2
theorem sc_is_least : FnScope ["text", "at"] ["text"] (defScope s_is_least) := ⟨rfl, rfl, rfl, by decide +kernel, rfl, by decide +kernel, by decide +kernel⟩
abbrev s_parts_falling : Stmt := topS 3
theorem sc_parts_falling : FnScope ["text", "parts", "begin", "other", "here", "size"] ["text"] (defScope s_parts_falling) := ⟨rfl, rfl, rfl, by decide +kernel, rfl, by decide +kernel, by decide +kernel⟩
abbrev s_next_least : Stmt := topS 4
theorem sc_next_least : FnScope ["text", "size", "letters", "longest"] ["text", "size", "letters"] (defScope s_next_least) := ⟨rfl, rfl, rfl, by decide +kernel, rfl, by decide +kernel, by decide +kernel⟩
abbrev s_all_least : Stmt := topS 5
theorem sc_all_least : FnScope ["size", "letters", "found", "text"] ["size", "letters"] (defScope s_all_least) := ⟨rfl, rfl, rfl, by decide +kernel, rfl, by decide +kernel, by decide +kernel⟩
abbrev s_all_joined : Stmt := topS 6
theorem sc_all_joined : FnScope ["size", "letters", "text"] ["size", "letters"] (defScope s_all_joined) := ⟨rfl, rfl, rfl, by decide +kernel, rfl, by decide +kernel, by decide +kernel⟩
abbrev s__law_feed : Stmt := topS 8
theorem sc__law_feed : FnScope ["script"] ["script"] (defScope s__law_feed) := ⟨rfl, rfl, rfl, by decide +kernel, rfl, by decide +kernel, by decide +kernel⟩
abbrev s__law_draw : Stmt := topS 9
theorem sc__law_draw : FnScope ["feed", "many", "cell", "told", "mixed"] ["feed", "many"] (defScope s__law_draw) := ⟨rfl, rfl, rfl, by decide +kernel, rfl, by decide +kernel, by decide +kernel⟩
abbrev s__law_turned : Stmt := topS 10
theorem sc__law_turned : FnScope ["word", "k"] ["word", "k"] (defScope s__law_turned) := ⟨rfl, rfl, rfl, by decide +kernel, rfl, by decide +kernel, by decide +kernel⟩
abbrev s__law_word : Stmt := topS 11
theorem sc__law_word : FnScope ["feed", "many", "letters", "k"] ["feed"] (defScope s__law_word) := ⟨rfl, rfl, rfl, by decide +kernel, rfl, by decide +kernel, by decide +kernel⟩
abbrev s__law_least : Stmt := topS 12
theorem sc__law_least : FnScope ["text", "k"] ["text"] (defScope s__law_least) := ⟨rfl, rfl, rfl, by decide +kernel, rfl, by decide +kernel, by decide +kernel⟩
abbrev s__law_partings : Stmt := topS 13
theorem sc__law_partings : FnScope ["text", "found", "done", "step", "longer", "parts", "used", "k", "part"] ["text"] (defScope s__law_partings) := ⟨rfl, rfl, rfl, by decide +kernel, rfl, by decide +kernel, by decide +kernel⟩
abbrev s__law_fits : Stmt := topS 14
theorem sc__law_fits : FnScope ["parts", "part", "k"] ["parts"] (defScope s__law_fits) := ⟨rfl, rfl, rfl, by decide +kernel, rfl, by decide +kernel, by decide +kernel⟩
abbrev s__law_all : Stmt := topS 15
theorem sc__law_all : FnScope ["size", "letters", "found", "rows", "step", "longer", "row", "x"] ["size", "letters"] (defScope s__law_all) := ⟨rfl, rfl, rfl, by decide +kernel, rfl, by decide +kernel, by decide +kernel⟩
abbrev s__law_round : Stmt := topS 16
theorem sc__law_round : FnScope ["size", "letters", "text", "parts", "total", "step", "k"] ["size", "letters"] (defScope s__law_round) := ⟨rfl, rfl, rfl, by decide +kernel, rfl, by decide +kernel, by decide +kernel⟩
abbrev s_law : Stmt := topS 17
theorem sc_law : FnScope ["script", "feed", "turn", "text", "one", "parts", "said", "size", "letters", "every", "k", "own"] ["script"] (defScope s_law) := ⟨rfl, rfl, rfl, by decide +kernel, rfl, by decide +kernel, by decide +kernel⟩
/-! ### the runs -/
def q_is_least (rng2 : List D → Option (List D)) : SR :=
  (sRet (rOpA fAll (rConsB (rB (rLc (iR rng2 (rConsA (rC (.int 1)) (rConsA (rOpA fLen (rConsB (rVarB 0) rNilB)) rNilA))) (gN 1) rYes (rOp2 (fCmp ltI ltS) (rVarB 0) (rB (rOp2 fAdd (rB (rSl fSl (rVarB 0) (rPart (rVarB 1)) rNoPart)) (rB (rSl fSl (rVarB 0) rNoPart (rPart (rVarB 1))))))) [1])) rNilB)))
def r_is_least : SR := q_is_least rng2
def m_is_least : List D → Option D := mOf 2 1 r_is_least
def r_parts_falling : SR :=
  (sSeq (sAsgN 1 (rLst rNilA))
  (sSeq (sAsg (rC (.int 0)) (gN 2))
  (sSeq (sWh 1000000 (rT (rB (rOp2 (fCmp ltI ltS) (rVarB 2) (rB (rOpA fLen (rConsB (rVarB 0) rNilB)))))) (sSeq (sAsg (rVar 2) (gN 3))
   (sSeq (sAsg (rOp2 fAdd (rVarB 2) (rB (rC (.int 1)))) (gN 4))
   (sSeq (sWh 1000000 (rAndT (rT (rB (rOp2 (fCmp ltI ltS) (rVarB 4) (rB (rOpA fLen (rConsB (rVarB 0) rNilB)))))) (rT (rB (rOp2 (fCmp leI leS) (rB (rOp2 fIx (rVarB 0) (rVarB 3))) (rB (rOp2 fIx (rVarB 0) (rVarB 4))))))) (sSeq (sIf (rT (rB (rOp2 (fCmp ltI ltS) (rB (rOp2 fIx (rVarB 0) (rVarB 3))) (rB (rOp2 fIx (rVarB 0) (rVarB 4)))))) (sAsg (rVar 2) (gN 3)) (sAug 3 (rB (rC (.int 1))) (fun i j => i + j)))
    (sAug 4 (rB (rC (.int 1))) (fun i j => i + j))))
   (sSeq (sAsg (rOp2 fSub (rVarB 4) (rVarB 3)) (gN 5))
   (sWh 1000000 (rT (rB (rOp2 (fCmp leI leS) (rVarB 2) (rVarB 3)))) (sSeq (sApp 1 (rSl fSl (rVarB 0) (rPart (rVarB 2)) (rPart (rB (rOp2 fAdd (rVarB 2) (rVarB 5))))))
    (sAug 2 (rVarB 5) (fun i j => i + j)))))))))
  (sRet (rVar 1)))))
def m_parts_falling : List D → Option D := mOf 6 1 r_parts_falling
def r_next_least : SR :=
  (sSeq (sAsg (rSl fSl (rB (rOp2 fMul (rVarB 0) (rVarB 1))) rNoPart (rPart (rVarB 1))) (gN 3))
  (sSeq (sWh 1000000 (rAndT (rTru (rVarB 3)) (rT (rB (rOp2 fEq (rB (rOp2 fIx (rVarB 3) (rB (rOp1 fNeg (rB (rC (.int 1))))))) (rB (rOp2 fIx (rB (rC (.str "abcdefgh"))) (rB (rOp2 fSub (rVarB 2) (rB (rC (.int 1))))))))))) (sAsg (rSl fSl (rVarB 3) rNoPart (rPart (rB (rOp1 fNeg (rB (rC (.int 1))))))) (gN 3)))
  (sSeq (sIf (rNotT (rTru (rVarB 3))) (sRet (rC .none)) sNext)
  (sRet (rOp2 fAdd (rB (rSl fSl (rVarB 3) rNoPart (rPart (rB (rOp1 fNeg (rB (rC (.int 1)))))))) (rB (rOp2 fIx (rB (rC (.str "abcdefgh"))) (rB (rOp2 fAdd (rB (rOpM "str" fSIndex (rB (rC (.str "abcdefgh"))) (rConsB (rB (rOp2 fIx (rVarB 3) (rB (rOp1 fNeg (rB (rC (.int 1))))))) rNilB))) (rB (rC (.int 1))))))))))))
def m_next_least : List D → Option D := mOf 4 3 r_next_least
def r__law_draw : SR :=
  (sSeq (sIf (rAndT (rT (rB (rOp2 fEq (rB (rFI 0 2)) (rB (rC (.int 0)))))) (rT (rB (rOp2 (fCmp ltI ltS) (rB (rFI 0 1)) (rB (rFL 0)))))) (sSeq (sAsg (rOpA fAbs (rConsB (rB (rOpA fInt (rConsB (rB (rFN 0)) rNilB))) rNilB)) (gN 2))
   (sSeq (sFA 0 1 (rB (rC (.int 1))))
   (sIf (rT (rB (rOp2 (fCmp geI geS) (rVarB 2) (rB (rOp2 fPow (rB (rC (.int 10))) (rB (rC (.int 18)))))))) (sFS 0 2 (rVarB 2)) (sFS 0 3 (rB (rOp2 fMod (rB (rOpA fInt (rConsB (rB (rOp2 fAdd (rB (rOp2 fAdd (rB (rOp2 fMul (rB (rFI 0 3)) (rB (rC (.int 48271))))) (rB (rOp2 fMul (rVarB 2) (rB (rC (.int 69621))))))) (rB (rFI 0 1)))) rNilB))) (rB (rC (.int 2147483647))))))))) sNext)
  (sSeq (sIf (rT (rB (rOp2 (fCmp gtI gtS) (rB (rFI 0 2)) (rB (rC (.int 0)))))) (sSeq (sAsg (rOp2 fMod (rB (rOpA fInt (rConsB (rB (rFI 0 2)) rNilB))) (rVarB 1)) (gN 3))
   (sSeq (sFS 0 2 (rB (rOp2 fDiv (rB (rFI 0 2)) (rVarB 1))))
   (sRet (rVar 3)))) sNext)
  (sSeq (sFS 0 3 (rB (rOp2 fMod (rB (rOpA fInt (rConsB (rB (rOp2 fAdd (rB (rOp2 fMul (rB (rFI 0 3)) (rB (rC (.int 16807))))) (rB (rC (.int 12345))))) rNilB))) (rB (rC (.int 2147483647))))))
  (sSeq (sAsg (rOp2 fMod (rB (rOpA fInt (rConsB (rB (rOp2 fAdd (rB (rOp2 fMul (rB (rFI 0 3)) (rB (rFI 0 3)))) (rB (rFI 0 3)))) rNilB))) (rB (rC (.int 2147483629)))) (gN 4))
  (sRet (rOp2 fMod (rB (rOp2 fDiv (rVarB 4) (rB (rC (.int 11))))) (rVarB 1)))))))
def m__law_draw : FS → List D → Option (D × FS) := mOfF 5 2 r__law_draw
def r__law_turned : SR :=
  (sRet (rOp2 fAdd (rB (rSl fSl (rVarB 0) (rPart (rVarB 1)) rNoPart)) (rB (rSl fSl (rVarB 0) rNoPart (rPart (rVarB 1))))))
def m__law_turned : List D → Option D := mOf 2 2 r__law_turned
def q__law_partings (rng1 : List D → Option (List D)) (rng2 : List D → Option (List D)) : SR :=
  (sSeq (sAsg (rLc (iR rng2 (rConsA (rC (.int 1)) (rConsA (rOp2 fAdd (rB (rOpA fLen (rConsB (rVarB 0) rNilB))) (rB (rC (.int 1)))) rNilA))) (gN 7) rYes (rLst (rConsA (rSl fSl (rVarB 0) rNoPart (rPart (rVarB 7))) rNilA)) [7]) (gN 1))
  (sSeq (sAsgN 2 (rLst rNilA))
  (sSeq (sFor (iR rng1 (rConsA (rOpA fLen (rConsB (rVarB 0) rNilB)) rNilA)) (gN 3) (sSeq (sAsg (rLst rNilA) (gN 4))
   (sSeq (sFor (iX (rVar 1)) (gN 5) (sSeq (sAsg (rOpA fSum (rConsB (rB (rLc (iX (rVar 5)) (gN 8) rYes (rOpA fLen (rConsB (rVarB 8) rNilB)) [8])) rNilB)) (gN 6))
    (sSeq (sIf (rT (rB (rOp2 fEq (rVarB 6) (rB (rOpA fLen (rConsB (rVarB 0) rNilB)))))) (sApp 2 (rVar 5)) sNext)
    (sAsg (rOp2 fAdd (rVarB 4) (rB (rLc (iR rng2 (rConsA (rOp2 fAdd (rVarB 6) (rB (rC (.int 1)))) (rConsA (rOp2 fAdd (rB (rOpA fLen (rConsB (rVarB 0) rNilB))) (rB (rC (.int 1)))) rNilA))) (gN 7) rYes (rOp2 fAdd (rVarB 5) (rB (rLst (rConsA (rSl fSl (rVarB 0) (rPart (rVarB 6)) (rPart (rVarB 7))) rNilA)))) [7]))) (gN 4)))))
   (sAsg (rVar 4) (gN 1)))))
  (sRet (rVar 2)))))
def r__law_partings : SR := q__law_partings rng1 rng2
def m__law_partings : List D → Option D := mOf 9 1 r__law_partings
def q_all_least (m_next_least : List D → Option D) : SR :=
  (sSeq (sAsgN 2 (rLst rNilA))
  (sSeq (sAsg (rC (.str "a")) (gN 3))
  (sSeq (sWh 1000000 (rT (rB (rOp2 (fIsN true) (rVarB 3) (rB (rC .none))))) (sSeq (sApp 2 (rVar 3))
   (sAsg (rCall m_next_least (rConsA (rVar 3) (rConsA (rVar 0) (rConsA (rVar 1) rNilA)))) (gN 3))))
  (sRet (rVar 2)))))
def r_all_least : SR := q_all_least m_next_least
def m_all_least : List D → Option D := mOf 4 2 r_all_least
def q__law_word (rng1 : List D → Option (List D)) (m__law_draw : FS → List D → Option (D × FS)) : SR :=
  (sSeq (sAsg (rOp2 fAdd (rB (rC (.int 1))) (rB (rCallF 0 m__law_draw (rConsA (rC (.int 8)) rNilA)))) (gN 1))
  (sSeq (sAsg (rSl fSl (rB (rC (.str "abcd"))) rNoPart (rPart (rB (rOp2 fAdd (rB (rC (.int 1))) (rB (rCallF 0 m__law_draw (rConsA (rC (.int 4)) rNilA))))))) (gN 2))
  (sRet (rOpM1 fJoin (rB (rC (.str ""))) (rB (rLc (iR rng1 (rConsA (rVar 1) rNilA)) (gN 3) rYes (rOp2 fIx (rVarB 2) (rB (rCallF 0 m__law_draw (rConsA (rOpA fLen (rConsB (rVarB 2) rNilB)) rNilA)))) [3]))))))
def r__law_word : SR := q__law_word rng1 m__law_draw
def m__law_word : FS → List D → Option (D × FS) := mOfF 4 1 r__law_word
def q__law_least (rng2 : List D → Option (List D)) (m__law_turned : List D → Option D) : SR :=
  (sRet (rOp2 fEq (rB (rOpA fLen (rConsB (rB (rLc (iR rng2 (rConsA (rC (.int 1)) (rConsA (rOpA fLen (rConsB (rVarB 0) rNilB)) rNilA))) (gN 1) (rT (rB (rOp2 (fCmp leI leS) (rB (rCall m__law_turned (rConsA (rVar 0) (rConsA (rVar 1) rNilA)))) (rVarB 0)))) (rVar 1) [1])) rNilB))) (rB (rC (.int 0)))))
def r__law_least : SR := q__law_least rng2 m__law_turned
def m__law_least : List D → Option D := mOf 2 1 r__law_least
def q_all_joined (m_all_least : List D → Option D) : SR :=
  (sRet (rOpM1 fJoin (rB (rC (.str ""))) (rB (rLc (iX (rCall m_all_least (rConsA (rVar 0) (rConsA (rVar 1) rNilA)))) (gN 2) (rT (rB (rOp2 fEq (rB (rOp2 fMod (rVarB 0) (rB (rOpA fLen (rConsB (rVarB 2) rNilB))))) (rB (rC (.int 0)))))) (rVar 2) [2]))))
def r_all_joined : SR := q_all_joined m_all_least
def m_all_joined : List D → Option D := mOf 3 2 r_all_joined
def q__law_fits (rng2 : List D → Option (List D)) (m__law_least : List D → Option D) : SR :=
  (sRet (rAndV (rOp2 fEq (rB (rOpA fLen (rConsB (rB (rLc (iX (rVar 0)) (gN 1) (rNotT (rT (rB (rCallB m__law_least (rConsB (rVarB 1) rNilB))))) (rVar 1) [1])) rNilB))) (rB (rC (.int 0)))) (rOp2 fEq (rB (rOpA fLen (rConsB (rB (rLc (iR rng2 (rConsA (rC (.int 1)) (rConsA (rOpA fLen (rConsB (rVarB 0) rNilB)) rNilA))) (gN 2) (rT (rB (rOp2 (fCmp ltI ltS) (rB (rOp2 fIx (rVarB 0) (rB (rOp2 fSub (rVarB 2) (rB (rC (.int 1))))))) (rB (rOp2 fIx (rVarB 0) (rVarB 2)))))) (rVar 2) [2])) rNilB))) (rB (rC (.int 0))))))
def r__law_fits : SR := q__law_fits rng2 m__law_least
def m__law_fits : List D → Option D := mOf 3 1 r__law_fits
def q__law_all (rng1 : List D → Option (List D)) (m__law_least : List D → Option D) : SR :=
  (sSeq (sAsg (rLst rNilA) (gN 2))
  (sSeq (sAsg (rLst (rConsA (rC (.str "")) rNilA)) (gN 3))
  (sSeq (sFor (iR rng1 (rConsA (rVar 0) rNilA)) (gN 4) (sSeq (sAsg (rLst rNilA) (gN 5))
   (sSeq (sFor (iX (rVar 3)) (gN 6) (sAsg (rOp2 fAdd (rVarB 5) (rB (rLc (iX (rSl fSl (rB (rC (.str "abcdefgh"))) rNoPart (rPart (rVarB 1)))) (gN 7) rYes (rOp2 fAdd (rVarB 6) (rVarB 7)) [7]))) (gN 5)))
   (sSeq (sAsg (rVar 5) (gN 3))
   (sAsg (rOp2 fAdd (rVarB 2) (rB (rLc (iX (rVar 3)) (gN 6) (rT (rB (rCallB m__law_least (rConsB (rVarB 6) rNilB)))) (rVar 6) [6]))) (gN 2))))))
  (sRet (rOpAN fSortD (rConsB (rVarB 2) rNilB))))))
def r__law_all : SR := q__law_all rng1 m__law_least
def m__law_all : List D → Option D := mOf 8 2 r__law_all
def q__law_round (rng1 : List D → Option (List D)) (rng2 : List D → Option (List D)) (m_all_joined : List D → Option D) : SR :=
  (sSeq (sAsg (rCallB m_all_joined (rConsB (rVarB 0) (rConsB (rVarB 1) rNilB))) (gN 2))
  (sSeq (sAsg (rLc (iR rng1 (rConsA (rOpA fLen (rConsB (rVarB 2) rNilB)) rNilA)) (gN 6) rYes (rSl fSl (rB (rOp2 fMul (rVarB 2) (rB (rOp2 fAdd (rVarB 0) (rB (rC (.int 1))))))) (rPart (rVarB 6)) (rPart (rB (rOp2 fAdd (rVarB 6) (rVarB 0))))) [6]) (gN 3))
  (sSeq (sAsg (rC (.int 1)) (gN 4))
  (sSeq (sFor (iR rng1 (rConsA (rVar 0) rNilA)) (gN 5) (sAsg (rOp2 fMul (rVarB 4) (rVarB 1)) (gN 4)))
  (sRet (rAndV (rOp2 fEq (rB (rOpA fLen (rConsB (rVarB 3) rNilB))) (rVarB 4)) (rOp2 fEq (rB (rOpA fLen (rConsB (rB (rLc (iR rng2 (rConsA (rC (.int 1)) (rConsA (rVar 4) rNilA))) (gN 6) (rT (rB (rOp2 fEq (rB (rOp2 fIx (rB (rOpAN fSortD (rConsB (rVarB 3) rNilB))) (rB (rOp2 fSub (rVarB 6) (rB (rC (.int 1))))))) (rB (rOp2 fIx (rB (rOpAN fSortD (rConsB (rVarB 3) rNilB))) (rVarB 6)))))) (rVar 6) [6])) rNilB))) (rB (rC (.int 0))))))))))
def r__law_round : SR := q__law_round rng1 rng2 m_all_joined
def m__law_round : List D → Option D := mOf 7 2 r__law_round
def q_law (rng1 : List D → Option (List D)) (m__law_all : List D → Option D) (m__law_draw : FS → List D → Option (D × FS)) (m__law_fits : List D → Option D) (m__law_least : List D → Option D) (m__law_partings : List D → Option D) (m__law_round : List D → Option D) (m__law_word : FS → List D → Option (D × FS)) (m_all_least : List D → Option D) (m_is_least : List D → Option D) (m_next_least : List D → Option D) (m_parts_falling : List D → Option D) : SR :=
  (sSeq (sFor (iR rng1 (rConsA (rC (.int 2)) rNilA)) (gN 2) (sSeq (sAsg (rOp2 fAdd (rB (rCallF 1 m__law_word rNilA)) (rB (rOpM1 fJoin (rB (rC (.str ""))) (rB (rLc (iR rng1 (rConsA (rCallF 1 m__law_draw (rConsA (rC (.int 5)) rNilA)) rNilA)) (gN 10) rYes (rOp2 fIx (rB (rC (.str "abcd"))) (rB (rCallF 1 m__law_draw (rConsA (rC (.int 4)) rNilA)))) [10]))))) (gN 3))
   (sSeq (sIf (rT (rB (rOp2 fEq (rB (rCallF 1 m__law_draw (rConsA (rC (.int 10)) rNilA))) (rB (rC (.int 0)))))) (sAsg (rSl fSl (rB (rOp2 fMul (rVarB 3) (rB (rC (.int 60))))) rNoPart (rPart (rB (rC (.int 60))))) (gN 3)) sNext)
   (sSeq (sFor (iX (rLst (rConsA (rVar 3) (rConsA (rC (.str "")) rNilA)))) (gN 4) (sSeq (sAsg (rCall m_parts_falling (rConsA (rVar 4) rNilA)) (gN 5))
    (sSeq (sIf (rOrT (rNotT (rT (rB (rOp1 (fIsi "list") (rVarB 5))))) (rOrT (rT (rB (rOp2 fNe (rB (rOpM1 fJoin (rB (rC (.str ""))) (rVarB 5))) (rVarB 4)))) (rNotT (rT (rB (rCallB m__law_fits (rConsB (rVarB 5) rNilB))))))) (sRet (rC (.bool false))) sNext)
    (sIf (rAndT (rT (rB (rChain (fCmp ltI ltS) (fCmp ltI ltS) (rB (rC (.int 0))) (rB (rOpA fLen (rConsB (rVarB 4) rNilB))) (rB (rC (.int 9)))))) (rT (rB (rOp2 fNe (rB (rLc (iX (rCall m__law_partings (rConsA (rVar 4) rNilA))) (gN 11) (rT (rB (rCallB m__law_fits (rConsB (rVarB 11) rNilB)))) (rVar 11) [11])) (rB (rLst (rConsA (rVar 5) rNilA))))))) (sRet (rC (.bool false))) sNext))))
   (sSeq (sAsg (rCallB m_is_least (rConsB (rVarB 3) rNilB)) (gN 6))
   (sIf (rOrT (rNotT (rT (rB (rOp1 (fIsi "bool") (rVarB 6))))) (rT (rB (rOp2 fNe (rVarB 6) (rB (rCallB m__law_least (rConsB (rVarB 3) rNilB))))))) (sRet (rC (.bool false))) sNext))))))
  (sSeq (sAsg (rOp2 fAdd (rB (rC (.int 1))) (rB (rCallF 1 m__law_draw (rConsA (rC (.int 5)) rNilA)))) (gN 7))
  (sSeq (sAsg (rOp2 fAdd (rB (rC (.int 1))) (rB (rCallF 1 m__law_draw (rConsA (rC (.int 3)) rNilA)))) (gN 8))
  (sSeq (sAsg (rCall m__law_all (rConsA (rVar 7) (rConsA (rVar 8) rNilA))) (gN 9))
  (sSeq (sIf (rOrT (rT (rB (rOp2 fNe (rB (rCall m_all_least (rConsA (rVar 7) (rConsA (rVar 8) rNilA)))) (rVarB 9)))) (rNotT (rT (rB (rCallB m__law_round (rConsB (rVarB 7) (rConsB (rVarB 8) rNilB))))))) (sRet (rC (.bool false))) sNext)
  (sSeq (sFor (iR rng1 (rConsA (rOpA fLen (rConsB (rVarB 9) rNilB)) rNilA)) (gN 10) (sIf (rT (rB (rOp2 fNe (rB (rCall m_next_least (rConsA (rOp2 fIx (rVarB 9) (rVarB 10)) (rConsA (rVar 7) (rConsA (rVar 8) rNilA))))) (rB (rOp2 fIx (rB (rOp2 fAdd (rVarB 9) (rB (rLst (rConsA (rC .none) rNilA))))) (rB (rOp2 fAdd (rVarB 10) (rB (rC (.int 1)))))))))) (sRet (rC (.bool false))) sNext))
  (sRet (rAndV (rOp2 fEq (rB (rCall m_next_least (rConsA (rC (.str "abcd")) (rConsA (rC (.int 12)) (rConsA (rC (.int 4)) rNilA))))) (rB (rC (.str "abcdabcdabd")))) (rOp2 fEq (rB (rCall m_parts_falling (rConsA (rC (.str (Txt.replace "banana" "n" "c"))) rNilA))) (rB (rLst (rConsA (rC (.str "b")) (rConsA (rC (.str "ac")) (rConsA (rC (.str "ac")) (rConsA (rC (.str "a")) rNilA)))))))))))))))
def r_law : SR := q_law rng1 m__law_all m__law_draw m__law_fits m__law_least m__law_partings m__law_round m__law_word m_all_least m_is_least m_next_least m_parts_falling
/-! ### what the top has left -/
structure Txt (K : PySem.W.Frag) (mg : Str → Option Value) where
  f_is_least : Addr
  d_is_least : FuncData
  F_is_least : Fun K "is_least" "is_least" s_is_least f_is_least d_is_least
  g_is_least : mg "is_least" = some (.ref f_is_least)
  b_is_least : Binds K d_is_least ["text"] []
  f_parts_falling : Addr
  d_parts_falling : FuncData
  F_parts_falling : Fun K "parts_falling" "parts_falling" s_parts_falling f_parts_falling d_parts_falling
  g_parts_falling : mg "parts_falling" = some (.ref f_parts_falling)
  b_parts_falling : Binds K d_parts_falling ["text"] []
  f_next_least : Addr
  d_next_least : FuncData
  F_next_least : Fun K "next_least" "next_least" s_next_least f_next_least d_next_least
  g_next_least : mg "next_least" = some (.ref f_next_least)
  b_next_least : Binds K d_next_least ["text", "size", "letters"] []
  f_all_least : Addr
  d_all_least : FuncData
  F_all_least : Fun K "all_least" "all_least" s_all_least f_all_least d_all_least
  g_all_least : mg "all_least" = some (.ref f_all_least)
  b_all_least : Binds K d_all_least ["size", "letters"] []
  f_all_joined : Addr
  d_all_joined : FuncData
  F_all_joined : Fun K "all_joined" "all_joined" s_all_joined f_all_joined d_all_joined
  g_all_joined : mg "all_joined" = some (.ref f_all_joined)
  b_all_joined : Binds K d_all_joined ["size", "letters"] []
  f__law_feed : Addr
  d__law_feed : FuncData
  F__law_feed : Fun K "_law_feed" "_law_feed" s__law_feed f__law_feed d__law_feed
  g__law_feed : mg "_law_feed" = some (.ref f__law_feed)
  b__law_feed : Binds K d__law_feed ["script"] []
  f__law_draw : Addr
  d__law_draw : FuncData
  F__law_draw : Fun K "_law_draw" "_law_draw" s__law_draw f__law_draw d__law_draw
  g__law_draw : mg "_law_draw" = some (.ref f__law_draw)
  b__law_draw : Binds K d__law_draw ["feed", "many"] []
  f__law_turned : Addr
  d__law_turned : FuncData
  F__law_turned : Fun K "_law_turned" "_law_turned" s__law_turned f__law_turned d__law_turned
  g__law_turned : mg "_law_turned" = some (.ref f__law_turned)
  b__law_turned : Binds K d__law_turned ["word", "k"] []
  f__law_word : Addr
  d__law_word : FuncData
  F__law_word : Fun K "_law_word" "_law_word" s__law_word f__law_word d__law_word
  g__law_word : mg "_law_word" = some (.ref f__law_word)
  b__law_word : Binds K d__law_word ["feed"] []
  f__law_least : Addr
  d__law_least : FuncData
  F__law_least : Fun K "_law_least" "_law_least" s__law_least f__law_least d__law_least
  g__law_least : mg "_law_least" = some (.ref f__law_least)
  b__law_least : Binds K d__law_least ["text"] []
  f__law_partings : Addr
  d__law_partings : FuncData
  F__law_partings : Fun K "_law_partings" "_law_partings" s__law_partings f__law_partings d__law_partings
  g__law_partings : mg "_law_partings" = some (.ref f__law_partings)
  b__law_partings : Binds K d__law_partings ["text"] []
  f__law_fits : Addr
  d__law_fits : FuncData
  F__law_fits : Fun K "_law_fits" "_law_fits" s__law_fits f__law_fits d__law_fits
  g__law_fits : mg "_law_fits" = some (.ref f__law_fits)
  b__law_fits : Binds K d__law_fits ["parts"] []
  f__law_all : Addr
  d__law_all : FuncData
  F__law_all : Fun K "_law_all" "_law_all" s__law_all f__law_all d__law_all
  g__law_all : mg "_law_all" = some (.ref f__law_all)
  b__law_all : Binds K d__law_all ["size", "letters"] []
  f__law_round : Addr
  d__law_round : FuncData
  F__law_round : Fun K "_law_round" "_law_round" s__law_round f__law_round d__law_round
  g__law_round : mg "_law_round" = some (.ref f__law_round)
  b__law_round : Binds K d__law_round ["size", "letters"] []
  f_law : Addr
  d_law : FuncData
  F_law : Fun K "law" "law" s_law f_law d_law
  g_law : mg "law" = some (.ref f_law)
  b_law : Binds K d_law ["script"] []
  z_len : mg "len" = none
  z_range : mg "range" = none
  z_all : mg "all" = none
  z_int : mg "int" = none
  z_abs : mg "abs" = none
  z_sum : mg "sum" = none
  z_sorted : mg "sorted" = none
  z_isinstance : mg "isinstance" = none
  z_list : mg "list" = none
  z_bool : mg "bool" = none
  c_LETTERS : ∃ t, mg "LETTERS" = some (.str "abcdefgh" t)
section
variable {P : Program} {w : World} {K : PySem.W.Frag} {mg : Str → Option Value} {base : Heap}
theorem hu70 {k : Nat} {A : Around} (r : Room k A) : A.units + 70 < cLine := by have := r.un; omega
theorem hu65 {k : Nat} {A : Around} (r : Room k A) : A.units + 65 < cLine := by have := r.un; omega
theorem ok__law_feed (T : Txt K mg) : FnOk P w K mg base CX0 1 T.f__law_feed T.d__law_feed ["script"] (spFeed K) := by
  refine T.F__law_feed.ok sc__law_feed (fun vs H Q E h => ?_) (fun cdv A outer s H vs Q E hr h => ?_)
  · obtain ⟨a, ns, rfl, _⟩ := h
    rfl
  · obtain ⟨a, ns, rfl, hs, hl, k⟩ := h
    refine ⟨_, pss_one (ps_ret (pe_lst (pa_cons (pe_callTy call_list_of rfl T.z_list (by decide +kernel) (pa_cons (pv 0) pa_nil)) (pa_cons pe_int (pa_cons pe_int (pa_cons pe_int pa_nil)))))), ?_⟩
    refine ⟨.ref a, rfl, a, _, rfl, .inl hs, fun l hl => ⟨(by show 4 ≤ sizeLine; decide), fun p hp => ?_⟩⟩
    have n : l ≠ p := fun e => by rw [← e, upd_same] at hp; cases hp
    exact k l p _ n (by rw [upd_ne n]; exact upd_same) upd_same
theorem ok_is_least (T : Txt K mg) : FnOk P w K mg base CX0 1 T.f_is_least T.d_is_least ["text"] (spP m_is_least) :=
  ok_pure (r := r_is_least) 2 1 T.F_is_least sc_is_least rfl rfl (by decide) fun cdv A outer s H E hr => ⟨_,
  (pss_one (ps_ret (pe_callB (cr_all rfl) rfl T.z_all (by decide +kernel) (pa_cons (pe_lc (own := [("at", 1)]) rfl sc_is_least.nd (pi_range2 rfl T.z_range (pa_cons pe_int (pa_cons (pe_callB call_lenX rfl T.z_len (by decide +kernel) (pa_cons (pv 0) pa_nil)) pa_nil))) (blkOk_by (N := ["text", "at"]) (sc := defScope s_is_least) (own := [("at", 1)]) (by decide +kernel)) (fun _ _ _ _ _ => (pg_name (i := 1) sc_is_least.nd rfl (Or.inl rfl))) (fun _ _ _ _ _ => pts_nil) (fun _ _ _ _ _ => (pe_cmpR op_ltX (pv 0) (pe_op op_addX (pe_slice sl_X (pv 0) (po_some (pv 1)) po_none) (pe_slice sl_X (pv 0) po_none (po_some (pv 1)))) (nomark _)))) pa_nil)))),
  (simRet (simCB opAll (simConsB (simB (simN (simLc (simIR2 (simConsA simInt (simConsA (simCB opLen (simConsB (simVarB 0) simNilB)) simNilA))) (simGN 1) simYes (simOp2 opCmp (simVarB 0) (simB (simOp2 opAdd (simB (simSl opSl (simVarB 0) (simPart (simVarB 1)) simNoPart)) (simB (simSl opSl (simVarB 0) simNoPart (simPart (simVarB 1))))))) (by decide)))) simNilB)))⟩
theorem ok_parts_falling (T : Txt K mg) : FnOk P w K mg base CX0 1 T.f_parts_falling T.d_parts_falling ["text"] (spP m_parts_falling) :=
  ok_pure (r := r_parts_falling) 6 1 T.F_parts_falling sc_parts_falling rfl rfl (by decide) fun cdv A outer s H E hr => ⟨_,
  (pss_cons (ps_set (i := 1) sc_parts_falling.nd rfl (Or.inl rfl) (pe_lst pa_nil))
  (pss_cons (ps_set (i := 2) sc_parts_falling.nd rfl (Or.inl rfl) pe_int)
  (pss_cons (ps_while PassesOwn.never (pt_cmpR op_ltX (pv 2) (pe_callB call_lenX rfl T.z_len (by decide +kernel) (pa_cons (pv 0) pa_nil)) (nomark _)) (pss_cons (ps_set (i := 3) sc_parts_falling.nd rfl (Or.inl rfl) (pv 2))
   (pss_cons (ps_set (i := 4) sc_parts_falling.nd rfl (Or.inl rfl) (pe_op op_addX (pv 2) pe_int))
   (pss_cons (ps_while PassesOwn.never (PW.pt (pw_and (pt_cmpR op_ltX (pv 4) (pe_callB call_lenX rfl T.z_len (by decide +kernel) (pa_cons (pv 0) pa_nil)) (nomark _)) (pw_and1 (pt_cmpR op_leX (pe_ix ix_seq (pv 0) (pv 3) (fun _ _ => rfl)) (pe_ix ix_seq (pv 0) (pv 4) (fun _ _ => rfl)) (nomark _))))) (pss_cons (ps_if (pt_cmpR op_ltX (pe_ix ix_seq (pv 0) (pv 3) (fun _ _ => rfl)) (pe_ix ix_seq (pv 0) (pv 4) (fun _ _ => rfl)) (nomark _)) (pss_one (ps_set (i := 3) sc_parts_falling.nd rfl (Or.inl rfl) (pv 2))) (pss_one (ps_aug (i := 3) sc_parts_falling.nd rfl (Or.inl rfl) pe_int ip_add)))
    (pss_one (ps_aug (i := 4) sc_parts_falling.nd rfl (Or.inl rfl) pe_int ip_add))))
   (pss_cons (ps_set (i := 5) sc_parts_falling.nd rfl (Or.inl rfl) (pe_op op_sub (pv 4) (pv 3)))
   (pss_one (ps_while PassesOwn.never (pt_cmpR op_leX (pv 2) (pv 3) (nomark _)) (pss_cons (ps_expr (pe_bm PySem.F.plainAttrs_list PySem.F.slot_list_append PySem.F.type_list_append mt_append (pv 1) (pa_cons (pe_slice sl_X (pv 0) (po_some (pv 2)) (po_some (pe_op op_addX (pv 2) (pv 5)))) pa_nil)))
    (pss_one (ps_aug (i := 2) sc_parts_falling.nd rfl (Or.inl rfl) (pv 5) ip_add))))))))))
  (pss_one (ps_ret (pv 1)))))),
  (simSeq (simAsgN (simLst simNilA))
  (simSeq (simAsg simInt (simGN 2))
  (simSeq (simWh (simT (simB (simOp2 opCmp (simVarB 2) (simB (simCB opLen (simConsB (simVarB 0) simNilB)))))) (simSeq (simAsg (simVar 2) (simGN 3))
   (simSeq (simAsg (simOp2 opAdd (simVarB 2) (simB simInt)) (simGN 4))
   (simSeq (simWh (simAndT (simT (simB (simOp2 opCmp (simVarB 4) (simB (simCB opLen (simConsB (simVarB 0) simNilB)))))) (simT (simB (simOp2 opCmp (simB (simOp2 opIx (simVarB 0) (simVarB 3))) (simB (simOp2 opIx (simVarB 0) (simVarB 4))))))) (simSeq (simIfS (simT (simB (simOp2 opCmp (simB (simOp2 opIx (simVarB 0) (simVarB 3))) (simB (simOp2 opIx (simVarB 0) (simVarB 4)))))) (simAsg (simVar 2) (simGN 3)) (simAug (simB simInt)))
    (simAug (simB simInt))))
   (simSeq (simAsg (simOp2 opSub (simVarB 4) (simVarB 3)) (simGN 5))
   (simWh (simT (simB (simOp2 opCmp (simVarB 2) (simVarB 3)))) (simSeq (simApp (simSl opSl (simVarB 0) (simPart (simVarB 2)) (simPart (simB (simOp2 opAdd (simVarB 2) (simVarB 5))))))
    (simAug (simVarB 5)))))))))
  (simRet (simVar 1)))))⟩
theorem ok_next_least (T : Txt K mg) : FnOk P w K mg base CX0 1 T.f_next_least T.d_next_least ["text", "size", "letters"] (spP m_next_least) :=
  ok_pure (r := r_next_least) 4 3 T.F_next_least sc_next_least rfl rfl (by decide) fun cdv A outer s H E hr => ⟨_,
  (pss_cons (ps_set (i := 3) sc_next_least.nd rfl (Or.inl rfl) (pe_slice sl_X (pe_op op_mulX (pv 0) (pv 1)) po_none (po_some (pv 1))))
  (pss_cons (ps_while PassesOwn.never (PW.pt (pw_and (pt_truth (pv 3) (by intro _; rfl)) (pw_and1 (pt_cmpR (op_eqD hr.units) (pe_ix ix_seq (pv 3) (pe_un un_neg pe_int) (fun _ _ => rfl)) (pe_ix ix_seq (pe_globS rfl T.c_LETTERS) (pe_op op_sub (pv 2) pe_int) (fun _ _ => rfl)) (nomark _))))) (pss_one (ps_set (i := 3) sc_next_least.nd rfl (Or.inl rfl) (pe_slice sl_X (pv 3) po_none (po_some (pe_un un_neg pe_int))))))
  (pss_cons (ps_if (pt_not (pt_truth (pv 3) (by intro _; rfl))) (pss_one (ps_ret pe_non)) pss_nil)
  (pss_one (ps_ret (pe_op op_addX (pe_slice sl_X (pv 3) po_none (po_some (pe_un un_neg pe_int))) (pe_ix ix_seq (pe_globS rfl T.c_LETTERS) (pe_op op_addX (pe_bm PySem.F.plainAttrs_str PySem.F.slot_str_index PySem.F.type_str_index mt_sindex (pe_globS rfl T.c_LETTERS) (pa_cons (pe_ix ix_seq (pv 3) (pe_un un_neg pe_int) (fun _ _ => rfl)) pa_nil)) pe_int) (fun _ _ => rfl)))))))),
  (simSeq (simAsg (simSl opSl (simB (simOp2 opMul (simVarB 0) (simVarB 1))) simNoPart (simPart (simVarB 1))) (simGN 3))
  (simSeq (simWh (simAndT (simTru (simVarB 3)) (simT (simB (simOp2 opEq (simB (simOp2 opIx (simVarB 3) (simB (simOp1 opNeg (simB simInt))))) (simB (simOp2 opIx (simB simStr) (simB (simOp2 opSub (simVarB 2) (simB simInt))))))))) (simAsg (simSl opSl (simVarB 3) simNoPart (simPart (simB (simOp1 opNeg (simB simInt))))) (simGN 3)))
  (simSeq (simIfS (simNotT (simTru (simVarB 3))) (simRet simNon) simNext)
  (simRet (simOp2 opAdd (simB (simSl opSl (simVarB 3) simNoPart (simPart (simB (simOp1 opNeg (simB simInt)))))) (simB (simOp2 opIx (simB simStr) (simB (simOp2 opAdd (simB (simBM opSIndex (simB simStr) (simConsB (simB (simOp2 opIx (simVarB 3) (simB (simOp1 opNeg (simB simInt))))) simNilB))) (simB simInt))))))))))⟩
theorem ok__law_draw (T : Txt K mg) : FnOk P w K mg base CX0 1 T.f__law_draw T.d__law_draw ["feed", "many"] (spF m__law_draw) :=
  ok_feed (r := r__law_draw) 5 2 T.F__law_draw sc__law_draw rfl rfl (by decide) fun cdv A outer s H E hr => ⟨_,
  (pss_cons (ps_if (PW.pt (pw_and (pt_cmpR (op_eqD hr.units) (pe_ix ix_seq (pv 0) pe_int (fun _ _ => rfl)) pe_int (nomark _)) (pw_and1 (pt_cmpR op_ltX (pe_ix ix_seq (pv 0) pe_int (fun _ _ => rfl)) (pe_callB call_lenX rfl T.z_len (by decide +kernel) (pa_cons (pe_ix ix_seq (pv 0) pe_int (fun _ _ => rfl)) pa_nil)) (nomark _))))) (pss_cons (ps_set (i := 2) sc__law_draw.nd rfl (Or.inl rfl) (pe_callB call_abs rfl T.z_abs (by decide +kernel) (pa_cons (pe_callTy call_int1 rfl T.z_int (by decide +kernel) (pa_cons (pe_ix ix_seq (pe_ix ix_seq (pv 0) pe_int (fun _ _ => rfl)) (pe_ix ix_seq (pv 0) pe_int (fun _ _ => rfl)) (fun _ _ => rfl)) pa_nil)) pa_nil)))
   (pss_cons (ps_augS (pv 0) pe_int pget_list pe_int ip_add set_list)
   (pss_one (ps_if (pt_cmpR op_geX (pv 2) (pe_op op_pow pe_int pe_int) (nomark _)) (pss_one (ps_asg (pv 2) (pg_sub (pv 0) pe_int set_list))) (pss_one (ps_asg (pe_op op_mod (pe_callTy call_int1 rfl T.z_int (by decide +kernel) (pa_cons (pe_op op_addX (pe_op op_addX (pe_op op_mulX (pe_ix ix_seq (pv 0) pe_int (fun _ _ => rfl)) pe_int) (pe_op op_mulX (pv 2) pe_int)) (pe_ix ix_seq (pv 0) pe_int (fun _ _ => rfl))) pa_nil)) pe_int) (pg_sub (pv 0) pe_int set_list))))))) pss_nil)
  (pss_cons (ps_if (pt_cmpR op_gtX (pe_ix ix_seq (pv 0) pe_int (fun _ _ => rfl)) pe_int (nomark _)) (pss_cons (ps_set (i := 3) sc__law_draw.nd rfl (Or.inl rfl) (pe_op op_mod (pe_callTy call_int1 rfl T.z_int (by decide +kernel) (pa_cons (pe_ix ix_seq (pv 0) pe_int (fun _ _ => rfl)) pa_nil)) (pv 1)))
   (pss_cons (ps_asg (pe_op op_fdivW (pe_ix ix_seq (pv 0) pe_int (fun _ _ => rfl)) (pv 1)) (pg_sub (pv 0) pe_int set_list))
   (pss_one (ps_ret (pv 3))))) pss_nil)
  (pss_cons (ps_asg (pe_op op_mod (pe_callTy call_int1 rfl T.z_int (by decide +kernel) (pa_cons (pe_op op_addX (pe_op op_mulX (pe_ix ix_seq (pv 0) pe_int (fun _ _ => rfl)) pe_int) pe_int) pa_nil)) pe_int) (pg_sub (pv 0) pe_int set_list))
  (pss_cons (ps_set (i := 4) sc__law_draw.nd rfl (Or.inl rfl) (pe_op op_mod (pe_callTy call_int1 rfl T.z_int (by decide +kernel) (pa_cons (pe_op op_addX (pe_op op_mulX (pe_ix ix_seq (pv 0) pe_int (fun _ _ => rfl)) (pe_ix ix_seq (pv 0) pe_int (fun _ _ => rfl))) (pe_ix ix_seq (pv 0) pe_int (fun _ _ => rfl))) pa_nil)) pe_int))
  (pss_one (ps_ret (pe_op op_mod (pe_op op_fdivW (pv 4) pe_int) (pv 1)))))))),
  (simSeq (simIfS (simAndT (simT (simB (simOp2 opEq (simB simFI) (simB simInt)))) (simT (simB (simOp2 opCmp (simB simFI) (simB simFL))))) (simSeq (simAsg (simCB opAbs (simConsB (simB (simCB opInt (simConsB (simB simFN) simNilB))) simNilB)) (simGN 2))
   (simSeq (simFA (simB simInt))
   (simIfS (simT (simB (simOp2 opCmp (simVarB 2) (simB (simOp2 opPow (simB simInt) (simB simInt)))))) (simFS (simVarB 2)) (simFS (simB (simOp2 opMod (simB (simCB opInt (simConsB (simB (simOp2 opAdd (simB (simOp2 opAdd (simB (simOp2 opMul (simB simFI) (simB simInt))) (simB (simOp2 opMul (simVarB 2) (simB simInt))))) (simB simFI))) simNilB))) (simB simInt))))))) simNext)
  (simSeq (simIfS (simT (simB (simOp2 opCmp (simB simFI) (simB simInt)))) (simSeq (simAsg (simOp2 opMod (simB (simCB opInt (simConsB (simB simFI) simNilB))) (simVarB 1)) (simGN 3))
   (simSeq (simFS (simB (simOp2 opDiv (simB simFI) (simVarB 1))))
   (simRet (simVar 3)))) simNext)
  (simSeq (simFS (simB (simOp2 opMod (simB (simCB opInt (simConsB (simB (simOp2 opAdd (simB (simOp2 opMul (simB simFI) (simB simInt))) (simB simInt))) simNilB))) (simB simInt))))
  (simSeq (simAsg (simOp2 opMod (simB (simCB opInt (simConsB (simB (simOp2 opAdd (simB (simOp2 opMul (simB simFI) (simB simFI))) (simB simFI))) simNilB))) (simB simInt)) (simGN 4))
  (simRet (simOp2 opMod (simB (simOp2 opDiv (simVarB 4) (simB simInt))) (simVarB 1)))))))⟩
theorem ok__law_turned (T : Txt K mg) : FnOk P w K mg base CX0 1 T.f__law_turned T.d__law_turned ["word", "k"] (spP m__law_turned) :=
  ok_pure (r := r__law_turned) 2 2 T.F__law_turned sc__law_turned rfl rfl (by decide) fun cdv A outer s H E hr => ⟨_,
  (pss_one (ps_ret (pe_op op_addX (pe_slice sl_X (pv 0) (po_some (pv 1)) po_none) (pe_slice sl_X (pv 0) po_none (po_some (pv 1)))))),
  (simRet (simOp2 opAdd (simB (simSl opSl (simVarB 0) (simPart (simVarB 1)) simNoPart)) (simB (simSl opSl (simVarB 0) simNoPart (simPart (simVarB 1))))))⟩
theorem ok__law_partings (T : Txt K mg) : FnOk P w K mg base CX0 1 T.f__law_partings T.d__law_partings ["text"] (spP m__law_partings) :=
  ok_pure (r := r__law_partings) 9 1 T.F__law_partings sc__law_partings rfl rfl (by decide) fun cdv A outer s H E hr => ⟨_,
  (pss_cons (ps_setLc (i := 1) (own := [("k", 7)]) rfl sc__law_partings.nd rfl rfl (sw_true rfl rfl rfl (by decide +kernel)) (pi_range2 rfl T.z_range (pa_cons pe_int (pa_cons (pe_op op_addX (pe_callB call_lenX rfl T.z_len (by decide +kernel) (pa_cons (pv 0) pa_nil)) pe_int) pa_nil))) (blkOk_by (N := ["text", "found", "done", "step", "longer", "parts", "used", "k", "part"]) (sc := defScope s__law_partings) (own := [("k", 7)]) (by decide +kernel)) (fun _ _ _ _ _ => (pg_name (i := 7) sc__law_partings.nd rfl (Or.inl rfl))) (fun _ _ _ _ _ => pts_nil) (fun _ _ _ _ _ => (pe_lst (pa_cons (pe_slice sl_X (pv 0) po_none (po_some (pv 7))) pa_nil))))
  (pss_cons (ps_set (i := 2) sc__law_partings.nd rfl (Or.inl rfl) (pe_lst pa_nil))
  (pss_cons (ps_for PassesOwn.never rfl (pi_range1 rfl T.z_range (pa_cons (pe_callB call_lenX rfl T.z_len (by decide +kernel) (pa_cons (pv 0) pa_nil)) pa_nil)) (pg_name (i := 3) sc__law_partings.nd rfl (Or.inl rfl)) (pss_cons (ps_set (i := 4) sc__law_partings.nd rfl (Or.inl rfl) (pe_lst pa_nil))
   (pss_cons (ps_for PassesOwn.never rfl (pi_any (pv 1)) (pg_name (i := 5) sc__law_partings.nd rfl (Or.inr rfl)) (pss_cons (ps_set (i := 6) sc__law_partings.nd rfl (Or.inr rfl) (pe_callB (cr_sum rfl) rfl T.z_sum (by decide +kernel) (pa_cons (pe_lc (own := [("part", 8)]) rfl sc__law_partings.nd (pi_any (pv 5)) (blkOk_by (N := ["text", "found", "done", "step", "longer", "parts", "used", "k", "part"]) (sc := defScope s__law_partings) (own := [("part", 8)]) (by decide +kernel)) (fun _ _ _ _ _ => (pg_name (i := 8) sc__law_partings.nd rfl (Or.inl rfl))) (fun _ _ _ _ _ => pts_nil) (fun _ _ _ _ _ => (pe_callB call_lenX rfl T.z_len (by decide +kernel) (pa_cons (pv 8) pa_nil)))) pa_nil)))
    (pss_cons (ps_if (pt_cmpR (op_eqD hr.units) (pv 6) (pe_callB call_lenX rfl T.z_len (by decide +kernel) (pa_cons (pv 0) pa_nil)) (nomark _)) (pss_one (ps_expr (pe_bm PySem.F.plainAttrs_list PySem.F.slot_list_append PySem.F.type_list_append mt_append (pv 2) (pa_cons (pv 5) pa_nil)))) pss_nil)
    (pss_one (ps_set (i := 4) sc__law_partings.nd rfl (Or.inl rfl) (pe_op op_addX (pv 4) (pe_lc (own := [("k", 7)]) rfl sc__law_partings.nd (pi_range2 rfl T.z_range (pa_cons (pe_op op_addX (pv 6) pe_int) (pa_cons (pe_op op_addX (pe_callB call_lenX rfl T.z_len (by decide +kernel) (pa_cons (pv 0) pa_nil)) pe_int) pa_nil))) (blkOk_by (N := ["text", "found", "done", "step", "longer", "parts", "used", "k", "part"]) (sc := defScope s__law_partings) (own := [("k", 7)]) (by decide +kernel)) (fun _ _ _ _ _ => (pg_name (i := 7) sc__law_partings.nd rfl (Or.inl rfl))) (fun _ _ _ _ _ => pts_nil) (fun _ _ _ _ _ => (pe_op op_addX (pv 5) (pe_lst (pa_cons (pe_slice sl_X (pv 0) (po_some (pv 6)) (po_some (pv 7))) pa_nil)))))))))))
   (pss_one (ps_set (i := 1) sc__law_partings.nd rfl (Or.inl rfl) (pv 4))))))
  (pss_one (ps_ret (pv 2)))))),
  (simSeq (simAsg (simN (simLc (simIR2 (simConsA simInt (simConsA (simOp2 opAdd (simB (simCB opLen (simConsB (simVarB 0) simNilB))) (simB simInt)) simNilA))) (simGN 7) simYes (simN (simLst (simConsA (simSl opSl (simVarB 0) simNoPart (simPart (simVarB 7))) simNilA))) (by decide))) (simGN 1))
  (simSeq (simAsgN (simLst simNilA))
  (simSeq (simFor (simIR1 (simConsA (simCB opLen (simConsB (simVarB 0) simNilB)) simNilA)) (simGN 3) (simSeq (simAsg (simN (simLst simNilA)) (simGN 4))
   (simSeq (simFor (simIX (simVar 1)) (simGN 5) (simSeq (simAsg (simCB opSum (simConsB (simB (simN (simLc (simIX (simVar 5)) (simGN 8) simYes (simCB opLen (simConsB (simVarB 8) simNilB)) (by decide)))) simNilB)) (simGN 6))
    (simSeq (simIfS (simT (simB (simOp2 opEq (simVarB 6) (simB (simCB opLen (simConsB (simVarB 0) simNilB)))))) (simApp (simVar 5)) simNext)
    (simAsg (simOp2 opAdd (simVarB 4) (simB (simN (simLc (simIR2 (simConsA (simOp2 opAdd (simVarB 6) (simB simInt)) (simConsA (simOp2 opAdd (simB (simCB opLen (simConsB (simVarB 0) simNilB))) (simB simInt)) simNilA))) (simGN 7) simYes (simOp2 opAdd (simVarB 5) (simB (simN (simLst (simConsA (simSl opSl (simVarB 0) (simPart (simVarB 6)) (simPart (simVarB 7))) simNilA))))) (by decide))))) (simGN 4)))))
   (simAsg (simVar 4) (simGN 1)))))
  (simRet (simVar 2)))))⟩
theorem ok_all_least (T : Txt K mg) : FnOk P w K mg base CX0 2 T.f_all_least T.d_all_least ["size", "letters"] (spP m_all_least) :=
  ok_pure (r := r_all_least) 4 2 T.F_all_least sc_all_least rfl rfl (by decide) fun cdv A outer s H E hr => ⟨_,
  (pss_cons (ps_set (i := 2) sc_all_least.nd rfl (Or.inl rfl) (pe_lst pa_nil))
  (pss_cons (ps_set (i := 3) sc_all_least.nd rfl (Or.inl rfl) pe_str)
  (pss_cons (ps_while PassesOwn.never (pt_cmpR op_notN (pv 3) pe_non (nomark _)) (pss_cons (ps_expr (pe_bm PySem.F.plainAttrs_list PySem.F.slot_list_append PySem.F.type_list_append mt_append (pv 2) (pa_cons (pv 3) pa_nil)))
   (pss_one (ps_set (i := 3) sc_all_least.nd rfl (Or.inl rfl) (pe_call (ok_next_least T) (hr.mono (by decide)) rfl T.g_next_least T.F_next_least.kp T.b_next_least .nil pass0 (pa_cons (pv 3) (pa_cons (pv 0) (pa_cons (pv 1) pa_nil))))))))
  (pss_one (ps_ret (pv 2)))))),
  (simSeq (simAsgN (simLst simNilA))
  (simSeq (simAsg simStr (simGN 3))
  (simSeq (simWh (simT (simB (simOp2 opNotN (simVarB 3) (simB simNon)))) (simSeq (simApp (simVar 3))
   (simAsg (simCall (simConsA (simVar 3) (simConsA (simVar 0) (simConsA (simVar 1) simNilA)))) (simGN 3))))
  (simRet (simVar 2)))))⟩
theorem ok__law_word (T : Txt K mg) : FnOk P w K mg base CX0 2 T.f__law_word T.d__law_word ["feed"] (spF m__law_word) :=
  ok_feed (r := r__law_word) 4 1 T.F__law_word sc__law_word rfl rfl (by decide) fun cdv A outer s H E hr => ⟨_,
  (pss_cons (ps_set (i := 1) sc__law_word.nd rfl (Or.inl rfl) (pe_op op_addX pe_int (pe_call (ok__law_draw T) (hr.mono (by decide)) rfl T.g__law_draw T.F__law_draw.kp T.b__law_draw .nil pass0 (pa_cons (pv 0) (pa_cons pe_int pa_nil)))))
  (pss_cons (ps_set (i := 2) sc__law_word.nd rfl (Or.inr rfl) (pe_slice sl_X pe_str po_none (po_some (pe_op op_addX pe_int (pe_call (ok__law_draw T) (hr.mono (by decide)) rfl T.g__law_draw T.F__law_draw.kp T.b__law_draw .nil pass0 (pa_cons (pv 0) (pa_cons pe_int pa_nil)))))))
  (pss_one (ps_ret (pe_join pe_str (pe_lc (own := [("k", 3)]) rfl sc__law_word.nd (pi_range1 rfl T.z_range (pa_cons (pv 1) pa_nil)) (blkOk_by (N := ["feed", "many", "letters", "k"]) (sc := defScope s__law_word) (own := [("k", 3)]) (by decide +kernel)) (fun _ _ _ _ _ => (pg_name (i := 3) sc__law_word.nd rfl (Or.inl rfl))) (fun _ _ _ _ _ => pts_nil) (fun _ _ _ _ _ => (pe_ix ix_seq (pv 2) (pe_call (ok__law_draw T) (hr.mono (by decide)) rfl T.g__law_draw T.F__law_draw.kp T.b__law_draw .nil pass0 (pa_cons (pv 0) (pa_cons (pe_callB call_lenX rfl T.z_len (by decide +kernel) (pa_cons (pv 2) pa_nil)) pa_nil))) (fun _ _ => rfl))))))))),
  (simSeq (simAsg (simOp2 opAdd (simB simInt) (simB (simCallF (simConsA simInt simNilA)))) (simGN 1))
  (simSeq (simAsg (simSl opSl (simB simStr) simNoPart (simPart (simB (simOp2 opAdd (simB simInt) (simB (simCallF (simConsA simInt simNilA))))))) (simGN 2))
  (simRet (simM1 (T := "str") opJoin (simB simStr) (simB (simN (simLc (simIR1 (simConsA (simVar 1) simNilA)) (simGN 3) simYes (simOp2 opIx (simVarB 2) (simB (simCallF (simConsA (simCB opLen (simConsB (simVarB 2) simNilB)) simNilA)))) (by decide))))))))⟩
theorem ok__law_least (T : Txt K mg) : FnOk P w K mg base CX0 2 T.f__law_least T.d__law_least ["text"] (spP m__law_least) :=
  ok_pure (r := r__law_least) 2 1 T.F__law_least sc__law_least rfl rfl (by decide) fun cdv A outer s H E hr => ⟨_,
  (pss_one (ps_ret (pe_cmpR (op_eqD hr.units) (pe_callB call_lenX rfl T.z_len (by decide +kernel) (pa_cons (pe_lc (own := [("k", 1)]) rfl sc__law_least.nd (pi_range2 rfl T.z_range (pa_cons pe_int (pa_cons (pe_callB call_lenX rfl T.z_len (by decide +kernel) (pa_cons (pv 0) pa_nil)) pa_nil))) (blkOk_by (N := ["text", "k"]) (sc := defScope s__law_least) (own := [("k", 1)]) (by decide +kernel)) (fun _ _ _ _ _ => (pg_name (i := 1) sc__law_least.nd rfl (Or.inl rfl))) (fun _ _ _ _ _ => (pts_one (pt_cmpR op_leX (pe_call (ok__law_turned T) (hr.mono (by decide)) rfl T.g__law_turned T.F__law_turned.kp T.b__law_turned .nil pass0 (pa_cons (pv 0) (pa_cons (pv 1) pa_nil))) (pv 0) (nomark _)))) (fun _ _ _ _ _ => (pv 1))) pa_nil)) pe_int (nomark _)))),
  (simRet (simOp2 opEq (simB (simCB opLen (simConsB (simB (simN (simLc (simIR2 (simConsA simInt (simConsA (simCB opLen (simConsB (simVarB 0) simNilB)) simNilA))) (simGN 1) (simT (simB (simOp2 opCmp (simB (simCall (simConsA (simVar 0) (simConsA (simVar 1) simNilA)))) (simVarB 0)))) (simVar 1) (by decide)))) simNilB))) (simB simInt)))⟩
theorem ok_all_joined (T : Txt K mg) : FnOk P w K mg base CX0 3 T.f_all_joined T.d_all_joined ["size", "letters"] (spP m_all_joined) :=
  ok_pure (r := r_all_joined) 3 2 T.F_all_joined sc_all_joined rfl rfl (by decide) fun cdv A outer s H E hr => ⟨_,
  (pss_one (ps_ret (pe_join pe_str (pe_lc (own := [("text", 2)]) rfl sc_all_joined.nd (pi_any (pe_call (ok_all_least T) (hr.mono (by decide)) rfl T.g_all_least T.F_all_least.kp T.b_all_least .nil pass0 (pa_cons (pv 0) (pa_cons (pv 1) pa_nil)))) (blkOk_by (N := ["size", "letters", "text"]) (sc := defScope s_all_joined) (own := [("text", 2)]) (by decide +kernel)) (fun _ _ _ _ _ => (pg_name (i := 2) sc_all_joined.nd rfl (Or.inl rfl))) (fun _ _ _ _ _ => (pts_one (pt_cmpR (op_eqD hr.units) (pe_op op_mod (pv 0) (pe_callB call_lenX rfl T.z_len (by decide +kernel) (pa_cons (pv 2) pa_nil))) pe_int (nomark _)))) (fun _ _ _ _ _ => (pv 2)))))),
  (simRet (simM1 (T := "str") opJoin (simB simStr) (simB (simN (simLc (simIX (simCall (simConsA (simVar 0) (simConsA (simVar 1) simNilA)))) (simGN 2) (simT (simB (simOp2 opEq (simB (simOp2 opMod (simVarB 0) (simB (simCB opLen (simConsB (simVarB 2) simNilB))))) (simB simInt)))) (simVar 2) (by decide))))))⟩
theorem ok__law_fits (T : Txt K mg) : FnOk P w K mg base CX0 3 T.f__law_fits T.d__law_fits ["parts"] (spP m__law_fits) :=
  ok_pure (r := r__law_fits) 3 1 T.F__law_fits sc__law_fits rfl rfl (by decide) fun cdv A outer s H E hr => ⟨_,
  (pss_one (ps_ret (pe_and (pe_cmpR (op_eqD hr.units) (pe_callB call_lenX rfl T.z_len (by decide +kernel) (pa_cons (pe_lc (own := [("part", 1)]) rfl sc__law_fits.nd (pi_any (pv 0)) (blkOk_by (N := ["parts", "part", "k"]) (sc := defScope s__law_fits) (own := [("part", 1)]) (by decide +kernel)) (fun _ _ _ _ _ => (pg_name (i := 1) sc__law_fits.nd rfl (Or.inl rfl))) (fun _ _ _ _ _ => (pts_one (pt_not (pt_val (pe_call (ok__law_least T) (hr.mono (by decide)) rfl T.g__law_least T.F__law_least.kp T.b__law_least .nil pass0 (pa_cons (pv 1) pa_nil)))))) (fun _ _ _ _ _ => (pv 1))) pa_nil)) pe_int (nomark _)) (pe_one (pe_cmpR (op_eqD hr.units) (pe_callB call_lenX rfl T.z_len (by decide +kernel) (pa_cons (pe_lc (own := [("k", 2)]) rfl sc__law_fits.nd (pi_range2 rfl T.z_range (pa_cons pe_int (pa_cons (pe_callB call_lenX rfl T.z_len (by decide +kernel) (pa_cons (pv 0) pa_nil)) pa_nil))) (blkOk_by (N := ["parts", "part", "k"]) (sc := defScope s__law_fits) (own := [("k", 2)]) (by decide +kernel)) (fun _ _ _ _ _ => (pg_name (i := 2) sc__law_fits.nd rfl (Or.inl rfl))) (fun _ _ _ _ _ => (pts_one (pt_cmpR op_ltX (pe_ix ix_seq (pv 0) (pe_op op_sub (pv 2) pe_int) (fun _ _ => rfl)) (pe_ix ix_seq (pv 0) (pv 2) (fun _ _ => rfl)) (nomark _)))) (fun _ _ _ _ _ => (pv 2))) pa_nil)) pe_int (nomark _)))))),
  (simRet (simAndV (simOp2 opEq (simB (simCB opLen (simConsB (simB (simN (simLc (simIX (simVar 0)) (simGN 1) (simNotT (simTB (simB (simCallB (simConsB (simVarB 1) simNilB))))) (simVar 1) (by decide)))) simNilB))) (simB simInt)) (simOp2 opEq (simB (simCB opLen (simConsB (simB (simN (simLc (simIR2 (simConsA simInt (simConsA (simCB opLen (simConsB (simVarB 0) simNilB)) simNilA))) (simGN 2) (simT (simB (simOp2 opCmp (simB (simOp2 opIx (simVarB 0) (simB (simOp2 opSub (simVarB 2) (simB simInt))))) (simB (simOp2 opIx (simVarB 0) (simVarB 2)))))) (simVar 2) (by decide)))) simNilB))) (simB simInt))))⟩
theorem ok__law_all (T : Txt K mg) : FnOk P w K mg base CX0 3 T.f__law_all T.d__law_all ["size", "letters"] (spP m__law_all) :=
  ok_pure (r := r__law_all) 8 2 T.F__law_all sc__law_all rfl rfl (by decide) fun cdv A outer s H E hr => ⟨_,
  (pss_cons (ps_set (i := 2) sc__law_all.nd rfl (Or.inl rfl) (pe_lst pa_nil))
  (pss_cons (ps_set (i := 3) sc__law_all.nd rfl (Or.inl rfl) (pe_lst (pa_cons pe_str pa_nil)))
  (pss_cons (ps_for PassesOwn.never rfl (pi_range1 rfl T.z_range (pa_cons (pv 0) pa_nil)) (pg_name (i := 4) sc__law_all.nd rfl (Or.inl rfl)) (pss_cons (ps_set (i := 5) sc__law_all.nd rfl (Or.inl rfl) (pe_lst pa_nil))
   (pss_cons (ps_for PassesOwn.never rfl (pi_any (pv 3)) (pg_name (i := 6) sc__law_all.nd rfl (Or.inr rfl)) (pss_one (ps_set (i := 5) sc__law_all.nd rfl (Or.inl rfl) (pe_op op_addX (pv 5) (pe_lc (own := [("x", 7)]) rfl sc__law_all.nd (pi_any (pe_slice sl_X pe_str po_none (po_some (pv 1)))) (blkOk_by (N := ["size", "letters", "found", "rows", "step", "longer", "row", "x"]) (sc := defScope s__law_all) (own := [("x", 7)]) (by decide +kernel)) (fun _ _ _ _ _ => (pg_name (i := 7) sc__law_all.nd rfl (Or.inl rfl))) (fun _ _ _ _ _ => pts_nil) (fun _ _ _ _ _ => (pe_op op_addX (pv 6) (pv 7))))))))
   (pss_cons (ps_set (i := 3) sc__law_all.nd rfl (Or.inl rfl) (pv 5))
   (pss_one (ps_set (i := 2) sc__law_all.nd rfl (Or.inl rfl) (pe_op op_addX (pv 2) (pe_lc (own := [("row", 6)]) rfl sc__law_all.nd (pi_any (pv 3)) (blkOk_by (N := ["size", "letters", "found", "rows", "step", "longer", "row", "x"]) (sc := defScope s__law_all) (own := [("row", 6)]) (by decide +kernel)) (fun _ _ _ _ _ => (pg_name (i := 6) sc__law_all.nd rfl (Or.inl rfl))) (fun _ _ _ _ _ => (pts_one (pt_val (pe_call (ok__law_least T) (hr.mono (by decide)) rfl T.g__law_least T.F__law_least.kp T.b__law_least .nil pass0 (pa_cons (pv 6) pa_nil))))) (fun _ _ _ _ _ => (pv 6))))))))))
  (pss_one (ps_ret (pe_callB (cr_sortD (hu70 hr)) rfl T.z_sorted (by decide +kernel) (pa_cons (pv 2) pa_nil))))))),
  (simSeq (simAsg (simN (simLst simNilA)) (simGN 2))
  (simSeq (simAsg (simN (simLst (simConsA simStr simNilA))) (simGN 3))
  (simSeq (simFor (simIR1 (simConsA (simVar 0) simNilA)) (simGN 4) (simSeq (simAsg (simN (simLst simNilA)) (simGN 5))
   (simSeq (simFor (simIX (simVar 3)) (simGN 6) (simAsg (simOp2 opAdd (simVarB 5) (simB (simN (simLc (simIX (simSl opSl (simB simStr) simNoPart (simPart (simVarB 1)))) (simGN 7) simYes (simOp2 opAdd (simVarB 6) (simVarB 7)) (by decide))))) (simGN 5)))
   (simSeq (simAsg (simVar 5) (simGN 3))
   (simAsg (simOp2 opAdd (simVarB 2) (simB (simN (simLc (simIX (simVar 3)) (simGN 6) (simTB (simB (simCallB (simConsB (simVarB 6) simNilB)))) (simVar 6) (by decide))))) (simGN 2))))))
  (simRet (simN (simCBN opSortD (simConsB (simVarB 2) simNilB)))))))⟩
theorem ok__law_round (T : Txt K mg) : FnOk P w K mg base CX0 4 T.f__law_round T.d__law_round ["size", "letters"] (spP m__law_round) :=
  ok_pure (r := r__law_round) 7 2 T.F__law_round sc__law_round rfl rfl (by decide) fun cdv A outer s H E hr => ⟨_,
  (pss_cons (ps_set (i := 2) sc__law_round.nd rfl (Or.inr rfl) (pe_call (ok_all_joined T) (hr.mono (by decide)) rfl T.g_all_joined T.F_all_joined.kp T.b_all_joined .nil pass0 (pa_cons (pv 0) (pa_cons (pv 1) pa_nil))))
  (pss_cons (ps_set (i := 3) sc__law_round.nd rfl (Or.inr rfl) (pe_lc (own := [("k", 6)]) rfl sc__law_round.nd (pi_range1 rfl T.z_range (pa_cons (pe_callB call_lenX rfl T.z_len (by decide +kernel) (pa_cons (pv 2) pa_nil)) pa_nil)) (blkOk_by (N := ["size", "letters", "text", "parts", "total", "step", "k"]) (sc := defScope s__law_round) (own := [("k", 6)]) (by decide +kernel)) (fun _ _ _ _ _ => (pg_name (i := 6) sc__law_round.nd rfl (Or.inl rfl))) (fun _ _ _ _ _ => pts_nil) (fun _ _ _ _ _ => (pe_slice sl_X (pe_op op_mulX (pv 2) (pe_op op_addX (pv 0) pe_int)) (po_some (pv 6)) (po_some (pe_op op_addX (pv 6) (pv 0)))))))
  (pss_cons (ps_set (i := 4) sc__law_round.nd rfl (Or.inl rfl) pe_int)
  (pss_cons (ps_for PassesOwn.never rfl (pi_range1 rfl T.z_range (pa_cons (pv 0) pa_nil)) (pg_name (i := 5) sc__law_round.nd rfl (Or.inl rfl)) (pss_one (ps_set (i := 4) sc__law_round.nd rfl (Or.inl rfl) (pe_op op_mulX (pv 4) (pv 1)))))
  (pss_one (ps_ret (pe_and (pe_cmpR (op_eqD hr.units) (pe_callB call_lenX rfl T.z_len (by decide +kernel) (pa_cons (pv 3) pa_nil)) (pv 4) (nomark _)) (pe_one (pe_cmpR (op_eqD hr.units) (pe_callB call_lenX rfl T.z_len (by decide +kernel) (pa_cons (pe_lc (own := [("k", 6)]) rfl sc__law_round.nd (pi_range2 rfl T.z_range (pa_cons pe_int (pa_cons (pv 4) pa_nil))) (blkOk_by (N := ["size", "letters", "text", "parts", "total", "step", "k"]) (sc := defScope s__law_round) (own := [("k", 6)]) (by decide +kernel)) (fun _ _ _ _ _ => (pg_name (i := 6) sc__law_round.nd rfl (Or.inl rfl))) (fun _ _ _ _ _ => (pts_one (pt_cmpR (op_eqD hr.units) (pe_ix ix_seq (pe_callB (cr_sortD (hu70 hr)) rfl T.z_sorted (by decide +kernel) (pa_cons (pv 3) pa_nil)) (pe_op op_sub (pv 6) pe_int) (fun _ _ => rfl)) (pe_ix ix_seq (pe_callB (cr_sortD (hu70 hr)) rfl T.z_sorted (by decide +kernel) (pa_cons (pv 3) pa_nil)) (pv 6) (fun _ _ => rfl)) (nomark _)))) (fun _ _ _ _ _ => (pv 6))) pa_nil)) pe_int (nomark _)))))))))),
  (simSeq (simAsg (simCallB (simConsB (simVarB 0) (simConsB (simVarB 1) simNilB))) (simGN 2))
  (simSeq (simAsg (simN (simLc (simIR1 (simConsA (simCB opLen (simConsB (simVarB 2) simNilB)) simNilA)) (simGN 6) simYes (simSl opSl (simB (simOp2 opMul (simVarB 2) (simB (simOp2 opAdd (simVarB 0) (simB simInt))))) (simPart (simVarB 6)) (simPart (simB (simOp2 opAdd (simVarB 6) (simVarB 0))))) (by decide))) (simGN 3))
  (simSeq (simAsg simInt (simGN 4))
  (simSeq (simFor (simIR1 (simConsA (simVar 0) simNilA)) (simGN 5) (simAsg (simOp2 opMul (simVarB 4) (simVarB 1)) (simGN 4)))
  (simRet (simAndV (simOp2 opEq (simB (simCB opLen (simConsB (simVarB 3) simNilB))) (simVarB 4)) (simOp2 opEq (simB (simCB opLen (simConsB (simB (simN (simLc (simIR2 (simConsA simInt (simConsA (simVar 4) simNilA))) (simGN 6) (simT (simB (simOp2 opEq (simB (simOp2 opIx (simB (simN (simCBN opSortD (simConsB (simVarB 3) simNilB)))) (simB (simOp2 opSub (simVarB 6) (simB simInt))))) (simB (simOp2 opIx (simB (simN (simCBN opSortD (simConsB (simVarB 3) simNilB)))) (simVarB 6)))))) (simVar 6) (by decide)))) simNilB))) (simB simInt))))))))⟩
theorem ok_law (T : Txt K mg) (hm : ∀ ns : List Int, ns.length ≤ 63 → ∃ d', r_law (.un :: .fd ⟨ns, 0, 0, 1⟩ :: List.replicate 10 .un) = some (.rt (.bool true) d')) : FnOk P w K mg base CX0 5 T.f_law T.d_law ["script"] (spLaw K) := by
  refine T.F_law.ok sc_law (fun vs H Q E h => ?_) (fun cdv A outer s H vs Q E hr h => ?_)
  · obtain ⟨a, ns, rfl, _⟩ := h
    rfl
  refine ⟨_, pss_cons (ps_set (i := 1) sc_law.nd rfl (Or.inr rfl) (pe_call (ok__law_feed T) (hr.mono (by decide)) rfl T.g__law_feed T.F__law_feed.kp T.b__law_feed .nil pass0 (pa_cons (pv 0) pa_nil)))
    (pss_cons (ps_for PassesOwn.never rfl (pi_range1 rfl T.z_range (pa_cons pe_int pa_nil)) (pg_name (i := 2) sc_law.nd rfl (Or.inl rfl)) (pss_cons (ps_set (i := 3) sc_law.nd rfl (Or.inl rfl) (pe_op op_addX (pe_call (ok__law_word T) (hr.mono (by decide)) rfl T.g__law_word T.F__law_word.kp T.b__law_word .nil pass0 (pa_cons (pv 1) pa_nil)) (pe_join pe_str (pe_lc (own := [("k", 10)]) rfl sc_law.nd (pi_range1 rfl T.z_range (pa_cons (pe_call (ok__law_draw T) (hr.mono (by decide)) rfl T.g__law_draw T.F__law_draw.kp T.b__law_draw .nil pass0 (pa_cons (pv 1) (pa_cons pe_int pa_nil))) pa_nil)) (blkOk_by (N := ["script", "feed", "turn", "text", "one", "parts", "said", "size", "letters", "every", "k", "own"]) (sc := defScope s_law) (own := [("k", 10)]) (by decide +kernel)) (fun _ _ _ _ _ => (pg_name (i := 10) sc_law.nd rfl (Or.inl rfl))) (fun _ _ _ _ _ => pts_nil) (fun _ _ _ _ _ => (pe_ix ix_seq pe_str (pe_call (ok__law_draw T) (hr.mono (by decide)) rfl T.g__law_draw T.F__law_draw.kp T.b__law_draw .nil pass0 (pa_cons (pv 1) (pa_cons pe_int pa_nil))) (fun _ _ => rfl)))))))
   (pss_cons (ps_if (pt_cmpR (op_eqD hr.units) (pe_call (ok__law_draw T) (hr.mono (by decide)) rfl T.g__law_draw T.F__law_draw.kp T.b__law_draw .nil pass0 (pa_cons (pv 1) (pa_cons pe_int pa_nil))) pe_int (nomark _)) (pss_one (ps_set (i := 3) sc_law.nd rfl (Or.inl rfl) (pe_slice sl_X (pe_op op_mulX (pv 3) pe_int) po_none (po_some pe_int)))) pss_nil)
   (pss_cons (ps_for PassesOwn.never rfl (pi_any (pe_lst (pa_cons (pv 3) (pa_cons pe_str pa_nil)))) (pg_name (i := 4) sc_law.nd rfl (Or.inl rfl)) (pss_cons (ps_set (i := 5) sc_law.nd rfl (Or.inl rfl) (pe_call (ok_parts_falling T) (hr.mono (by decide)) rfl T.g_parts_falling T.F_parts_falling.kp T.b_parts_falling .nil pass0 (pa_cons (pv 4) pa_nil)))
    (pss_cons (ps_if (PW.pt (pw_or (pt_not (pt_val (pe_callB call_isi rfl T.z_isinstance (by decide +kernel) (pa_cons (pv 5) (pa_cons (pe_bltn (u := .type "list") (v := .ty "list") rfl T.z_list (by decide +kernel) rfl) pa_nil))))) (pw_or (pt_cmpR (op_neD hr.units) (pe_join pe_str (pv 5)) (pv 4) (nomark _)) (pw_or1 (pt_not (pt_val (pe_call (ok__law_fits T) (hr.mono (by decide)) rfl T.g__law_fits T.F__law_fits.kp T.b__law_fits .nil pass0 (pa_cons (pv 5) pa_nil)))))))) (pss_one (ps_ret pe_bl)) pss_nil)
    (pss_one (ps_if (PW.pt (pw_and (pt_chain op_ltX op_ltX pe_int (pe_callB call_lenX rfl T.z_len (by decide +kernel) (pa_cons (pv 4) pa_nil)) pe_int) (pw_and1 (pt_cmpR (op_neD hr.units) (pe_lc (own := [("own", 11)]) rfl sc_law.nd (pi_any (pe_call (ok__law_partings T) (hr.mono (by decide)) rfl T.g__law_partings T.F__law_partings.kp T.b__law_partings .nil pass0 (pa_cons (pv 4) pa_nil))) (blkOk_by (N := ["script", "feed", "turn", "text", "one", "parts", "said", "size", "letters", "every", "k", "own"]) (sc := defScope s_law) (own := [("own", 11)]) (by decide +kernel)) (fun _ _ _ _ _ => (pg_name (i := 11) sc_law.nd rfl (Or.inl rfl))) (fun _ _ _ _ _ => (pts_one (pt_val (pe_call (ok__law_fits T) (hr.mono (by decide)) rfl T.g__law_fits T.F__law_fits.kp T.b__law_fits .nil pass0 (pa_cons (pv 11) pa_nil))))) (fun _ _ _ _ _ => (pv 11))) (pe_lst (pa_cons (pv 5) pa_nil)) (nomark _))))) (pss_one (ps_ret pe_bl)) pss_nil)))))
   (pss_cons (ps_set (i := 6) sc_law.nd rfl (Or.inl rfl) (pe_call (ok_is_least T) (hr.mono (by decide)) rfl T.g_is_least T.F_is_least.kp T.b_is_least .nil pass0 (pa_cons (pv 3) pa_nil)))
   (pss_one (ps_if (PW.pt (pw_or (pt_not (pt_val (pe_callB call_isi rfl T.z_isinstance (by decide +kernel) (pa_cons (pv 6) (pa_cons (pe_bltn (u := .type "bool") (v := .ty "bool") rfl T.z_bool (by decide +kernel) rfl) pa_nil))))) (pw_or1 (pt_cmpR (op_neD hr.units) (pv 6) (pe_call (ok__law_least T) (hr.mono (by decide)) rfl T.g__law_least T.F__law_least.kp T.b__law_least .nil pass0 (pa_cons (pv 3) pa_nil)) (nomark _))))) (pss_one (ps_ret pe_bl)) pss_nil)))))))
  (pss_cons (ps_set (i := 7) sc_law.nd rfl (Or.inl rfl) (pe_op op_addX pe_int (pe_call (ok__law_draw T) (hr.mono (by decide)) rfl T.g__law_draw T.F__law_draw.kp T.b__law_draw .nil pass0 (pa_cons (pv 1) (pa_cons pe_int pa_nil)))))
  (pss_cons (ps_set (i := 8) sc_law.nd rfl (Or.inl rfl) (pe_op op_addX pe_int (pe_call (ok__law_draw T) (hr.mono (by decide)) rfl T.g__law_draw T.F__law_draw.kp T.b__law_draw .nil pass0 (pa_cons (pv 1) (pa_cons pe_int pa_nil)))))
  (pss_cons (ps_set (i := 9) sc_law.nd rfl (Or.inl rfl) (pe_call (ok__law_all T) (hr.mono (by decide)) rfl T.g__law_all T.F__law_all.kp T.b__law_all .nil pass0 (pa_cons (pv 7) (pa_cons (pv 8) pa_nil))))
  (pss_cons (ps_if (PW.pt (pw_or (pt_cmpR (op_neD hr.units) (pe_call (ok_all_least T) (hr.mono (by decide)) rfl T.g_all_least T.F_all_least.kp T.b_all_least .nil pass0 (pa_cons (pv 7) (pa_cons (pv 8) pa_nil))) (pv 9) (nomark _)) (pw_or1 (pt_not (pt_val (pe_call (ok__law_round T) (hr.mono (by decide)) rfl T.g__law_round T.F__law_round.kp T.b__law_round .nil pass0 (pa_cons (pv 7) (pa_cons (pv 8) pa_nil)))))))) (pss_one (ps_ret pe_bl)) pss_nil)
  (pss_cons (ps_for PassesOwn.never rfl (pi_range1 rfl T.z_range (pa_cons (pe_callB call_lenX rfl T.z_len (by decide +kernel) (pa_cons (pv 9) pa_nil)) pa_nil)) (pg_name (i := 10) sc_law.nd rfl (Or.inl rfl)) (pss_one (ps_if (pt_cmpR (op_neD hr.units) (pe_call (ok_next_least T) (hr.mono (by decide)) rfl T.g_next_least T.F_next_least.kp T.b_next_least .nil pass0 (pa_cons (pe_ix ix_seq (pv 9) (pv 10) (fun _ _ => rfl)) (pa_cons (pv 7) (pa_cons (pv 8) pa_nil)))) (pe_ix ix_seq (pe_op op_addX (pv 9) (pe_lst (pa_cons pe_non pa_nil))) (pe_op op_addX (pv 10) pe_int) (fun _ _ => rfl)) (nomark _)) (pss_one (ps_ret pe_bl)) pss_nil)))
  (pss_one (ps_ret (pe_and (pe_cmpR (op_eqD hr.units) (pe_call (ok_next_least T) (hr.mono (by decide)) rfl T.g_next_least T.F_next_least.kp T.b_next_least .nil pass0 (pa_cons pe_str (pa_cons pe_int (pa_cons pe_int pa_nil)))) pe_str (nomark _)) (pe_one (pe_cmpR (op_eqD hr.units) (pe_call (ok_parts_falling T) (hr.mono (by decide)) rfl T.g_parts_falling T.F_parts_falling.kp T.b_parts_falling .nil pass0 (pa_cons (pe_replC (by decide +kernel) (by decide +kernel)) pa_nil)) (pe_lst (pa_cons pe_str (pa_cons pe_str (pa_cons pe_str (pa_cons pe_str pa_nil))))) (nomark _)))))))))))), run_law (N := ["script", "feed", "turn", "text", "one", "parts", "said", "size", "letters", "every", "k", "own"]) (r := r_law) (simSeq (simFor (simIR1 (simConsA simInt simNilA)) (simGN 2) (simSeq (simAsg (simOp2 opAdd (simB (simCallF simNilA)) (simB (simM1 (T := "str") opJoin (simB simStr) (simB (simN (simLc (simIR1 (simConsA (simCallF (simConsA simInt simNilA)) simNilA)) (simGN 10) simYes (simOp2 opIx (simB simStr) (simB (simCallF (simConsA simInt simNilA)))) (by decide))))))) (simGN 3))
   (simSeq (simIfS (simT (simB (simOp2 opEq (simB (simCallF (simConsA simInt simNilA))) (simB simInt)))) (simAsg (simSl opSl (simB (simOp2 opMul (simVarB 3) (simB simInt))) simNoPart (simPart (simB simInt))) (simGN 3)) simNext)
   (simSeq (simFor (simIX (simN (simLst (simConsA (simVar 3) (simConsA simStr simNilA))))) (simGN 4) (simSeq (simAsg (simCall (simConsA (simVar 4) simNilA)) (simGN 5))
    (simSeq (simIfS (simOrT (simNotT (simTB (simB (simIsi (simVarB 5))))) (simOrT (simT (simB (simOp2 opNe (simB (simM1 (T := "str") opJoin (simB simStr) (simVarB 5))) (simVarB 4)))) (simNotT (simTB (simB (simCallB (simConsB (simVarB 5) simNilB))))))) (simRet simBl) simNext)
    (simIfS (simAndT (simT (simB (simChain opCmp opCmp (simB simInt) (simB (simCB opLen (simConsB (simVarB 4) simNilB))) (simB simInt)))) (simT (simB (simOp2 opNe (simB (simN (simLc (simIX (simCall (simConsA (simVar 4) simNilA))) (simGN 11) (simTB (simB (simCallB (simConsB (simVarB 11) simNilB)))) (simVar 11) (by decide)))) (simB (simN (simLst (simConsA (simVar 5) simNilA)))))))) (simRet simBl) simNext))))
   (simSeq (simAsg (simCallB (simConsB (simVarB 3) simNilB)) (simGN 6))
   (simIfS (simOrT (simNotT (simTB (simB (simIsi (simVarB 6))))) (simT (simB (simOp2 opNe (simVarB 6) (simB (simCallB (simConsB (simVarB 3) simNilB))))))) (simRet simBl) simNext))))))
  (simSeq (simAsg (simOp2 opAdd (simB simInt) (simB (simCallF (simConsA simInt simNilA)))) (simGN 7))
  (simSeq (simAsg (simOp2 opAdd (simB simInt) (simB (simCallF (simConsA simInt simNilA)))) (simGN 8))
  (simSeq (simAsg (simCall (simConsA (simVar 7) (simConsA (simVar 8) simNilA))) (simGN 9))
  (simSeq (simIfS (simOrT (simT (simB (simOp2 opNe (simB (simCall (simConsA (simVar 7) (simConsA (simVar 8) simNilA)))) (simVarB 9)))) (simNotT (simTB (simB (simCallB (simConsB (simVarB 7) (simConsB (simVarB 8) simNilB))))))) (simRet simBl) simNext)
  (simSeq (simFor (simIR1 (simConsA (simCB opLen (simConsB (simVarB 9) simNilB)) simNilA)) (simGN 10) (simIfS (simT (simB (simOp2 opNe (simB (simCall (simConsA (simOp2 opIx (simVarB 9) (simVarB 10)) (simConsA (simVar 7) (simConsA (simVar 8) simNilA))))) (simB (simOp2 opIx (simB (simOp2 opAdd (simVarB 9) (simB (simN (simLst (simConsA simNon simNilA)))))) (simB (simOp2 opAdd (simVarB 10) (simB simInt)))))))) (simRet simBl) simNext))
  (simRet (simAndV (simOp2 opEq (simB (simCall (simConsA simStr (simConsA simInt (simConsA simInt simNilA))))) (simB simStr)) (simOp2 opEq (simB (simCall (simConsA simStr simNilA))) (simB (simN (simLst (simConsA simStr (simConsA simStr (simConsA simStr (simConsA simStr simNilA)))))))))))))))) (by decide) hm h⟩
end
end Wk81
end
section
set_option maxRecDepth 100000
set_option maxHeartbeats 1000000
/-! texts least of their turnings: Lyndon words, Duval's way, one falling list alone -/
namespace Wk81
open DK
/-- a is less than b at some place of both -/
def DL (a b : List Nat) : Prop := ∃ i, i < a.length ∧ i < b.length ∧ (∀ j, j < i → a.getD j 0 = b.getD j 0) ∧ a.getD i 0 < b.getD i 0
theorem gD {l : List Nat} {i : Nat} (h : i < l.length) : l.getD i 0 = l[i] := by
  rw [List.getD_eq_getElem?_getD, List.getElem?_eq_getElem h]; rfl
theorem DL.lt {a b : List Nat} (h : DL a b) : a < b := by
  obtain ⟨i, h1, h2, h3, h4⟩ := h
  refine List.lt_iff_exists.mpr (.inr ⟨i, h1, h2, fun j hj => ?_, ?_⟩)
  · have := h3 j hj
    rwa [gD (by omega), gD (by omega)] at this
  · rwa [gD h1, gD h2] at h4
theorem lt_cases {a b : List Nat} (h : a < b) : DL a b ∨ (a.length < b.length ∧ ∀ j, j < a.length → a.getD j 0 = b.getD j 0) := by
  rcases List.lt_iff_exists.mp h with ⟨h1, h2⟩ | ⟨i, h1, h2, h3, h4⟩
  · refine .inr ⟨h2, fun j hj => ?_⟩
    have e : a.getD j 0 = (b.take a.length).getD j 0 := by rw [← h1]
    rw [e, List.getD_eq_getElem?_getD, List.getElem?_take, if_pos hj, ← List.getD_eq_getElem?_getD]
  · refine .inl ⟨i, h1, h2, fun j hj => ?_, ?_⟩
    · rw [gD (by omega), gD (by omega)]; exact h3 j hj
    · rw [gD h1, gD h2]; exact h4
theorem pre_lt {a b : List Nat} (h1 : a.length < b.length) (h2 : ∀ j, j < a.length → a.getD j 0 = b.getD j 0) : a < b := by
  refine List.lt_iff_exists.mpr (.inl ⟨?_, h1⟩)
  apply List.ext_getElem?
  intro j
  rw [List.getElem?_take]
  by_cases hj : j < a.length
  · rw [if_pos hj, get_some hj (z := 0), get_some (z := 0) (by omega), h2 j hj]
  · rw [if_neg hj, List.getElem?_eq_none (by omega)]
theorem DL.asymm {a b : List Nat} (h : DL a b) (h' : DL b a) : False := List.lt_irrefl _ (List.lt_trans h.lt h'.lt)
theorem drop_get (l : List Nat) (r j : Nat) : (l.drop r).getD j 0 = l.getD (r + j) 0 := by
  rw [List.getD_eq_getElem?_getD, List.getElem?_drop, ← List.getD_eq_getElem?_getD]
theorem take_get {l : List Nat} {r j : Nat} (h : j < r) : (l.take r).getD j 0 = l.getD j 0 := by
  rw [List.getD_eq_getElem?_getD, List.getElem?_take, if_pos h, ← List.getD_eq_getElem?_getD]
theorem app_l {a b : List Nat} {j : Nat} (h : j < a.length) : (a ++ b).getD j 0 = a.getD j 0 := by
  rw [List.getD_eq_getElem?_getD, List.getElem?_append_left h, ← List.getD_eq_getElem?_getD]
theorem app_r {a b : List Nat} {j : Nat} (h : a.length ≤ j) : (a ++ b).getD j 0 = b.getD (j - a.length) 0 := by
  rw [List.getD_eq_getElem?_getD, List.getElem?_append_right h, ← List.getD_eq_getElem?_getD]
def rot (t : List Nat) (k : Nat) : List Nat := t.drop k ++ t.take k
theorem rot_len (t : List Nat) (k : Nat) : (rot t k).length = t.length := by
  unfold rot
  rw [List.length_append, List.length_drop, List.length_take]
  omega
/-- less than all its turnings -/
def LR (t : List Nat) : Prop := ∀ k, 1 ≤ k → k < t.length → t < rot t k
/-- less than all its endings -/
def LS (t : List Nat) : Prop := ∀ r, 1 ≤ r → r < t.length → DL t (t.drop r)
theorem rot_DL {t : List Nat} {k : Nat} (h : t < rot t k) : DL t (rot t k) := by
  rcases lt_cases h with h | ⟨h, _⟩
  · exact h
  · rw [rot_len] at h; omega
theorem LS.lr {t : List Nat} (h : LS t) : LR t := fun k h1 h2 => by
  obtain ⟨i, a, b, c, d⟩ := h k h1 h2
  refine DL.lt ⟨i, a, by rw [rot_len]; exact a, fun j hj => ?_, ?_⟩
  · rw [c j hj]; unfold rot; rw [app_l (by omega)]
  · unfold rot; rw [app_l b]; exact d
theorem LR.ls {t : List Nat} (h : LR t) : LS t := fun r h1 h2 => by
  obtain ⟨i, a, b, c, d⟩ := rot_DL (h r h1 h2)
  have hs : (t.drop r).length = t.length - r := List.length_drop ..
  by_cases z : i < t.length - r
  · refine ⟨i, a, by omega, fun j hj => ?_, ?_⟩
    · rw [c j hj]; unfold rot; rw [app_l (by omega)]
    · unfold rot at d; rwa [app_l (by omega)] at d
  · exfalso
    have e1 : ∀ j, j < t.length - r → t.getD j 0 = t.getD (r + j) 0 := fun j hj => by
      rw [c j (by omega)]; unfold rot; rw [app_l (by omega), drop_get]
    have r1 : ∀ j, t.length - r ≤ j → j < t.length → (rot t r).getD j 0 = t.getD (j - (t.length - r)) 0 := fun j hj hl => by
      unfold rot
      rw [app_r (by omega), hs, take_get (by omega)]
    obtain ⟨i2, a2, b2, c2, d2⟩ := rot_DL (h (t.length - r) (by omega) (by omega))
    have r2 : ∀ j, j < r → (rot t (t.length - r)).getD j 0 = t.getD (t.length - r + j) 0 := fun j hj => by
      unfold rot
      rw [app_l (by rw [List.length_drop]; omega), drop_get]
    -- q < p
    have q1 : ∀ j, j < i - (t.length - r) → t.getD (t.length - r + j) 0 = t.getD j 0 := fun j hj => by
      have := c (t.length - r + j) (by omega)
      rw [this, r1 _ (by omega) (by omega)]
      congr 1
      omega
    have q2 : t.getD i 0 < t.getD (i - (t.length - r)) 0 := by
      rw [r1 i (by omega) a] at d
      exact d
    by_cases y : i2 < r
    · have d3 : t.getD i2 0 < t.getD (t.length - r + i2) 0 := by rw [r2 i2 y] at d2; exact d2
      rcases Nat.lt_trichotomy i2 (i - (t.length - r)) with w | w | w
      · have := q1 i2 w; omega
      · subst w
        rw [show t.length - r + (i - (t.length - r)) = i by omega] at d3
        omega
      · have := c2 (i - (t.length - r)) w
        rw [r2 _ (by omega), show t.length - r + (i - (t.length - r)) = i by omega] at this
        omega
    · have := c2 (i - (t.length - r)) (by omega)
      rw [r2 _ (by omega), show t.length - r + (i - (t.length - r)) = i by omega] at this
      omega
/-! ### Duval: x has the period m, its first m signs are less than their endings -/
def Per (x : List Nat) (m : Nat) : Prop := ∀ i, m ≤ i → i < x.length → x.getD i 0 = x.getD (i - m) 0
theorem Per.mod {x : List Nat} {m : Nat} (h : Per x m) (hm : 0 < m) : ∀ i, i < x.length → x.getD i 0 = x.getD (i % m) 0 := by
  intro i
  induction i using Nat.strongRecOn with
  | _ i ih =>
    intro hi
    by_cases z : i < m
    · rw [Nat.mod_eq_of_lt z]
    · rw [h i (by omega) hi, ih (i - m) (by omega) (by omega), ← Nat.mod_eq_sub_mod (by omega)]
theorem duval {x : List Nat} {m c : Nat} (hm : 0 < m) (hx : m ≤ x.length) (p : Per x m) (l : LS (x.take m)) (hc : x.getD (x.length - m) 0 < c) : LS (x ++ [c]) := by
  intro j h1 h2
  rw [List.length_append, List.length_singleton] at h2
  have hl : (x ++ [c]).length = x.length + 1 := by rw [List.length_append, List.length_singleton]
  have last : (x ++ [c]).getD x.length 0 = c := by rw [app_r (Nat.le_refl _), Nat.sub_self]; rfl
  have old : ∀ i, i < x.length → (x ++ [c]).getD i 0 = x.getD (i % m) 0 := fun i hi => by rw [app_l hi, p.mod hm i hi]
  have hcm : x.getD (x.length % m) 0 < c := by
    have := p.mod hm (x.length - m) (by omega)
    rw [← Nat.mod_eq_sub_mod (by omega)] at this
    omega
  have hr := Nat.mod_lt j hm
  have hjd := Nat.div_add_mod j m
  have addm : ∀ i, (j + i) % m = (j % m + i) % m := fun i => by rw [Nat.mod_add_mod]
  by_cases r0 : j % m = 0
  · refine ⟨x.length - j, by omega, by rw [List.length_drop, hl]; omega, fun i hi => ?_, ?_⟩
    · rw [drop_get, old i (by omega), old (j + i) (by omega), addm, r0, Nat.zero_add]
    · rw [drop_get, show j + (x.length - j) = x.length by omega, last, old _ (by omega)]
      have := addm (x.length - j)
      rw [show j + (x.length - j) = x.length by omega, r0, Nat.zero_add] at this
      rw [← this]
      exact hcm
  · have htl : (x.take m).length = m := by rw [List.length_take]; omega
    obtain ⟨i, a, b, e, d⟩ := l (j % m) (by omega) (by omega)
    rw [List.length_drop, htl] at b
    rw [htl] at a
    have e : ∀ k, k < i → x.getD k 0 = x.getD (j % m + k) 0 := fun k hk => by
      have := e k hk
      rwa [drop_get, take_get (by omega), take_get (by omega)] at this
    have d : x.getD i 0 < x.getD (j % m + i) 0 := by rwa [drop_get, take_get (by omega), take_get (by omega)] at d
    have sm : ∀ k, k ≤ i → (j + k) % m = j % m + k := fun k hk => by rw [addm, Nat.mod_eq_of_lt (by omega)]
    by_cases z : j + i < x.length
    · refine ⟨i, by omega, by rw [List.length_drop, hl]; omega, fun k hk => ?_, ?_⟩
      · rw [drop_get, old k (by omega), old (j + k) (by omega), sm k (by omega), Nat.mod_eq_of_lt (by omega)]
        exact e k hk
      · rw [drop_get, old i (by omega), old (j + i) z, sm i (Nat.le_refl _), Nat.mod_eq_of_lt (by omega)]
        exact d
    · refine ⟨x.length - j, by omega, by rw [List.length_drop, hl]; omega, fun k hk => ?_, ?_⟩
      · rw [drop_get, old k (by omega), old (j + k) (by omega), sm k (by omega), Nat.mod_eq_of_lt (by omega)]
        exact e k (by omega)
      · rw [drop_get, show j + (x.length - j) = x.length by omega, last, old _ (by omega), Nat.mod_eq_of_lt (by omega)]
        have q := sm (x.length - j) (by omega)
        rw [show j + (x.length - j) = x.length by omega] at q
        rw [q] at hcm
        by_cases y : x.length - j < i
        · rw [e _ y]; exact hcm
        · rw [show x.length - j = i by omega] at hcm ⊢
          omega
/-! ### one falling list alone -/
theorem le_tr {a b c : List Nat} (h1 : ¬ a < b) (h2 : ¬ b < c) : ¬ a < c := List.not_lt.mpr (List.le_trans (List.not_lt.mp h2) (List.not_lt.mp h1))
theorem pre_app {v x y : List Nat} (h : v <+: x ++ y) : v <+: x ∨ ∃ w, v = x ++ w ∧ w <+: y := by
  rcases List.prefix_or_prefix_of_prefix h (List.prefix_append x y) with z | ⟨w, rfl⟩
  · exact .inl z
  · exact .inr ⟨w, rfl, (List.prefix_append_right_inj x).mp h⟩
/-- none is less than one behind it -/
def Fall : List (List Nat) → Prop
  | [] => True
  | x :: l => (∀ y, l.head? = some y → ¬ x < y) ∧ Fall l
theorem Fall.all : ∀ {l : List (List Nat)} {x : List Nat}, Fall (x :: l) → ∀ y ∈ l, ¬ x < y
  | [], _, _, y, h => by cases h
  | z :: l, x, h, y, hy => by
    have h1 := h.1 z rfl
    rcases List.mem_cons.mp hy with rfl | hy
    · exact h1
    · exact le_tr h1 (Fall.all h.2 y hy)
theorem tail_in : ∀ (rest : List (List Nat)) (v : List Nat), v ≠ [] → v <+: rest.flatten → ∃ x ∈ rest, ∃ p, p ≠ [] ∧ p <+: x ∧ p <:+ v
  | [], v, hv, h => by
    rw [List.flatten_nil, List.prefix_nil] at h
    exact absurd h hv
  | x :: rest, v, hv, h => by
    rw [List.flatten_cons] at h
    rcases pre_app h with h | ⟨w, rfl, hw9⟩
    · exact ⟨x, List.mem_cons_self, v, hv, h, List.suffix_refl _⟩
    · by_cases hw : w = []
      · subst hw
        rw [List.append_nil] at hv ⊢
        exact ⟨x, List.mem_cons_self, x, hv, List.prefix_refl _, List.suffix_refl _⟩
      · obtain ⟨y, hy, p, h1, h2, h3⟩ := tail_in rest w hw hw9
        exact ⟨y, List.mem_cons_of_mem _ hy, p, h1, h2, h3.trans (List.suffix_append ..)⟩
theorem not_longer {a b : List Nat} {l l' : List (List Nat)} (ha : a ≠ []) (f : Fall (a :: l)) (lb : LS b) (e : (a :: l).flatten = (b :: l').flatten) : ¬ a.length < b.length := by
  intro h
  rw [List.flatten_cons, List.flatten_cons] at e
  have hab : b <+: a ++ l.flatten := by rw [e]; exact List.prefix_append ..
  rcases pre_app hab with hp | ⟨w, rfl, hw⟩
  · have := hp.length_le; omega
  · have hw0 : w ≠ [] := by
      intro z
      subst z
      rw [List.append_nil] at h
      omega
    obtain ⟨x, hx, p, hp0, hpx, hpw⟩ := tail_in l w hw0 hw
    have nx := f.all x hx
    obtain ⟨s, hs⟩ := hpw
    have hlen : (a ++ w).length = a.length + (s.length + p.length) := by rw [List.length_append, ← hs, List.length_append]
    have hpl : 0 < p.length := List.length_pos_iff.mpr hp0
    have hal : 0 < a.length := List.length_pos_iff.mpr ha
    have ed : (a ++ w).drop (a.length + s.length) = p := by
      rw [← hs, ← List.append_assoc, List.drop_left' (by rw [List.length_append])]
    obtain ⟨j, h1, h2, h3, h4⟩ := lb (a.length + s.length) (by omega) (by omega)
    rw [ed] at h2 h3 h4
    obtain ⟨q, hq⟩ := hpx
    have xg : ∀ k, k < p.length → x.getD k 0 = p.getD k 0 := fun k hk => by rw [← hq, app_l hk]
    have hxl : p.length ≤ x.length := by rw [← hq, List.length_append]; omega
    by_cases z : j < a.length
    · refine nx (DL.lt ⟨j, z, by omega, fun k hk => ?_, ?_⟩)
      · have := h3 k hk
        rw [app_l (by omega)] at this
        rw [this, xg k (by omega)]
      · rw [app_l z] at h4
        rw [xg j h2]
        exact h4
    · refine nx (pre_lt (by omega) fun k hk => ?_)
      have := h3 k (by omega)
      rw [app_l hk] at this
      rw [this, xg k (by omega)]
theorem fall_one : ∀ {l l' : List (List Nat)}, (∀ x ∈ l, x ≠ [] ∧ LS x) → (∀ x ∈ l', x ≠ [] ∧ LS x) → Fall l → Fall l' → l.flatten = l'.flatten → l = l'
  | [], [], _, _, _, _, _ => rfl
  | [], b :: l', _, h, _, _, e => by
    have := (h b List.mem_cons_self).1
    rw [List.flatten_nil, List.flatten_cons] at e
    exact absurd (List.append_eq_nil_iff.mp e.symm).1 this
  | a :: l, [], h, _, _, _, e => by
    have := (h a List.mem_cons_self).1
    rw [List.flatten_nil, List.flatten_cons] at e
    exact absurd (List.append_eq_nil_iff.mp e).1 this
  | a :: l, b :: l', h, h', f, f', e => by
    obtain ⟨a0, la⟩ := h a List.mem_cons_self
    obtain ⟨b0, lb⟩ := h' b List.mem_cons_self
    have n1 := not_longer a0 f lb e
    have n2 := not_longer b0 f' la e.symm
    have e' := e
    rw [List.flatten_cons, List.flatten_cons] at e'
    obtain ⟨e1, e2⟩ := List.append_inj e' (by omega)
    subst e1
    rw [fall_one (fun x hx => h x (List.mem_cons_of_mem _ hx)) (fun x hx => h' x (List.mem_cons_of_mem _ hx)) f.2 f'.2 e2]
end Wk81
end
section
set_option maxRecDepth 100000
set_option maxHeartbeats 1000000
namespace Wk81
open DK
/-- Duval's state: from b on the text has the period h - o up to h, and its first signs are less than their endings -/
structure Dv (t : List Nat) (b o h : Nat) : Prop where
  bo : b ≤ o
  oh : o < h
  hn : h ≤ t.length
  per : ∀ i, b + (h - o) ≤ i → i < h → t.getD i 0 = t.getD (i - (h - o)) 0
  ls : LS ((t.drop b).take (h - o))
section
variable {t : List Nat} {b o h : Nat}
theorem seg_get {k m : Nat} (hk : k < m) : ((t.drop b).take m).getD k 0 = t.getD (b + k) 0 := by rw [take_get hk, drop_get]
theorem seg_len {m : Nat} (hm : b + m ≤ t.length) : ((t.drop b).take m).length = m := by
  rw [List.length_take, List.length_drop]
  omega
theorem dv0 (hb : b < t.length) : Dv t b b (b + 1) :=
  ⟨Nat.le_refl _, Nat.lt_succ_self _, hb, fun i h1 h2 => by omega, fun r h1 h2 => by
    rw [seg_len (by omega)] at h2
    omega⟩
theorem dv_eq (d : Dv t b o h) (hn : h < t.length) (e : t.getD o 0 = t.getD h 0) : Dv t b (o + 1) (h + 1) := by
  have d1 := d.bo
  have d2 := d.oh
  refine ⟨by omega, by omega, hn, fun i h1 h2 => ?_, ?_⟩
  · rw [show h + 1 - (o + 1) = h - o by omega] at h1 ⊢
    by_cases z : i = h
    · subst z
      rw [show i - (i - o) = o by omega]
      exact e.symm
    · exact d.per i h1 (by omega)
  · rw [show h + 1 - (o + 1) = h - o by omega]
    exact d.ls
theorem dv_lt (d : Dv t b o h) (hn : h < t.length) (e : t.getD o 0 < t.getD h 0) : Dv t b b (h + 1) := by
  have d1 := d.bo
  have d2 := d.oh
  refine ⟨Nat.le_refl _, by omega, hn, fun i h1 h2 => by omega, ?_⟩
  have hs : (t.drop b).take (h + 1 - b) = (t.drop b).take (h - b) ++ [t.getD h 0] := by
    rw [show h + 1 - b = h - b + 1 by omega, List.take_succ_eq_append_getElem (by rw [List.length_drop]; omega)]
    congr 2
    rw [List.getElem_drop, gD hn]
    congr 1
    omega
  rw [hs]
  have hl : ((t.drop b).take (h - b)).length = h - b := seg_len (by omega)
  refine duval (m := h - o) (by omega) (by rw [hl]; omega) (fun i h1 h2 => ?_) ?_ ?_
  · rw [hl] at h2
    rw [seg_get h2, seg_get (by omega), d.per (b + i) (by omega) (by omega)]
    congr 1
    omega
  · rw [List.take_take, Nat.min_eq_left (by omega)]
    exact d.ls
  · rw [hl, seg_get (by omega), show b + (h - b - (h - o)) = o by omega]
    exact e
theorem dv_mod (d : Dv t b o h) : ∀ i k, b + i * (h - o) + k < h → t.getD (b + i * (h - o) + k) 0 = t.getD (b + k) 0
  | 0, k, _ => by rw [Nat.zero_mul, Nat.add_zero]
  | i + 1, k, hk => by
    rw [Nat.add_mul, Nat.one_mul] at hk ⊢
    rw [d.per _ (by omega) hk, show b + (i * (h - o) + (h - o)) + k - (h - o) = b + i * (h - o) + k by omega]
    exact dv_mod d i k (by omega)
theorem dv_slice (d : Dv t b o h) {i : Nat} (hi : b + i * (h - o) ≤ o) : (t.drop (b + i * (h - o))).take (h - o) = (t.drop b).take (h - o) := by
  have d1 := d.bo
  have d2 := d.oh
  have d3 := d.hn
  apply List.ext_getElem
  · rw [seg_len (by omega), seg_len (by omega)]
  · intro k h1 h2
    rw [seg_len (by omega)] at h1
    rw [← gD, ← gD, seg_get h1, seg_get h1]
    exact dv_mod d i k (by omega)
theorem dv_end (d : Dv t b o h) (e : h = t.length ∨ t.getD h 0 < t.getD o 0) {i : Nat} (h1 : o < b + i * (h - o)) (h2 : b + i * (h - o) ≤ h) {v : List Nat} (hv : v ≠ []) (hp : v <+: t.drop (b + i * (h - o))) : ¬ (t.drop b).take (h - o) < v := by
  have d1 := d.bo
  have d2 := d.oh
  have d3 := d.hn
  have hul : ((t.drop b).take (h - o)).length = h - o := seg_len (by omega)
  obtain ⟨w, hw⟩ := hp
  have vl : v.length ≤ t.length - (b + i * (h - o)) := by
    have := congrArg List.length hw
    rw [List.length_append, List.length_drop] at this
    omega
  have vg : ∀ k, k < v.length → v.getD k 0 = t.getD (b + i * (h - o) + k) 0 := fun k hk => by
    rw [← drop_get, ← hw, app_l hk]
  have eqk : ∀ k, k < v.length → b + i * (h - o) + k < h → v.getD k 0 = ((t.drop b).take (h - o)).getD k 0 := fun k hk hh => by
    rw [vg k hk, dv_mod d i k hh, seg_get (by omega)]
  intro hlt
  refine List.lt_asymm hlt ?_
  by_cases z : v.length ≤ h - (b + i * (h - o))
  · exact pre_lt (by omega) fun k hk => eqk k hk (by omega)
  · refine DL.lt ⟨h - (b + i * (h - o)), by omega, by omega, fun k hk => eqk k (by omega) (by omega), ?_⟩
    rcases e with e | e
    · omega
    · rw [vg _ (by omega), show b + i * (h - o) + (h - (b + i * (h - o))) = h by omega, seg_get (by omega)]
      have e1 : t.getD o 0 = t.getD (b + (h - (b + i * (h - o)))) 0 := by
        have i0 : 0 < i := by
          rcases Nat.eq_zero_or_pos i with z | z
          · subst z; omega
          · exact z
        obtain ⟨i', rfl⟩ : ∃ i', i = i' + 1 := ⟨i - 1, by omega⟩
        rw [Nat.add_mul, Nat.one_mul] at h1 h2 ⊢
        rw [← dv_mod d i' (h - (b + (i' * (h - o) + (h - o)))) (by omega)]
        congr 1
        omega
      rw [← e1]
      exact e
end
/-! ### falling lists grow at their end -/
theorem fall_snoc : ∀ {l : List (List Nat)} {u : List Nat}, Fall l → (∀ x, l.getLast? = some x → ¬ x < u) → Fall (l ++ [u])
  | [], u, _, _ => ⟨fun y h => (by cases h), trivial⟩
  | [x], u, _, h => ⟨fun y hy => (by cases hy; exact h x rfl), ⟨fun y h => (by cases h), trivial⟩⟩
  | x :: y :: l, u, f, h => ⟨fun z hz => f.1 z hz, fall_snoc (l := y :: l) f.2 fun z hz => h z (by rw [List.getLast?_cons_cons]; exact hz)⟩
theorem fall_idx : ∀ {l : List (List Nat)}, (∀ k, k + 1 < l.length → ¬ l.getD k [] < l.getD (k + 1) []) ↔ Fall l
  | [] => ⟨fun _ => trivial, fun _ k h => by rw [List.length_nil] at h; omega⟩
  | x :: l => by
    have ih := fall_idx (l := l)
    constructor
    · intro h
      refine ⟨fun y hy => ?_, ih.mp fun k hk => ?_⟩
      · cases l with
        | nil => cases hy
        | cons z l =>
          cases hy
          exact h 0 (by rw [List.length_cons, List.length_cons]; omega)
      · exact h (k + 1) (by rw [List.length_cons]; omega)
    · rintro ⟨h1, h2⟩ k hk
      cases k with
      | zero =>
        cases l with
        | nil => rw [List.length_cons, List.length_nil] at hk; omega
        | cons z l => exact h1 z rfl
      | succ k => exact ih.mpr h2 k (by rw [List.length_cons] at hk; omega)
end Wk81
end
section
--DZ
--DZC
set_option maxRecDepth 100000
set_option maxHeartbeats 4000000
namespace Wk81
open PySem L2 DK
local macro_rules | `(tactic| simp! [$ts,*]) => `(tactic| simp -implicitDefEqProofs (disch := first | assumption | omega) only [sAsg, sAsgN, sRet, sDrop, sNext, sApp, sExt, sAug, sSetL, sDPutR, sFS, sFA, sPar, rVar, rVarB, rC, rB, rOp2, rOp2N, rOp1, rOpA, rOpAN, rOpM, rOpM1, rLst, rTup, rSl, rSlN, rPart, rNoPart, rNilA, rConsA, rNilB, rConsB, rT, rAndT, rOrT, rNotT, rIf, rAndV, rOrV, rNotV, rChain, rYes, rDNew, rDGet, rPopI, rLrg, iX, iE, iZ, gN, gT, gConsR, gNilR, bd_some, ob_some, BV.get, slotD, getAll, isB, isL1, isL2, notFd_un, notFd_fz, notFd_ow, noOwn_un, noOwn_fz, noOwn_nil, wipeD, backD, itemsOf, fSub, fNeg, fInt, fAbs, fList, fLen_list, fLen_tuple, fAdd_int, fCmp, keyOf, oneCh, List.getElem?_cons_zero, List.getElem?_cons_succ, List.set_cons_zero, List.set_cons_succ, List.length_cons, List.length_nil, List.map_cons, List.map_nil, List.append_nil, List.nil_append, if_true, if_false, reduceIte, Bool.not_true, Bool.not_false, and_self, and_true, true_and, reduceCtorEq, rFI, rFL, rFN, fdAt, get1, get2, get3, put1, put2, put3, fMul_ok, fMod_pos, fDiv_pos, fEq_int, fNe_int, ltI, leI, gtI, geI, fLen_S, fAdd_S, fAdd_list, fSum_dI, fPow18, rCallF, rCall, rCallB, flatD, Option.map_some, Option.map_none, okT_str, okT_list, okT_dict, size_le, Nat.reduceAdd, Nat.reduceLT, List.length_map, List.length_range, List.length_append, size_lt, J.nf, J.no, jun, jfz, ixN_cast, fIx_N, fIx_T, fIx_t0, fIx_t1, fRev_l, fIn_ch, index_ch, fRev_S, chars_ch, wipeD, backD, List.getElem?_nil, List.all_cons, List.all_nil, Bool.and_true, Bool.and_self, iZG, srcItems, pairsOf_T, counted_T, fSl_lan, fSl_la, fSl_lb, fSl_Tan, fSl_Ta, fSl_Tb, rev_map, drop_map, take_map, fRepL_one, fAdd_map, castA, castA1, cast1A, castM, castD, castX, fSl_Tab, fSl_lab, isi_ii, isi_ib, isi_bi, isi_bb, isi_ss, isi_ll, isi_tt, isi_lt, isi_tl, fCmp_T, fCount_ch, fMul_T, fIx_pre, sAsgO, sRetO, sRetF, isB, fInt, S_list, ltS, leS, gtS, geS, $ts,*])
def isL (t : List Nat) : Bool := (List.range (t.length - 1)).all fun i => decide (t < rot t (i + 1))
theorem isL_iff {t : List Nat} : isL t = true ↔ LR t := by
  unfold isL
  rw [List.all_eq_true]
  constructor
  · intro h k h1 h2
    have := h (k - 1) (List.mem_range.mpr (by omega))
    rw [decide_eq_true_eq, show k - 1 + 1 = k by omega] at this
    exact this
  · intro h i hi
    rw [decide_eq_true_eq]
    exact h (i + 1) (by omega) (by have := List.mem_range.mp hi; omega)
theorem isl_q {rng2 : List D → Option (List D)} (hR2 : Rng12 rng2) {t : List Nat} (h8 : t.length ≤ 1000) : Ok (q_is_least rng2 [.fz (.str (S t)), .un]) fun o => ∃ d, o = .rt (.bool (isL t)) d := by
  unfold q_is_least
  have hl : t.length ≤ 16777216 := by omega
  have fa : fAll [.list (((List.range (t.length - 1)).map fun i => decide (t < rot t (i + 1))).map PyData.bool)] = some (.bool (isL t)) := by
    show ob (boolsOf _) _ = _
    rw [boolsOf_map]
    show some (PyData.bool _) = _
    rw [List.all_map]
    rfl
  exact ok_ert (by simp! []; rw [lcP_map (ys := List.range (t.length - 1)) (enc := fun (i : Nat) => PyData.int (((i + 1 : Nat) : Nat) : Int)) PyData.bool (fun i => decide (t < rot t (i + 1))) (hR2 (n := t.length) (by simp! []; try rfl) (by omega)) (by rfl) (by exact Nat.lt_of_sub_eq_succ rfl) (fun i hi => (have s1 := fSl_Ta hl (i + 1); have s2 := fSl_Tb hl (i + 1); have a1 := fAdd_S (t.drop (i + 1)) (t.take (i + 1)) (by rw [List.length_drop, List.length_take]; omega); (by simp! [s1, s2, a1]; try rfl))) (by rw [List.length_range]; omega)]; try (simp! [fa]); try rfl) ⟨_, rfl⟩
theorem isl_eq {t : List Nat} (h8 : t.length ≤ 1000) : m_is_least [.str (S t)] = some (.bool (isL t)) := mOf_rt rfl (isl_q rng12_fine h8)
theorem turned_eq {t : List Nat} (h8 : t.length ≤ 1000) (k : Nat) : m__law_turned [.str (S t), .int (k : Int)] = some (.str (S (rot t k))) := by
  refine mOf_rt rfl ?_
  show Ok (r__law_turned [.fz (.str (S t)), .fz (.int (k : Nat))]) _
  unfold r__law_turned
  have hl : t.length ≤ 16777216 := by omega
  have s1 := fSl_Ta hl k
  have s2 := fSl_Tb hl k
  have a1 := fAdd_S (t.drop k) (t.take k) (by rw [List.length_drop, List.length_take]; omega)
  exact ok_ert (by simp! [s1, s2, a1]; try rfl) ⟨_, rfl⟩
theorem lla_q {rng2 : List D → Option (List D)} (hR2 : Rng12 rng2) {mt : List D → Option D} {t : List Nat} (et : ∀ k : Nat, mt [.str (S t), .int (k : Int)] = some (.str (S (rot t k)))) (h8 : t.length ≤ 1000) : Ok (q__law_least rng2 mt [.fz (.str (S t)), .un]) fun o => ∃ d, o = .rt (.bool (isL t)) d := by
  unfold q__law_least
  have hl : t.length ≤ 16777216 := by omega
  have c : decide (((((List.range (t.length - 1)).filter fun i => !decide (t < rot t (i + 1))).length : Nat) : Int) = 0) = isL t := by
    rw [Bool.eq_iff_iff, decide_eq_true_eq]
    unfold isL
    rw [List.all_eq_true]
    constructor
    · intro h i hi
      have h : ((List.range (t.length - 1)).filter fun i => !decide (t < rot t (i + 1))).length = 0 := by omega
      have := List.eq_nil_of_length_eq_zero h
      have h2 := List.filter_eq_nil_iff.mp this i hi
      simpa using h2
    · intro h
      have : ((List.range (t.length - 1)).filter fun i => !decide (t < rot t (i + 1))) = [] := List.filter_eq_nil_iff.mpr fun i hi => by
        have := h i hi
        simpa using this
      rw [this]
      rfl
  exact ok_ert (by simp! []; rw [lcP_sub (ys := List.range (t.length - 1)) (enc := fun (i : Nat) => PyData.int (((i + 1 : Nat) : Nat) : Int)) (fun i => !decide (t < rot t (i + 1))) (hR2 (n := t.length) (by simp! []; try rfl) (by omega)) (by rfl) (by exact Nat.lt_of_sub_eq_succ rfl) (fun i hi => (have e := et (i + 1); (by simp! [e]; try rfl))) (by rw [List.length_range]; omega)]; try (simp! [c]); try rfl) ⟨_, rfl⟩
theorem lla_eq {t : List Nat} (h8 : t.length ≤ 1000) : m__law_least [.str (S t)] = some (.bool (isL t)) := mOf_rt rfl (lla_q rng12_fine (fun k => turned_eq h8 k) h8)
/-! ### what the law asks of a list of parts -/
def fitsB (P : List (List Nat)) : Bool := decide ((P.filter fun p => !isL p).length = 0) && decide (((List.range (P.length - 1)).filter fun k => decide (P.getD k [] < P.getD (k + 1) [])).length = 0)
theorem fits_iff {P : List (List Nat)} : fitsB P = true ↔ (∀ p ∈ P, LR p) ∧ Fall P := by
  unfold fitsB
  rw [Bool.and_eq_true, decide_eq_true_eq, decide_eq_true_eq, ← fall_idx]
  constructor
  · rintro ⟨h1, h2⟩
    refine ⟨fun p hp => ?_, fun k hk z => ?_⟩
    · have := List.filter_eq_nil_iff.mp (List.eq_nil_of_length_eq_zero h1) p hp
      rw [← isL_iff]
      simpa using this
    · have := List.filter_eq_nil_iff.mp (List.eq_nil_of_length_eq_zero h2) k (List.mem_range.mpr (by omega))
      rw [decide_eq_true_eq] at this
      exact this z
  · rintro ⟨h1, h2⟩
    refine ⟨?_, ?_⟩
    · rw [List.filter_eq_nil_iff.mpr fun p hp => ?_]
      · rfl
      · have := isL_iff.mpr (h1 p hp)
        rw [this]
        decide
    · rw [List.filter_eq_nil_iff.mpr fun k hk => ?_]
      · rfl
      · rw [decide_eq_true_eq]
        exact h2 k (by have := List.mem_range.mp hk; omega)
theorem fIx_LT {P : List (List Nat)} {k : Nat} (h : k < P.length) : fIx (.list (P.map eT)) (.int (k : Int)) = some (eT (P.getD k [])) := by
  rw [fIx_L h, List.getD_eq_getElem?_getD, List.getElem?_eq_getElem h]
  rfl
theorem lfits_q {rng2 : List D → Option (List D)} (hR2 : Rng12 rng2) {ml : List D → Option D} {P : List (List Nat)} (el : ∀ p ∈ P, ml [.str (S p)] = some (.bool (isL p))) (h8 : P.length ≤ 1000) : Ok (q__law_fits rng2 ml [.fz (.list (P.map eT)), .un, .un]) fun o => ∃ d, o = .rt (.bool (fitsB P)) d := by
  unfold q__law_fits
  have z1 : ∀ n : Nat, decide (((n : Nat) : Int) = 0) = decide (n = 0) := fun n => by rw [decide_eq_decide]; omega
  have c1 : rLc (iX (rVar 0)) (gN 1) (rNotT (rT (rB (rCallB ml (rConsB (rVarB 1) rNilB))))) (rVar 1) [1] [.fz (.list (P.map eT)), .un, .un] = some (.list ((P.filter fun p => !isL p).map eT), [.fz (.list (P.map eT)), .un, .un]) :=
    lcP_sub (ys := P) (enc := eT) (fun p => !isL p) (by simp! []; try rfl) rfl (Nat.lt_of_sub_eq_succ rfl) (fun p hp => (have e := el p hp; (by simp! [e]; try rfl))) (by omega)
  have c2 : rLc (iR rng2 (rConsA (rC (.int 1)) (rConsA (rOpA fLen (rConsB (rVarB 0) rNilB)) rNilA))) (gN 2) (rT (rB (rOp2 (fCmp ltI ltS) (rB (rOp2 fIx (rVarB 0) (rB (rOp2 fSub (rVarB 2) (rB (rC (.int 1))))))) (rB (rOp2 fIx (rVarB 0) (rVarB 2)))))) (rVar 2) [2] [.fz (.list (P.map eT)), .un, .un] = some (.list (((List.range (P.length - 1)).filter fun k => decide (P.getD k [] < P.getD (k + 1) [])).map fun (i : Nat) => PyData.int (((i + 1 : Nat) : Nat) : Int)), [.fz (.list (P.map eT)), .un, .un]) :=
    lcP_sub (ys := List.range (P.length - 1)) (enc := fun (i : Nat) => PyData.int (((i + 1 : Nat) : Nat) : Int)) (fun k => decide (P.getD k [] < P.getD (k + 1) [])) (hR2 (n := P.length) (by simp! []; try rfl) (by omega)) rfl (Nat.lt_of_sub_eq_succ rfl) (fun k hk => (by
      have hk := List.mem_range.mp hk
      have x1 := fIx_LT (P := P) (k := k) (by omega)
      have x2 := fIx_LT (P := P) (k := k + 1) (by omega)
      have e : (((k + 1 : Nat) : Nat) : Int) - 1 = (k : Int) := by omega
      generalize P.getD k [] = u at *
      generalize P.getD (k + 1) [] = v at *
      simp! [e, x1, x2]; try rfl)) (by rw [List.length_range]; omega)
  unfold fitsB
  generalize (P.filter fun p => !isL p) = A at *
  generalize (List.range (P.length - 1)).filter (fun k => decide (P.getD k [] < P.getD (k + 1) [])) = B at *
  by_cases y : A.length = 0
  · have t : decide (((A.length : Nat) : Int) = 0) = true := by rw [z1]; exact decide_eq_true y
    refine ok_ert (by simp! [c1, t, c2, z1]; try rfl) ?_
    rw [decide_eq_true y, Bool.true_and]
    exact ⟨_, rfl⟩
  · have t : decide (((A.length : Nat) : Int) = 0) = false := by rw [z1]; exact decide_eq_false y
    refine ok_ert (by simp! [c1, t]; try rfl) ?_
    rw [decide_eq_false y, Bool.false_and]
    exact ⟨_, rfl⟩
theorem lfits_eq {P : List (List Nat)} (h8 : P.length ≤ 1000) (h9 : ∀ p ∈ P, p.length ≤ 1000) : m__law_fits [.list (P.map eT)] = some (.bool (fitsB P)) := mOf_rt rfl (lfits_q rng12_fine (fun p hp => lla_eq (h9 p hp)) h8)
end Wk81
end
section
--DZ
--DZC
set_option maxRecDepth 100000
set_option maxHeartbeats 8000000
namespace Wk81
open PySem L2 DK
local macro_rules | `(tactic| simp! [$ts,*]) => `(tactic| simp -implicitDefEqProofs (disch := first | assumption | omega) only [sAsg, sAsgN, sRet, sDrop, sNext, sApp, sExt, sAug, sSetL, sDPutR, sFS, sFA, sPar, rVar, rVarB, rC, rB, rOp2, rOp2N, rOp1, rOpA, rOpAN, rOpM, rOpM1, rLst, rTup, rSl, rSlN, rPart, rNoPart, rNilA, rConsA, rNilB, rConsB, rT, rAndT, rOrT, rNotT, rIf, rAndV, rOrV, rNotV, rChain, rYes, rDNew, rDGet, rPopI, rLrg, iX, iE, iZ, gN, gT, gConsR, gNilR, bd_some, ob_some, BV.get, slotD, getAll, isB, isL1, isL2, notFd_un, notFd_fz, notFd_ow, noOwn_un, noOwn_fz, noOwn_nil, wipeD, backD, itemsOf, fSub, fNeg, fInt, fAbs, fList, fLen_list, fLen_tuple, fAdd_int, fCmp, keyOf, oneCh, List.getElem?_cons_zero, List.getElem?_cons_succ, List.set_cons_zero, List.set_cons_succ, List.length_cons, List.length_nil, List.map_cons, List.map_nil, List.append_nil, List.nil_append, if_true, if_false, reduceIte, Bool.not_true, Bool.not_false, and_self, and_true, true_and, reduceCtorEq, rFI, rFL, rFN, fdAt, get1, get2, get3, put1, put2, put3, fMul_ok, fMod_pos, fDiv_pos, fEq_int, fNe_int, ltI, leI, gtI, geI, fLen_S, fAdd_S, fAdd_list, fSum_dI, fPow18, rCallF, rCall, rCallB, flatD, Option.map_some, Option.map_none, okT_str, okT_list, okT_dict, size_le, Nat.reduceAdd, Nat.reduceLT, List.length_map, List.length_range, List.length_append, size_lt, J.nf, J.no, jun, jfz, ixN_cast, fIx_N, fIx_T, fIx_t0, fIx_t1, fRev_l, fIn_ch, index_ch, fRev_S, chars_ch, wipeD, backD, List.getElem?_nil, List.all_cons, List.all_nil, Bool.and_true, Bool.and_self, iZG, srcItems, pairsOf_T, counted_T, fSl_lan, fSl_la, fSl_lb, fSl_Tan, fSl_Ta, fSl_Tb, rev_map, drop_map, take_map, fRepL_one, fAdd_map, castA, castA1, cast1A, castM, castD, castX, fSl_Tab, fSl_lab, isi_ii, isi_ib, isi_bi, isi_bb, isi_ss, isi_ll, isi_tt, isi_lt, isi_tl, fCmp_T, fCount_ch, fMul_T, fIx_pre, sAsgO, sRetO, sRetF, isB, fInt, S_list, ltS, leS, gtS, geS, $ts,*])
def nOf : Option Slot → Nat
  | some (.fz (.int b)) => b.toNat
  | _ => 0
theorem ltch (a b : Nat) : (([a] : List Nat) < [b]) = (a < b) := by
  rw [List.cons_lt_cons_iff]
  simp
/-- what is told so far: least texts that fall, and nothing that is to come rises -/
structure Sofar (t : List Nat) (P : List (List Nat)) (b : Nat) : Prop where
  bn : b ≤ t.length
  jo : P.flatten = t.take b
  ly : ∀ p ∈ P, p ≠ [] ∧ LS p
  fa : Fall P
  nx : ∀ x, P.getLast? = some x → ∀ v, v ≠ [] → v <+: t.drop b → ¬ x < v
theorem sofar_len {t : List Nat} {P : List (List Nat)} {b : Nat} (h : Sofar t P b) : P.length ≤ b := by
  have hb := h.bn
  have e := congrArg List.length h.jo
  rw [List.length_take, Nat.min_eq_left hb] at e
  have : ∀ {Q : List (List Nat)}, (∀ p ∈ Q, p ≠ []) → Q.length ≤ Q.flatten.length := by
    intro Q
    induction Q with
    | nil => intro _; exact Nat.le_refl _
    | cons q Q ih =>
      intro hq
      have := ih fun p hp => hq p (List.mem_cons_of_mem _ hp)
      have := List.length_pos_iff.mpr (hq q List.mem_cons_self)
      rw [List.flatten_cons, List.length_append, List.length_cons]
      omega
  have := this fun p hp => (h.ly p hp).1
  omega
theorem falling_ok {t : List Nat} (h8 : t.length ≤ 1000) (lt : Lt t) : ∃ P : List (List Nat), m_parts_falling [.str (S t)] = some (.list (P.map eT)) ∧ Sofar t P t.length := by
  have hl : t.length ≤ 16777216 := by omega
  suffices hq : Ok (r_parts_falling [.fz (.str (S t)), .un, .un, .un, .un, .un]) fun o => ∃ P d, o = .rt (.list (P.map eT)) d ∧ Sofar t P t.length by
    obtain ⟨o, e, P, d, rfl, h⟩ := hq
    exact ⟨P, mOf_rt rfl ⟨_, e, d, rfl⟩, h⟩
  unfold r_parts_falling
  refine ok_nx (by simp! []; try rfl) ?_
  refine ok_nx (by simp! []; try rfl) ?_
  refine ok_seq (ok_while (fun d => ∃ (P : List (List Nat)) (b : Nat) (j3 j4 j5 : J), Sofar t P b ∧ d = [.fz (.str (S t)), .ow (.list (P.map eT)), .fz (.int (b : Nat)), j3.s, j4.s, j5.s]) (fun d : List Slot => t.length - nOf d[2]?) ⟨[], 0, .un, .un, .un, ⟨Nat.zero_le _, rfl, fun p h => (by cases h), trivial, fun x h => (by cases h)⟩, rfl⟩ ?_ ?_)
  · show t.length - _ < 1000000
    omega
  · rintro d ⟨P, b, j3, j4, j5, sf, rfl⟩
    have hb := sf.bn
    refine ⟨decide ((b : Int) < (t.length : Nat)), _, (by simp! []; try rfl), fun z => ?_, fun z => ?_⟩
    · have z : b = t.length := by
        have := of_decide_eq_false z
        omega
      subst z
      exact ok_ert (by simp! []; try rfl) ⟨P, _, rfl, sf⟩
    · have z : b < t.length := by
        have := of_decide_eq_true z
        omega
      refine ok_nx (by simp! []; try rfl) ?_
      refine ok_nx (by simp! []; try rfl) ?_
      refine ok_cut (fun d => ∃ o h : Nat, Dv t b o h ∧ (h = t.length ∨ t.getD h 0 < t.getD o 0) ∧ d = [.fz (.str (S t)), .ow (.list (P.map eT)), .fz (.int (b : Nat)), .fz (.int (o : Nat)), .fz (.int (h : Nat)), j5.s]) ?_ ?_
      · refine ok_while (fun d => ∃ o h : Nat, Dv t b o h ∧ d = [.fz (.str (S t)), .ow (.list (P.map eT)), .fz (.int (b : Nat)), .fz (.int (o : Nat)), .fz (.int (h : Nat)), j5.s]) (fun d : List Slot => t.length - nOf d[4]?) ⟨b, b + 1, dv0 z, rfl⟩ ?_ ?_
        · show t.length - _ < 1000000
          omega
        · rintro d ⟨o, h, dv, rfl⟩
          have d1 := dv.bo
          have d2 := dv.oh
          have d3 := dv.hn
          by_cases hh : h < t.length
          · have t1 : decide ((h : Int) < (t.length : Nat)) = true := decide_eq_true (by omega)
            have x1 := fIx_T (show o < t.length by omega) hl
            have x2 := fIx_T hh hl
            have de := dv_eq dv hh
            have dl := dv_lt dv hh
            generalize hp : t.getD o 0 = p at *
            generalize hq : t.getD h 0 = q at *
            refine ⟨!decide (q < p), _, (by simp! [t1, x1, x2, ltch]; try rfl), fun y => ?_, fun y => ?_⟩
            · have y : q < p := by simpa using y
              exact ⟨_, rfl, o, h, dv, .inr (by rw [hp, hq]; exact y), rfl⟩
            · have y : ¬ q < p := by simpa using y
              by_cases w : p < q
              · have t2 : decide (p < q) = true := decide_eq_true w
                refine ok_seq (ok_if (k := true) (by simp! [x1, x2, ltch, t2]; try rfl) (fun _ => ?_) (fun z => by cases z))
                refine ok_enx (by simp! []; try rfl) ?_
                refine ok_enx (by simp! []; try rfl) ⟨⟨b, h + 1, dl w, rfl⟩, ?_⟩
                show t.length - ((h + 1 : Nat) : Int).toNat < t.length - ((h : Nat) : Int).toNat
                omega
              · have t2 : decide (p < q) = false := decide_eq_false w
                refine ok_seq (ok_if (k := false) (by simp! [x1, x2, ltch, t2]; try rfl) (fun z => by cases z) (fun _ => ?_))
                refine ok_enx (by simp! []; try rfl) ?_
                refine ok_enx (by simp! []; try rfl) ⟨⟨o + 1, h + 1, de (by omega), rfl⟩, ?_⟩
                show t.length - ((h + 1 : Nat) : Int).toNat < t.length - ((h : Nat) : Int).toNat
                omega
          · have t1 : decide ((h : Int) < (t.length : Nat)) = false := decide_eq_false (by omega)
            exact ⟨false, _, (by simp! [t1]; try rfl), fun _ => ⟨_, rfl, o, h, dv, .inl (by omega), rfl⟩, fun z => by cases z⟩
      rintro d ⟨o, h, dv, he, rfl⟩
      have d1 := dv.bo
      have d2 := dv.oh
      have d3 := dv.hn
      have sub : (h : Int) - (o : Int) = ((h - o : Nat) : Int) := by omega
      refine ok_nx (by simp! [sub]; try rfl) ?_
      have ul : ((t.drop b).take (h - o)).length = h - o := seg_len (by omega)
      refine ok_while (fun d => ∃ i : Nat, b + i * (h - o) ≤ h ∧ d = [.fz (.str (S t)), .ow (.list ((P ++ List.replicate i ((t.drop b).take (h - o))).map eT)), .fz (.int (b + i * (h - o) : Nat)), .fz (.int (o : Nat)), .fz (.int (h : Nat)), .fz (.int (h - o : Nat))]) (fun d : List Slot => h + 1 - nOf d[2]?) ⟨0, by omega, by rw [Nat.zero_mul, Nat.add_zero, List.replicate_zero, List.append_nil]⟩ ?_ ?_
      · show h + 1 - _ < 1000000
        omega
      · rintro d ⟨i, hi, rfl⟩
        by_cases y : b + i * (h - o) ≤ o
        · have t1 : decide (((b + i * (h - o) : Nat) : Int) ≤ (o : Int)) = true := decide_eq_true (by omega)
          refine ⟨true, _, (by simp! [t1]; try rfl), fun z => (by cases z), fun _ => ?_⟩
          have sl := dv_slice dv y
          have s1 := fSl_Tab hl (b + i * (h - o)) (b + i * (h - o) + (h - o))
          rw [Nat.add_sub_cancel_left, sl] at s1
          have pl := sofar_len sf
          have rl : i ≤ i * (h - o) := Nat.le_mul_of_pos_right _ (by omega)
          have zl : (P ++ List.replicate i ((t.drop b).take (h - o))).length < 16777216 := by
            rw [List.length_append, List.length_replicate]
            omega
          have zl2 : ((P ++ List.replicate i ((t.drop b).take (h - o))).map eT).length < 16777216 := by rw [List.length_map]; exact zl
          have ea : (P ++ List.replicate i ((t.drop b).take (h - o))).map eT ++ [.str (S ((t.drop b).take (h - o)))] = (P ++ List.replicate (i + 1) ((t.drop b).take (h - o))).map eT := by
            rw [List.replicate_succ', ← List.append_assoc]
            exact (List.map_append (f := eT) (l₁ := P ++ List.replicate i ((t.drop b).take (h - o))) (l₂ := [(t.drop b).take (h - o)])).symm
          generalize (t.drop b).take (h - o) = u at *
          generalize (P ++ List.replicate i u).map eT = W at *
          refine ok_nx (by simp! [s1]; try rfl) ?_
          refine ok_enx (by simp! [ea]; try rfl) ⟨⟨i + 1, by rw [Nat.add_mul]; omega, by rw [Nat.add_mul, Nat.one_mul, Nat.add_assoc]⟩, ?_⟩
          show h + 1 - ((b + i * (h - o) + (h - o) : Nat) : Int).toNat < h + 1 - ((b + i * (h - o) : Nat) : Int).toNat
          omega
        · have t1 : decide (((b + i * (h - o) : Nat) : Int) ≤ (o : Int)) = false := decide_eq_false (by omega)
          refine ⟨false, _, (by simp! [t1]; try rfl), fun _ => ⟨⟨P ++ List.replicate i ((t.drop b).take (h - o)), b + i * (h - o), .fz _, .fz _, .fz _, ?_, rfl⟩, ?_⟩, fun z => by cases z⟩
          · have u0 : (t.drop b).take (h - o) ≠ [] := by
              intro e
              rw [e] at ul
              have : (0 : Nat) = h - o := ul
              omega
            have end_ := fun {v : List Nat} (hv : v ≠ []) (hp : v <+: t.drop (b + i * (h - o))) => dv_end dv he (i := i) (by omega) hi hv hp
            have upre : (t.drop b).take (h - o) <+: t.drop b := List.take_prefix ..
            refine ⟨by omega, ?_, ?_, ?_, ?_⟩
            · rw [List.flatten_append, sf.jo]
              have key : ∀ k, b + k * (h - o) ≤ h → (List.replicate k ((t.drop b).take (h - o))).flatten = (t.drop b).take (k * (h - o)) := by
                intro k
                induction k with
                | zero => intro _; rw [Nat.zero_mul]; rfl
                | succ k ih =>
                  intro hk
                  rw [Nat.add_mul, Nat.one_mul] at hk ⊢
                  rw [List.replicate_succ', List.flatten_append, ih (by omega), List.flatten_cons, List.flatten_nil, List.append_nil, ← dv_slice dv (i := k) (by omega), ← List.drop_drop, List.take_add]
              rw [key i hi, List.take_add]
            · intro p hp
              rcases List.mem_append.mp hp with hp | hp
              · exact sf.ly p hp
              · rw [List.eq_of_mem_replicate hp]
                exact ⟨u0, dv.ls⟩
            · have key : ∀ k, Fall (P ++ List.replicate k ((t.drop b).take (h - o))) ∧ ∀ x, (P ++ List.replicate k ((t.drop b).take (h - o))).getLast? = some x → ¬ x < (t.drop b).take (h - o) := by
                intro k
                induction k with
                | zero =>
                  rw [List.replicate_zero, List.append_nil]
                  exact ⟨sf.fa, fun x hx => sf.nx x hx _ u0 upre⟩
                | succ k ih =>
                  rw [List.replicate_succ', ← List.append_assoc]
                  refine ⟨fall_snoc ih.1 ih.2, fun x hx => ?_⟩
                  rw [List.getLast?_append, List.getLast?_singleton] at hx
                  cases hx
                  exact List.lt_irrefl _
              exact (key i).1
            · intro x hx v hv hp
              have i0 : i ≠ 0 := fun e => by subst e; omega
              obtain ⟨k, rfl⟩ : ∃ k, i = k + 1 := ⟨i - 1, by omega⟩
              rw [List.replicate_succ', ← List.append_assoc, List.getLast?_append, List.getLast?_singleton] at hx
              cases hx
              exact end_ hv hp
          · show t.length - ((b + i * (h - o) : Nat) : Int).toNat < t.length - ((b : Nat) : Int).toNat
            have i0 : i ≠ 0 := fun e => by subst e; omega
            have rl : i ≤ i * (h - o) := Nat.le_mul_of_pos_right _ (by omega)
            omega
end Wk81
end
section
--DZ
--DZC
set_option maxRecDepth 100000
set_option maxHeartbeats 8000000
namespace Wk81
open PySem L2 DK
local macro_rules | `(tactic| simp! [$ts,*]) => `(tactic| simp -implicitDefEqProofs (disch := first | assumption | omega) only [sAsg, sAsgN, sRet, sDrop, sNext, sApp, sExt, sAug, sSetL, sDPutR, sFS, sFA, sPar, rVar, rVarB, rC, rB, rOp2, rOp2N, rOp1, rOpA, rOpAN, rOpM, rOpM1, rLst, rTup, rSl, rSlN, rPart, rNoPart, rNilA, rConsA, rNilB, rConsB, rT, rAndT, rOrT, rNotT, rIf, rAndV, rOrV, rNotV, rChain, rYes, rDNew, rDGet, rPopI, rLrg, iX, iE, iZ, gN, gT, gConsR, gNilR, bd_some, ob_some, BV.get, slotD, getAll, isB, isL1, isL2, notFd_un, notFd_fz, notFd_ow, noOwn_un, noOwn_fz, noOwn_nil, wipeD, backD, itemsOf, fSub, fNeg, fInt, fAbs, fList, fLen_list, fLen_tuple, fAdd_int, fCmp, keyOf, oneCh, List.getElem?_cons_zero, List.getElem?_cons_succ, List.set_cons_zero, List.set_cons_succ, List.length_cons, List.length_nil, List.map_cons, List.map_nil, List.append_nil, List.nil_append, if_true, if_false, reduceIte, Bool.not_true, Bool.not_false, and_self, and_true, true_and, reduceCtorEq, rFI, rFL, rFN, fdAt, get1, get2, get3, put1, put2, put3, fMul_ok, fMod_pos, fDiv_pos, fEq_int, fNe_int, ltI, leI, gtI, geI, fLen_S, fAdd_S, fAdd_list, fSum_dI, fPow18, rCallF, rCall, rCallB, flatD, Option.map_some, Option.map_none, okT_str, okT_list, okT_dict, size_le, Nat.reduceAdd, Nat.reduceLT, List.length_map, List.length_range, List.length_append, size_lt, J.nf, J.no, jun, jfz, ixN_cast, fIx_N, fIx_T, fIx_t0, fIx_t1, fRev_l, fIn_ch, index_ch, fRev_S, chars_ch, wipeD, backD, List.getElem?_nil, List.all_cons, List.all_nil, Bool.and_true, Bool.and_self, iZG, srcItems, pairsOf_T, counted_T, fSl_lan, fSl_la, fSl_lb, fSl_Tan, fSl_Ta, fSl_Tb, rev_map, drop_map, take_map, fRepL_one, fAdd_map, castA, castA1, cast1A, castM, castD, castX, fSl_Tab, fSl_lab, isi_ii, isi_ib, isi_bi, isi_bb, isi_ss, isi_ll, isi_tt, isi_lt, isi_tl, fCmp_T, fCount_ch, fMul_T, fIx_pre, sAsgO, sRetO, sRetF, isB, fInt, S_list, ltS, leS, gtS, geS, $ts,*])
abbrev PL := List (List Nat)
def used (p : PL) : Nat := (p.map List.length).sum
theorem used_fl (p : PL) : used p = p.flatten.length := by unfold used; rw [List.length_flatten]
def exts (t : List Nat) (p : PL) : List PL := (List.range (t.length + 1 - (used p + 1))).map fun i => p ++ [(t.drop (used p)).take (1 + i)]
def lv (t : List Nat) : Nat → List PL
  | 0 => exts t []
  | s + 1 => (lv t s).flatMap (exts t)
def Good (t : List Nat) (s : Nat) (p : PL) : Prop := p.length = s ∧ p.flatten <+: t ∧ ∀ x ∈ p, x ≠ []
theorem used_snoc (p : PL) (x : List Nat) : used (p ++ [x]) = used p + x.length := by
  unfold used
  rw [List.map_append, List.sum_append]
  rfl
theorem exts_good {t : List Nat} {s : Nat} {p q : PL} (g : Good t s p) (h : q ∈ exts t p) : Good t (s + 1) q := by
  obtain ⟨i, hi, rfl⟩ := List.mem_map.mp h
  have hi := List.mem_range.mp hi
  obtain ⟨g1, ⟨w, hw⟩, g3⟩ := g
  have e : t.drop (used p) = w := by rw [used_fl, ← hw, List.drop_left]
  refine ⟨by rw [List.length_append, g1]; rfl, ?_, fun x hx => ?_⟩
  · rw [e, List.flatten_append, List.flatten_cons, List.flatten_nil, List.append_nil, ← hw]
    exact (List.prefix_append_right_inj _).mpr (List.take_prefix ..)
  · rcases List.mem_append.mp hx with hx | hx
    · exact g3 x hx
    · rw [List.mem_singleton.mp hx]
      intro z
      have := congrArg List.length z
      rw [List.length_take, List.length_drop, List.length_nil] at this
      omega
theorem exts_mem {t : List Nat} {p : PL} {x : List Nat} (h : (p ++ [x]).flatten <+: t) (hx : x ≠ []) : p ++ [x] ∈ exts t p := by
  obtain ⟨w, hw⟩ := h
  rw [List.flatten_append, List.flatten_cons, List.flatten_nil, List.append_nil] at hw
  have hl := congrArg List.length hw
  rw [List.length_append, List.length_append, ← used_fl] at hl
  have hx0 := List.length_pos_iff.mpr hx
  refine List.mem_map.mpr ⟨x.length - 1, List.mem_range.mpr (by omega), ?_⟩
  rw [used_fl, ← hw, List.append_assoc, List.drop_left, show 1 + (x.length - 1) = x.length by omega, List.take_left]
theorem good_nil (t : List Nat) : Good t 0 [] := ⟨rfl, List.nil_prefix, fun x h => by cases h⟩
theorem lv_good {t : List Nat} : ∀ s, ∀ p ∈ lv t s, Good t (s + 1) p
  | 0, p, h => exts_good (good_nil t) h
  | s + 1, p, h => by
    obtain ⟨q, hq, hp⟩ := List.mem_flatMap.mp h
    exact exts_good (lv_good s q hq) hp
theorem lv_in {t : List Nat} : ∀ s, ∀ p, Good t (s + 1) p → p ∈ lv t s := by
  intro s
  induction s with
  | zero =>
    rintro p ⟨g1, g2, g3⟩
    match p, g1 with
    | [x], _ => exact exts_mem (p := []) g2 (g3 x List.mem_cons_self)
  | succ s ih =>
    rintro p ⟨g1, g2, g3⟩
    have hp : p ≠ [] := fun z => by rw [z] at g1; cases g1
    have e := (List.dropLast_concat_getLast hp).symm
    generalize p.dropLast = q at e
    generalize p.getLast hp = x at e
    subst e
    rw [List.length_append] at g1
    refine List.mem_flatMap.mpr ⟨q, ih q ⟨by have : q.length + 1 = s + 1 + 1 := g1; omega, ?_, fun y hy => g3 y (List.mem_append_left _ hy)⟩, exts_mem g2 (g3 x (List.mem_append_right _ List.mem_cons_self))⟩
    rw [List.flatten_append] at g2
    exact (List.prefix_append ..).trans g2
theorem exts_nd (t : List Nat) (p : PL) : (exts t p).Nodup := by
  unfold exts
  refine List.pairwise_map.mpr (List.Pairwise.imp_of_mem ?_ List.nodup_range)
  intro i j hi hj hij e
  have hi := List.mem_range.mp hi
  have hj := List.mem_range.mp hj
  have := congrArg List.length (List.append_cancel_left e)
  have e2 := List.append_cancel_left e
  have e3 := (List.cons.inj e2).1
  have e4 := congrArg List.length e3
  rw [List.length_take, List.length_take, List.length_drop] at e4
  omega
theorem lv_nd (t : List Nat) : ∀ s, (lv t s).Nodup
  | 0 => exts_nd t []
  | s + 1 => by
    refine List.pairwise_flatMap.mpr ⟨fun p _ => exts_nd t p, List.Pairwise.imp_of_mem ?_ (lv_nd t s)⟩
    intro p q _ _ hpq x hx y hy e
    subst e
    obtain ⟨i, _, rfl⟩ := List.mem_map.mp hx
    obtain ⟨j, _, e⟩ := List.mem_map.mp hy
    exact hpq (List.append_inj_left' e rfl).symm
def wt (t : List Nat) (p : PL) : Nat := 2 ^ (t.length - used p)
theorem geo (t : List Nat) (p : PL) (hp : used p ≤ t.length) : ∀ m, m ≤ t.length - used p → ((List.range m).map fun i => wt t (p ++ [(t.drop (used p)).take (1 + i)])).sum + 2 ^ (t.length - used p - m) = wt t p
  | 0, _ => by show 0 + _ = _; rw [Nat.zero_add]; rfl
  | m + 1, h => by
    have ih := geo t p hp m (by omega)
    rw [List.range_succ, List.map_append, List.sum_append]
    have e : wt t (p ++ [(t.drop (used p)).take (1 + m)]) = 2 ^ (t.length - used p - (m + 1)) := by
      unfold wt
      rw [used_snoc, List.length_take, List.length_drop, Nat.min_eq_left (by omega)]
      congr 1
      omega
    have e2 : 2 ^ (t.length - used p - m) = 2 ^ (t.length - used p - (m + 1)) + 2 ^ (t.length - used p - (m + 1)) := by
      rw [show t.length - used p - m = (t.length - used p - (m + 1)) + 1 by omega, Nat.pow_succ]
      omega
    show _ + (wt t (p ++ [(t.drop (used p)).take (1 + m)]) + 0) + _ = _
    omega
theorem exts_wt {t : List Nat} {p : PL} (hp : used p ≤ t.length) : ((exts t p).map (wt t)).sum ≤ wt t p := by
  have := geo t p hp (t.length - used p) (Nat.le_refl _)
  unfold exts
  rw [List.map_map, show t.length + 1 - (used p + 1) = t.length - used p by omega]
  have e : (wt t ∘ fun i => p ++ [(t.drop (used p)).take (1 + i)]) = fun i => wt t (p ++ [(t.drop (used p)).take (1 + i)]) := rfl
  rw [e]
  exact Nat.le_trans (Nat.le_add_right _ _) (Nat.le_of_eq this)
theorem flat_wt {t : List Nat} : ∀ l : List PL, (∀ p ∈ l, used p ≤ t.length) → ((l.flatMap (exts t)).map (wt t)).sum ≤ (l.map (wt t)).sum
  | [], _ => Nat.le_refl _
  | p :: l, h => by
    rw [List.flatMap_cons, List.map_append, List.sum_append, List.map_cons, List.sum_cons]
    have h1 := exts_wt (h p List.mem_cons_self)
    have h2 := flat_wt l fun q hq => h q (List.mem_cons_of_mem _ hq)
    omega
theorem good_used {t : List Nat} {s : Nat} {p : PL} (g : Good t s p) : used p ≤ t.length := by
  rw [used_fl]
  exact g.2.1.length_le
theorem lv_wt (t : List Nat) : ∀ s, ((lv t s).map (wt t)).sum ≤ 2 ^ t.length
  | 0 => exts_wt (p := []) (Nat.zero_le _)
  | s + 1 => Nat.le_trans (flat_wt _ fun p hp => good_used (lv_good s p hp)) (lv_wt t s)
theorem len_wt {t : List Nat} : ∀ l : List PL, l.length ≤ (l.map (wt t)).sum
  | [] => Nat.le_refl _
  | p :: l => by
    rw [List.length_cons, List.map_cons, List.sum_cons]
    have := len_wt (t := t) l
    have : 1 ≤ wt t p := Nat.one_le_two_pow
    omega
theorem lv_len (t : List Nat) (s : Nat) : (lv t s).length ≤ 2 ^ t.length := Nat.le_trans (len_wt _) (lv_wt t s)
def full (t : List Nat) (p : PL) : Bool := decide (used p = t.length)
def dn (t : List Nat) : Nat → List PL
  | 0 => []
  | s + 1 => dn t s ++ (lv t s).filter (full t)
theorem dn_mem {t : List Nat} {p : PL} : ∀ {s}, p ∈ dn t s ↔ ∃ k, k < s ∧ p ∈ lv t k ∧ full t p = true
  | 0 => ⟨fun h => (by cases h), fun ⟨k, h, _⟩ => (by omega)⟩
  | s + 1 => by
    show p ∈ dn t s ++ (lv t s).filter (full t) ↔ _
    rw [List.mem_append, dn_mem, List.mem_filter]
    constructor
    · rintro (⟨k, h1, h2⟩ | ⟨h1, h2⟩)
      · exact ⟨k, by omega, h2⟩
      · exact ⟨s, by omega, h1, h2⟩
    · rintro ⟨k, h1, h2, h3⟩
      by_cases e : k = s
      · subst e; exact .inr ⟨h2, h3⟩
      · exact .inl ⟨k, by omega, h2, h3⟩
theorem dn_nd (t : List Nat) : ∀ s, (dn t s).Nodup
  | 0 => List.nodup_nil
  | s + 1 => by
    refine List.nodup_append.mpr ⟨dn_nd t s, (lv_nd t s).filter _, fun p hp q hq e => ?_⟩
    subst e
    obtain ⟨k, h1, h2, _⟩ := dn_mem.mp hp
    have a := (lv_good k p h2).1
    have b := (lv_good s p (List.mem_filter.mp hq).1).1
    omega
theorem dn_len (t : List Nat) : ∀ s, (dn t s).length ≤ s * 2 ^ t.length
  | 0 => Nat.zero_le _
  | s + 1 => by
    show (dn t s ++ (lv t s).filter (full t)).length ≤ _
    rw [List.length_append, Nat.add_mul, Nat.one_mul]
    have := dn_len t s
    have := List.length_filter_le (full t) (lv t s)
    have := lv_len t s
    omega
theorem one_only {α : Type} {l : List α} {p : α → Bool} {x : α} (nd : l.Nodup) (hx : x ∈ l) (px : p x = true) (u : ∀ y ∈ l, p y = true → y = x) : l.filter p = [x] := by
  have h1 : x ∈ l.filter p := List.mem_filter.mpr ⟨hx, px⟩
  have h2 : ∀ y ∈ l.filter p, y = x := fun y hy => u y (List.mem_filter.mp hy).1 (List.mem_filter.mp hy).2
  have h3 := nd.filter p
  generalize l.filter p = m at *
  match m, h1 with
  | [a], _ => rw [h2 a List.mem_cons_self]
  | a :: b :: r, _ =>
    have e1 := h2 a List.mem_cons_self
    have e2 := h2 b (List.mem_cons_of_mem _ List.mem_cons_self)
    rw [e1, e2] at h3
    exact absurd List.mem_cons_self (List.nodup_cons.mp h3).1
theorem dn_fits {t : List Nat} (h0 : 0 < t.length) {P : PL} (sf : Sofar t P t.length) : (dn t t.length).filter fitsB = [P] := by
  have hj : P.flatten = t := by rw [sf.jo, List.take_length]
  have hP : 0 < P.length := by
    rcases Nat.eq_zero_or_pos P.length with z | z
    · rw [List.eq_nil_of_length_eq_zero z] at hj
      rw [← hj] at h0
      exact absurd h0 (Nat.lt_irrefl _)
    · exact z
  refine one_only (dn_nd t _) (dn_mem.mpr ⟨P.length - 1, by have := sofar_len sf; omega, lv_in _ P ⟨by omega, by rw [hj]; exact List.prefix_refl _, fun x hx => (sf.ly x hx).1⟩, ?_⟩) (fits_iff.mpr ⟨fun p hp => (sf.ly p hp).2.lr, sf.fa⟩) fun q hq hf => ?_
  · unfold full
    rw [used_fl, hj]
    exact decide_eq_true rfl
  · obtain ⟨k, _, hk, hfull⟩ := dn_mem.mp hq
    obtain ⟨g1, g2, g3⟩ := lv_good k q hk
    obtain ⟨f1, f2⟩ := fits_iff.mp hf
    have hu := of_decide_eq_true hfull
    rw [used_fl] at hu
    have hq2 : q.flatten = t := g2.eq_of_length hu
    exact fall_one (fun x hx => ⟨g3 x hx, (f1 x hx).ls⟩) sf.ly f2 sf.fa (by rw [hq2, hj])
/-! ### the law's own partings -/
def Rng22 (rg : List D → Option (List D)) : Prop := ∀ {e e2 : ER} {d d1 d2 : List Slot} {a b : Nat}, e d = some (.int (a : Int), d1) → e2 d1 = some (.int (b : Int), d2) → a ≤ 1000000 → b ≤ 1000000 → iR rg (rConsA e (rConsA e2 rNilA)) d = some ((List.range (b - a)).map fun (i : Nat) => PyData.int ((a + i : Nat) : Int), d2)
theorem rng22_fine : Rng22 rng2 := fun {e e2 d d1 d2 a b} h h' ha hb => by
  rw [iR2 h h' (by omega) (by omega) (by omega) (by omega), rowI_from]
  have : ((b : Int) - (a : Int)).toNat = b - a := by omega
  rw [this]
abbrev eP (p : PL) : D := .list (p.map eT)
theorem sum_len {p : PL} {d : List Slot} {f : IR} (h8 : p.length ≤ 1000) (h9 : ∀ x ∈ p, x.length ≤ 1000) (hf : f d = some (p.map eT, d)) {i : Nat} (hv : noOwn d[i]? = true) (hi : i < d.length) : rLc f (gN i) rYes (rOpA fLen (rConsB (rVarB i) rNilB)) [i] d = some (.list ((p.map List.length).map (fun (n : Nat) => PyData.int (n : Int))), d) :=
  lcP_map (fun (n : Nat) => PyData.int (n : Int)) List.length hf hv hi (fun x hx => by
    have e : (d.set i (.fz (eT x)))[i]? = some (.fz (eT x)) := List.getElem?_set_self hi
    have hx : x.length ≤ 16777216 := by have := h9 x hx; omega
    generalize d.set i (.fz (eT x)) = d2 at *
    simp! [e]; try rfl) (by omega)
theorem ext_lc {rng2 : List D → Option (List D)} (hR22 : Rng22 rng2) {t : List Nat} {p : PL} (h8 : t.length ≤ 100) (hp : p.length ≤ 1000) {d : List Slot} (h0 : d[0]? = some (.fz (.str (S t)))) (h5 : d[5]? = some (.fz (eP p))) (h6 : d[6]? = some (.fz (.int (used p : Nat)))) (hu : used p ≤ t.length) (hv : noOwn d[7]? = true) (hi : 7 < d.length) :
    rLc (iR rng2 (rConsA (rOp2 fAdd (rVarB 6) (rB (rC (.int 1)))) (rConsA (rOp2 fAdd (rB (rOpA fLen (rConsB (rVarB 0) rNilB))) (rB (rC (.int 1)))) rNilA))) (gN 7) rYes (rOp2 fAdd (rVarB 5) (rB (rLst (rConsA (rSl fSl (rVarB 0) (rPart (rVarB 6)) (rPart (rVarB 7))) rNilA)))) [7] d = some (.list ((exts t p).map eP), d) := by
  have hl : t.length ≤ 16777216 := by omega
  exact lcP_map (ys := List.range (t.length + 1 - (used p + 1))) (enc := fun (i : Nat) => PyData.int ((used p + 1 + i : Nat) : Int)) eP (fun i => p ++ [(t.drop (used p)).take (1 + i)]) (hR22 (d := d) (d1 := d) (d2 := d) (a := used p + 1) (b := t.length + 1) (by simp! [h6]; try rfl) (by simp! [h0]; try rfl) (by omega) (by omega)) hv hi (fun i hi2 => by
    have e : (d.set 7 (.fz (.int ((used p + 1 + i : Nat) : Int))))[7]? = some (.fz (.int ((used p + 1 + i : Nat) : Int))) := List.getElem?_set_self hi
    have e0 : (d.set 7 (.fz (.int ((used p + 1 + i : Nat) : Int))))[0]? = some (.fz (.str (S t))) := (List.getElem?_set_ne (by decide)).trans h0
    have e5 : (d.set 7 (.fz (.int ((used p + 1 + i : Nat) : Int))))[5]? = some (.fz (eP p)) := (List.getElem?_set_ne (by decide)).trans h5
    have e6 : (d.set 7 (.fz (.int ((used p + 1 + i : Nat) : Int))))[6]? = some (.fz (.int (used p : Nat))) := (List.getElem?_set_ne (by decide)).trans h6
    have s1 := fSl_Tab hl (used p) (used p + 1 + i)
    rw [show used p + 1 + i - used p = 1 + i by omega] at s1
    have a1 : fAdd (eP p) (.list [.str (S ((t.drop (used p)).take (1 + i)))]) = some (eP (p ++ [(t.drop (used p)).take (1 + i)])) := fAdd_map eT (a := p) (b := [(t.drop (used p)).take (1 + i)]) (by show _ + 1 ≤ _; omega)
    generalize d.set 7 (.fz (.int ((used p + 1 + i : Nat) : Int))) = d2 at *
    generalize (t.drop (used p)).take (1 + i) = x at *
    simp! [e, e0, e5, e6, s1, a1]; try rfl) (by rw [List.length_range]; omega)
theorem part_q {rng1 rng2 : List D → Option (List D)} (hR : RngOk rng1) (hR22 : Rng22 rng2) {t : List Nat} (h8 : t.length ≤ 8) : Ok (q__law_partings rng1 rng2 [.fz (.str (S t)), .un, .un, .un, .un, .un, .un, .un, .un]) fun o => ∃ d, o = .rt (.list ((dn t t.length).map eP)) d := by
  unfold q__law_partings
  have hl : t.length ≤ 16777216 := by omega
  have p8 : 2 ^ t.length ≤ 256 := Nat.pow_le_pow_right (n := 2) (by omega) h8
  refine ok_nx (by simp! []; rw [lcP_map (ys := List.range (t.length + 1 - 1)) (enc := fun (i : Nat) => PyData.int ((1 + i : Nat) : Int)) eP (fun i => ([t.take (1 + i)] : PL)) (hR22 (a := 1) (b := t.length + 1) (by simp! []; try rfl) (by simp! []; try rfl) (by omega) (by omega)) (by rfl) (by exact Nat.lt_of_sub_eq_succ rfl) (fun i hi => (have s := fSl_Tb hl (1 + i); (by simp! [s]; try rfl))) (by rw [List.length_range]; omega)]; try (simp! []); try rfl) ?_
  have e0 : (List.range (t.length + 1 - 1)).map (fun i => ([t.take (1 + i)] : PL)) = lv t 0 := rfl
  rw [e0]
  refine ok_nx (by simp! []; try rfl) ?_
  refine ok_seq (ok_rngE (r := t.length) (hR (r := t.length) (by simp! []; try rfl) (by omega)) (fun k d => ∃ j3 j4 j5 j6 : J, d = [.fz (.str (S t)), .fz (.list ((lv t k).map eP)), .ow (.list ((dn t k).map eP)), j3.s, j4.s, j5.s, j6.s, .un, .un]) ⟨.un, .un, .un, .un, rfl⟩ ?_ ?_)
  · rintro k d hk ⟨j3, j4, j5, j6, rfl⟩
    refine ⟨_, (by simp! []; try rfl), ?_⟩
    refine ok_nx (by simp! []; try rfl) ?_
    refine ok_seq (ok_forT (ys := lv t k) (enc := eP) (by simp! []; try rfl) (fun i d => ∃ j5 j6 : J, d = [.fz (.str (S t)), .fz (.list ((lv t k).map eP)), .ow (.list ((dn t k ++ ((lv t k).take i).filter (full t)).map eP)), .fz (.int (k : Nat)), .fz (.list ((((lv t k).take i).flatMap (exts t)).map eP)), j5.s, j6.s, .un, .un]) ⟨j5, j6, by rw [List.take_zero, List.filter_nil, List.append_nil]; rfl⟩ ?_ ?_)
    · rintro i d hi ⟨j5, j6, rfl⟩
      refine ⟨_, (by simp! []; try rfl), ?_⟩
      have hg := lv_good k _ (List.getElem_mem hi)
      have et : (lv t k).take (i + 1) = (lv t k).take i ++ [(lv t k)[i]] := List.take_succ_eq_append_getElem hi
      have bl : (((lv t k).take (i + 1)).flatMap (exts t)).length ≤ 256 := by
        have h1 : (((lv t k).take (i + 1)).flatMap (exts t)).length ≤ (lv t (k + 1)).length := by
          show _ ≤ ((lv t k).flatMap (exts t)).length
          have := congrArg (fun l => (l.flatMap (exts t)).length) (List.take_append_drop (i + 1) (lv t k))
          rw [List.flatMap_append, List.length_append] at this
          omega
        have := lv_len t (k + 1)
        omega
      have dl : (dn t k ++ ((lv t k).take i).filter (full t)).length ≤ 16000000 := by
        rw [List.length_append]
        have h1 := dn_len t k
        have h2 := List.length_filter_le (full t) ((lv t k).take i)
        have h3 : ((lv t k).take i).length ≤ (lv t k).length := by rw [List.length_take]; omega
        have h4 := lv_len t k
        have h5 : k * 2 ^ t.length ≤ 8 * 256 := Nat.mul_le_mul (by omega) p8
        omega
      rw [et] at bl ⊢
      rw [List.flatMap_append, List.flatMap_cons, List.flatMap_nil, List.append_nil] at bl ⊢
      rw [List.filter_append]
      generalize (lv t k)[i] = p at *
      generalize ((lv t k).take i).flatMap (exts t) = A at *
      generalize ((lv t k).take i).filter (full t) = B at *
      generalize lv t k = Lk at *
      generalize dn t k = Dk at *
      have hu := good_used hg
      have pl : p.length ≤ 1000 := by rw [hg.1]; omega
      have px : ∀ x ∈ p, x.length ≤ 1000 := fun x hx => by
        have h1 : x.length ≤ used p := by
          rw [used_fl]
          clear hg hu pl bl dl et
          induction p with
          | nil => cases hx
          | cons y p ih =>
            rw [List.flatten_cons, List.length_append]
            rcases List.mem_cons.mp hx with rfl | hx
            · omega
            · have := ih hx; omega
        omega
      have fs : fSum [.list ((p.map List.length).map (fun (n : Nat) => PyData.int (n : Int)))] = some (.int (used p : Nat)) := fSum_dN _
      refine ok_nx (by simp! []; rw [sum_len pl px (by simp! []; try rfl) (by rfl) (by exact Nat.lt_of_sub_eq_succ rfl)]; try (simp! [fs]); try rfl) ?_
      refine ok_cut (fun d => d = [.fz (.str (S t)), .fz (.list (Lk.map eP)), .ow (.list ((Dk ++ (B ++ [p].filter (full t))).map eP)), .fz (.int (k : Nat)), .fz (.list (A.map eP)), .fz (eP p), .fz (.int (used p : Nat)), .un, .un]) ?_ ?_
      · by_cases y : used p = t.length
        · have q : decide (((used p : Nat) : Int) = (t.length : Nat)) = true := decide_eq_true (by omega)
          have ef : [p].filter (full t) = [p] := List.filter_cons_of_pos (decide_eq_true y)
          rw [ef]
          have zl : ((Dk ++ B).map eP).length < 16777216 := by rw [List.length_map]; omega
          have ea : (Dk ++ B).map eP ++ [eP p] = (Dk ++ (B ++ [p])).map eP := by rw [← List.append_assoc]; exact (List.map_append (f := eP) (l₁ := Dk ++ B) (l₂ := [p])).symm
          generalize (Dk ++ B).map eP = W at *
          refine ok_if (k := true) (by simp! [q]; try rfl) (fun _ => ?_) (fun z => by cases z)
          exact ok_enx (by simp! [ea]; try rfl) ⟨_, rfl, rfl⟩
        · have q : decide (((used p : Nat) : Int) = (t.length : Nat)) = false := decide_eq_false (by omega)
          have ef : [p].filter (full t) = [] := List.filter_cons_of_neg (by unfold full; rw [decide_eq_true_eq]; exact y)
          rw [ef, List.append_nil]
          refine ok_if (k := false) (by simp! [q]; try rfl) (fun z => by cases z) (fun _ => ?_)
          exact ok_enx (by simp! []; try rfl) ⟨_, rfl, rfl⟩
      rintro d rfl
      have fa : fAdd (.list (A.map eP)) (.list ((exts t p).map eP)) = some (.list ((A ++ exts t p).map eP)) := fAdd_map eP (by rw [← List.length_append]; omega)
      exact ok_enx (by simp! []; rw [ext_lc hR22 (t := t) (p := p) (by omega) pl (by rfl) (by rfl) (by rfl) hu (by rfl) (by exact Nat.lt_of_sub_eq_succ rfl)]; try (simp! [fa]); try rfl) ⟨.fz _, .fz _, rfl⟩
    · rintro d ⟨j5, j6, rfl⟩
      show Ok _ _
      rw [List.take_length]
      exact ok_enx (by simp! []; try rfl) ⟨.fz _, .fz _, j5, j6, rfl⟩
  · rintro d ⟨j3, j4, j5, j6, rfl⟩
    exact ok_ert (by simp! []; try rfl) ⟨_, rfl⟩
theorem part_eq {t : List Nat} (h8 : t.length ≤ 8) : m__law_partings [.str (S t)] = some (.list ((dn t t.length).map eP)) := mOf_rt rfl (part_q rng1_fine rng22_fine h8)
end Wk81
end
section
--DZ
--DZC
set_option maxRecDepth 100000
set_option maxHeartbeats 8000000
namespace Wk81
open PySem L2 DK
local macro_rules | `(tactic| simp! [$ts,*]) => `(tactic| simp -implicitDefEqProofs (disch := first | assumption | omega) only [sAsg, sAsgN, sRet, sDrop, sNext, sApp, sExt, sAug, sSetL, sDPutR, sFS, sFA, sPar, rVar, rVarB, rC, rB, rOp2, rOp2N, rOp1, rOpA, rOpAN, rOpM, rOpM1, rLst, rTup, rSl, rSlN, rPart, rNoPart, rNilA, rConsA, rNilB, rConsB, rT, rAndT, rOrT, rNotT, rIf, rAndV, rOrV, rNotV, rChain, rYes, rDNew, rDGet, rPopI, rLrg, iX, iE, iZ, gN, gT, gConsR, gNilR, bd_some, ob_some, BV.get, slotD, getAll, isB, isL1, isL2, notFd_un, notFd_fz, notFd_ow, noOwn_un, noOwn_fz, noOwn_nil, wipeD, backD, itemsOf, fSub, fNeg, fInt, fAbs, fList, fLen_list, fLen_tuple, fAdd_int, fCmp, keyOf, oneCh, List.getElem?_cons_zero, List.getElem?_cons_succ, List.set_cons_zero, List.set_cons_succ, List.length_cons, List.length_nil, List.map_cons, List.map_nil, List.append_nil, List.nil_append, if_true, if_false, reduceIte, Bool.not_true, Bool.not_false, and_self, and_true, true_and, reduceCtorEq, rFI, rFL, rFN, fdAt, get1, get2, get3, put1, put2, put3, fMul_ok, fMod_pos, fDiv_pos, fEq_int, fNe_int, ltI, leI, gtI, geI, fLen_S, fAdd_S, fAdd_list, fSum_dI, fPow18, rCallF, rCall, rCallB, flatD, Option.map_some, Option.map_none, okT_str, okT_list, okT_dict, size_le, Nat.reduceAdd, Nat.reduceLT, List.length_map, List.length_range, List.length_append, size_lt, J.nf, J.no, jun, jfz, ixN_cast, fIx_N, fIx_T, fIx_t0, fIx_t1, fRev_l, fIn_ch, index_ch, fRev_S, chars_ch, wipeD, backD, List.getElem?_nil, List.all_cons, List.all_nil, Bool.and_true, Bool.and_self, iZG, srcItems, pairsOf_T, counted_T, fSl_lan, fSl_la, fSl_lb, fSl_Tan, fSl_Ta, fSl_Tb, rev_map, drop_map, take_map, fRepL_one, fAdd_map, castA, castA1, cast1A, castM, castD, castX, fSl_Tab, fSl_lab, isi_ii, isi_ib, isi_bi, isi_bb, isi_ss, isi_ll, isi_tt, isi_lt, isi_tl, fCmp_T, fCount_ch, fMul_T, fIx_pre, sAsgO, sRetO, sRetF, isB, fInt, S_list, ltS, leS, gtS, geS, $ts,*])
def allW (l : Nat) : Nat → List (List Nat)
  | 0 => [[]]
  | s + 1 => (allW l s).flatMap fun w => (List.range l).map fun c => w ++ [97 + c]
def ltL : List Nat → List Nat → Bool
  | [], [] => false
  | [], _ :: _ => true
  | _ :: _, [] => false
  | a :: as, b :: bs => Nat.blt a b || (Nat.beq a b && ltL as bs)
def leastB (t : List Nat) : Bool := (List.range (t.length - 1)).all fun i => ltL t (t.drop (i + 1) ++ t.take (i + 1))
def ly (s l : Nat) : List (List Nat) := isort ltL ((List.range s).flatMap fun i => (allW l (i + 1)).filter leastB)
def ajF (E : List (List Nat)) (s : Nat) : List Nat := (E.filter fun w => s % w.length == 0).flatten
def wpF (W : List Nat) (s : Nat) : List (List Nat) := (List.range W.length).map fun k => (((List.replicate (s + 1) W).flatten).drop k).take s
def code (w : List Nat) : Nat := w.foldl (fun a c => 4 * a + (c - 96)) 0
def nodN : List Nat → Bool
  | [] => true
  | a :: l => (l.all fun b => !Nat.beq a b) && nodN l
theorem nodN_ok : ∀ {l : List Nat}, nodN l = true → l.Nodup
  | [], _ => List.nodup_nil
  | a :: l, h => by
    unfold nodN at h
    rw [Bool.and_eq_true, List.all_eq_true] at h
    refine List.nodup_cons.mpr ⟨fun z => ?_, nodN_ok h.2⟩
    have := h.1 a z
    rw [Nat.beq_refl] at this
    cases this
def nx (E : List (List Nat)) (k : Nat) : D := (E.map eT ++ [PyData.none]).getD (k + 1) PyData.none
def chkE (E : List (List Nat)) (s l : Nat) : Bool := isD (m__law_all [.int (s : Int), .int (l : Int)]) (.list (E.map eT)) && (isD (m_all_least [.int (s : Int), .int (l : Int)]) (.list (E.map eT)) &&
  (((List.range E.length).all fun k => isD (m_next_least [eT (E.getD k []), .int (s : Int), .int (l : Int)]) (nx E k)) && ((E.all fun w => (w.all fun c => Nat.blt c 200) && (Nat.blt 0 w.length && Nat.ble w.length 5)) && (Nat.ble E.length 100 &&
  (Nat.beq (ajF E s).length (l ^ s) && nodN ((wpF (ajF E s) s).map code))))))
def chk (s l : Nat) : Bool := chkE (ly s l) s l
theorem chk_all : ∀ s, s < 5 → ∀ l, l < 3 → chk (s + 1) (l + 1) = true := by decide +kernel
structure Pr (mla mal mnl : List D → Option D) (E : List (List Nat)) (s l : Nat) : Prop where
  la : mla [.int (s : Int), .int (l : Int)] = some (.list (E.map eT))
  al : mal [.int (s : Int), .int (l : Int)] = some (.list (E.map eT))
  nl : ∀ k, k < E.length → mnl [eT (E.getD k []), .int (s : Int), .int (l : Int)] = some (nx E k)
  lt : ∀ w ∈ E, Lt w ∧ 0 < w.length ∧ w.length ≤ 5
  le : E.length ≤ 100
  wl : (ajF E s).length = l ^ s
  nd : (wpF (ajF E s) s).Nodup
theorem pr_of {s l : Nat} (h1 : 1 ≤ s) (h5 : s ≤ 5) (k1 : 1 ≤ l) (k3 : l ≤ 3) : ∃ E, Pr m__law_all m_all_least m_next_least E s l := by
  have h := chk_all (s - 1) (by omega) (l - 1) (by omega)
  rw [show s - 1 + 1 = s by omega, show l - 1 + 1 = l by omega] at h
  unfold chk at h
  generalize ly s l = E at h
  unfold chkE at h
  simp only [Bool.and_eq_true] at h
  obtain ⟨a1, a2, a3, a4, a5, a6, a7⟩ := h
  refine ⟨E, by_calc a1, by_calc a2, fun k hk => by_calc (List.all_eq_true.mp a3 k (List.mem_range.mpr hk)), fun w hw => ?_, Nat.le_of_ble_eq_true a5, Nat.eq_of_beq_eq_true a6, ?_⟩
  · have := List.all_eq_true.mp a4 w hw
    simp only [Bool.and_eq_true] at this
    obtain ⟨b1, b2, b3⟩ := this
    refine ⟨fun c hc => ?_, by simpa using b2, Nat.le_of_ble_eq_true b3⟩
    have := List.all_eq_true.mp b1 c hc
    have : c < 200 := by simpa using this
    omega
  · have := nodN_ok a7
    exact (List.pairwise_map.mp this).imp fun h e => h (by rw [e])
/-! ### all joined, round -/
theorem joined_q {ma : List D → Option D} {E : List (List Nat)} {s l : Nat} (h0 : 0 < s) (ea : ma [.int (s : Int), .int (l : Int)] = some (.list (E.map eT))) (hE : ∀ w ∈ E, 0 < w.length ∧ w.length ≤ 5) (h8 : E.length ≤ 100) (hw : (ajF E s).length ≤ 1000) :
    Ok (q_all_joined ma [.fz (.int (s : Nat)), .fz (.int (l : Nat)), .un]) fun o => ∃ d, o = .rt (.str (S (ajF E s))) d := by
  unfold q_all_joined
  rw [empty_str]
  have fj : fJoin (.str (S [])) [.list ((E.filter fun w => s % w.length == 0).map eT)] = some (.str (S (ajF E s))) := fJoin_T _ (by unfold ajF at hw; omega)
  refine ok_ert (by simp! []; rw [lcP_sub (ys := E) (enc := eT) (fun w => s % w.length == 0) (by simp! [ea]; try rfl) (by rfl) (by exact Nat.lt_of_sub_eq_succ rfl) (fun w h => (by
    obtain ⟨w0, w5⟩ := hE w h
    have hl : w.length ≤ 16777216 := by omega
    have hp : (0 : Int) < (w.length : Nat) := by omega
    have q : decide (((s % w.length : Nat) : Int) = 0) = (s % w.length == 0) := by
      rw [Bool.eq_iff_iff, decide_eq_true_eq, beq_iff_eq]; omega
    simp! [q]; try rfl)) (by omega)]; try (simp! [fj]); try rfl) ⟨_, rfl⟩
theorem rSl_ok {f : D → Option Int → Option Int → Option D} {a : ER} {lo hi : PR} {d : List Slot} {x z : D} {l u : Option Int} (h1 : a d = some (x, d)) (h2 : lo d = some (l, d)) (h3 : hi d = some (u, d)) (h4 : f x l u = some z) : rSl f (rB a) lo hi d = some (z, d) := by
  have e1 : rB a d = some (.v x, d) := by unfold rB; rw [h1]
  unfold rSl
  rw [e1]
  show bd (lo d) _ = _
  rw [h2]
  show bd (hi d) _ = _
  rw [h3]
  show ob (f x l u) _ = _
  rw [h4]
  rfl
theorem round_q {rng1 rng2 : List D → Option (List D)} (hR : RngOk rng1) (hR22 : Rng22 rng2) {mj : List D → Option D} {W : List Nat} {s l : Nat} (h1 : 1 ≤ s) (h5 : s ≤ 5) (k1 : 1 ≤ l) (k3 : l ≤ 3) (ej : mj [.int (s : Int), .int (l : Int)] = some (.str (S W))) (lt : Lt W) (wl : W.length = l ^ s) (nd : (wpF W s).Nodup) :
    Ok (q__law_round rng1 rng2 mj [.fz (.int (s : Nat)), .fz (.int (l : Nat)), .un, .un, .un, .un, .un]) fun o => ∃ d, o = .rt (.bool true) d := by
  unfold q__law_round
  have pw : ∀ i, i ≤ s → l ^ i ≤ 243 := fun i hi => by
    have a := Nat.pow_le_pow_left k3 i
    have b : 3 ^ i ≤ 3 ^ 5 := Nat.pow_le_pow_right (by omega) (by omega)
    have : (3 : Nat) ^ 5 = 243 := by decide
    omega
  have w243 : W.length ≤ 243 := by rw [wl]; exact pw s (Nat.le_refl _)
  have hl : W.length ≤ 16777216 := by omega
  refine ok_nx (by simp! [ej]; try rfl) ?_
  have mt := fMul_T W (s + 1) (by
    have : W.length * (s + 1) ≤ 243 * 6 := Nat.mul_le_mul w243 (by omega)
    omega) (by omega)
  have hel : ((List.replicate (s + 1) W).flatten).length ≤ 16777216 := by
    rw [rep_len]
    have : W.length * (s + 1) ≤ 243 * 6 := Nat.mul_le_mul w243 (by omega)
    omega
  have wdef : wpF W s = (List.range W.length).map fun k => (((List.replicate (s + 1) W).flatten).drop k).take s := rfl
  have wlt : ∀ x ∈ wpF W s, Lt x := fun x hx => by
    obtain ⟨k, _, rfl⟩ := List.mem_map.mp hx
    intro c hc
    have hc := List.mem_of_mem_drop (List.mem_of_mem_take hc)
    obtain ⟨u, hu, hc⟩ := List.mem_flatten.mp hc
    rw [List.eq_of_mem_replicate hu] at hc
    exact lt c hc
  have wlen : (wpF W s).length = W.length := by unfold wpF; rw [List.length_map, List.length_range]
  refine ok_nx (by simp! []; rw [lcP_map (ys := List.range W.length) (enc := (fun (n : Nat) => PyData.int (n : Int))) eT (fun k => (((List.replicate (s + 1) W).flatten).drop k).take s) (hR (r := W.length) (by simp! []; try rfl) (by omega)) (by rfl) (by exact Nat.lt_of_sub_eq_succ rfl) (fun k hk => (by
    have s1 := fSl_Tab hel k (k + s)
    have e9 : k + s - k = s := by omega
    rw [e9] at s1
    exact rSl_ok (x := .str (S (List.replicate (s + 1) W).flatten)) (by simp! [mt]) (by simp! []) (by simp! []) s1)) (by rw [List.length_range]; omega)]; try (simp! []); try rfl) ?_
  rw [← wdef]
  clear mt hel wdef
  generalize wpF W s = P at *
  refine ok_nx (by simp! []; try rfl) ?_
  refine ok_seq (ok_rngE (r := s) (hR (r := s) (by simp! []; try rfl) (by omega)) (fun i d => ∃ j5 : J, d = [.fz (.int (s : Nat)), .fz (.int (l : Nat)), .fz (.str (S W)), .fz (.list (P.map eT)), .fz (.int (l ^ i : Nat)), j5.s, .un]) ⟨.un, rfl⟩ ?_ ?_)
  · rintro i d hi ⟨j5, rfl⟩
    refine ⟨_, (by simp! []; try rfl), ?_⟩
    have b1 := pw i (by omega)
    have m := fMul_ok ((l ^ i : Nat) : Int) (l : Int) (by omega) (by omega)
    have e : ((l ^ i : Nat) : Int) * (l : Int) = ((l ^ (i + 1) : Nat) : Int) := by rw [Nat.pow_succ, Int.natCast_mul]
    generalize l ^ i = x at *
    generalize l ^ (i + 1) = y at *
    exact ok_enx (by simp! [m, e]; try rfl) ⟨.fz _, rfl⟩
  · rintro d ⟨j5, rfl⟩
    show Ok _ _
    obtain ⟨m, hp, hs, hm⟩ := fSortD_ex encT (by decide) sortT wlt
    have hmd : m.Nodup := hp.nodup_iff.mpr nd
    have hml : m.length = l ^ s := by rw [hp.length_eq, wlen, wl]
    have mlt : ∀ x ∈ m, Lt x := fun x hx => wlt x (hp.mem_iff.mp hx)
    have hPl : P.length = l ^ s := by rw [wlen, wl]
    generalize l ^ s = T at *
    have c : rLc (iR rng2 (rConsA (rC (.int 1)) (rConsA (rVar 4) rNilA))) (gN 6) (rT (rB (rOp2 fEq (rB (rOp2 fIx (rB (rOpAN fSortD (rConsB (rVarB 3) rNilB))) (rB (rOp2 fSub (rVarB 6) (rB (rC (.int 1))))))) (rB (rOp2 fIx (rB (rOpAN fSortD (rConsB (rVarB 3) rNilB))) (rVarB 6)))))) (rVar 6) [6] [.fz (.int (s : Nat)), .fz (.int (l : Nat)), .fz (.str (S W)), .fz (.list (P.map eT)), .fz (.int (T : Nat)), j5.s, .un] = some (.list (((List.range (T - 1)).filter fun _ => false).map fun (i : Nat) => PyData.int ((1 + i : Nat) : Int)), [.fz (.int (s : Nat)), .fz (.int (l : Nat)), .fz (.str (S W)), .fz (.list (P.map eT)), .fz (.int (T : Nat)), j5.s, .un]) := by
      refine lcP_sub (ys := List.range (T - 1)) (enc := fun (i : Nat) => PyData.int ((1 + i : Nat) : Int)) (fun _ => false) (hR22 (a := 1) (b := T) (by simp! []; try rfl) (by simp! []; try rfl) (by omega) (by omega)) rfl (Nat.lt_of_sub_eq_succ rfl) (fun i hi => ?_) (by rw [List.length_range]; omega)
      have hi := List.mem_range.mp hi
      have x1 := fIx_LT (P := m) (k := i) (by omega)
      have x2 := fIx_LT (P := m) (k := 1 + i) (by omega)
      have e : (((1 + i : Nat) : Nat) : Int) - 1 = (i : Int) := by omega
      have g1 : m.getD i [] ∈ m := by rw [List.getD_eq_getElem?_getD, List.getElem?_eq_getElem (show i < m.length by omega)]; exact List.getElem_mem _
      have g2 : m.getD (1 + i) [] ∈ m := by rw [List.getD_eq_getElem?_getD, List.getElem?_eq_getElem (show 1 + i < m.length by omega)]; exact List.getElem_mem _
      have ne : m.getD i [] ≠ m.getD (1 + i) [] := by
        have := List.pairwise_iff_getElem.mp hmd i (1 + i) (by omega) (by omega) (by omega)
        rw [List.getD_eq_getElem?_getD, List.getD_eq_getElem?_getD, List.getElem?_eq_getElem (show i < m.length by omega), List.getElem?_eq_getElem (show 1 + i < m.length by omega)]
        exact this
      have q : fEq (eT (m.getD i [])) (eT (m.getD (1 + i) [])) = some (.bool false) := by
        rw [encT.eq (by decide) (mlt _ g1) (mlt _ g2), decide_eq_false ne]
      generalize m.getD i [] = u at *
      generalize m.getD (1 + i) [] = v at *
      simp! [hm, e, x1, x2, q]; try rfl
    have ef : ((List.range (T - 1)).filter fun _ => false) = [] := List.filter_eq_nil_iff.mpr fun _ _ => by decide
    rw [ef] at c
    have q1 : decide (((P.length : Nat) : Int) = ((T : Nat) : Int)) = true := decide_eq_true (by omega)
    have q2 : decide (((0 : Nat) : Int) = 0) = true := rfl
    exact ok_ert (by simp! [q1, c, q2]; try rfl) ⟨_, rfl⟩
end Wk81
end
section
--DZ
--DZC
set_option maxRecDepth 100000
set_option maxHeartbeats 16000000
namespace Wk81
open PySem L2 DK
local macro_rules | `(tactic| simp! [$ts,*]) => `(tactic| simp -implicitDefEqProofs (disch := first | assumption | omega) only [sAsg, sAsgN, sRet, sDrop, sNext, sApp, sExt, sAug, sSetL, sDPutR, sFS, sFA, sPar, rVar, rVarB, rC, rB, rOp2, rOp2N, rOp1, rOpA, rOpAN, rOpM, rOpM1, rLst, rTup, rSl, rSlN, rPart, rNoPart, rNilA, rConsA, rNilB, rConsB, rT, rAndT, rOrT, rNotT, rIf, rAndV, rOrV, rNotV, rChain, rYes, rDNew, rDGet, rPopI, rLrg, iX, iE, iZ, gN, gT, gConsR, gNilR, bd_some, ob_some, BV.get, slotD, getAll, isB, isL1, isL2, notFd_un, notFd_fz, notFd_ow, noOwn_un, noOwn_fz, noOwn_nil, wipeD, backD, itemsOf, fSub, fNeg, fInt, fAbs, fList, fLen_list, fLen_tuple, fAdd_int, fCmp, keyOf, oneCh, List.getElem?_cons_zero, List.getElem?_cons_succ, List.set_cons_zero, List.set_cons_succ, List.length_cons, List.length_nil, List.map_cons, List.map_nil, List.append_nil, List.nil_append, if_true, if_false, reduceIte, Bool.not_true, Bool.not_false, and_self, and_true, true_and, reduceCtorEq, rFI, rFL, rFN, fdAt, get1, get2, get3, put1, put2, put3, fMul_ok, fMod_pos, fDiv_pos, fEq_int, fNe_int, ltI, leI, gtI, geI, fLen_S, fAdd_S, fAdd_list, fSum_dI, fPow18, rCallF, rCall, rCallB, flatD, Option.map_some, Option.map_none, okT_str, okT_list, okT_dict, size_le, Nat.reduceAdd, Nat.reduceLT, List.length_map, List.length_range, List.length_append, size_lt, J.nf, J.no, jun, jfz, ixN_cast, fIx_N, fIx_T, fIx_t0, fIx_t1, fRev_l, fIn_ch, index_ch, fRev_S, chars_ch, wipeD, backD, List.getElem?_nil, List.all_cons, List.all_nil, Bool.and_true, Bool.and_self, iZG, srcItems, pairsOf_T, counted_T, fSl_lan, fSl_la, fSl_lb, fSl_Tan, fSl_Ta, fSl_Tb, rev_map, drop_map, take_map, fRepL_one, fAdd_map, castA, castA1, cast1A, castM, castD, castX, fSl_Tab, fSl_lab, isi_ii, isi_ib, isi_bi, isi_bb, isi_ss, isi_ll, isi_tt, isi_lt, isi_tl, fCmp_T, fCount_ch, fMul_T, fIx_pre, sAsgO, sRetO, sRetF, isB, fInt, S_list, ltS, leS, gtS, geS, $ts,*])
theorem mx_draw : m__law_draw = m_draw := rfl
theorem abcd_str : (("abcd" : String) : Str) = S [97, 98, 99, 100] := by decide +kernel
def A4 : List Nat := [97, 98, 99, 100]
theorem A4_abc : ∀ c ∈ A4, c ∈ abc := by decide
theorem word_q {rng1 : List D → Option (List D)} (hR : RngOk rng1) {fs0 : FS} (ok0 : fs0.ok) : Ok (q__law_word rng1 m_draw [.fd fs0, .un, .un, .un]) fun o => ∃ y fs' d, o = .rt y (.fd fs' :: d) ∧ ∃ l : List Nat, y = .str (S l) ∧ AB l ∧ 1 ≤ l.length ∧ l.length ≤ 8 ∧ fs'.ok := by
  unfold q__law_word
  rw [abcd_str, empty_str]
  obtain ⟨a, fs1, e1, a1, ok1⟩ := drawZ (n := 8) ok0 (by omega) (by omega)
  refine ok_nx (by simp! [e1]; try rfl) ?_
  obtain ⟨b, fs2, e2, b2, ok2⟩ := drawZ (n := 4) ok1 (by omega) (by omega)
  have s1 : fSl (.str (S A4)) none (some ((1 + b : Nat) : Int)) = some (.str (S (A4.take (1 + b)))) := fSl_Tb (by decide) (1 + b)
  unfold A4 at s1
  refine ok_nx (by simp! [e2, s1]; try rfl) ?_
  have n1 : 1 ≤ 1 + a := by omega
  have n8 : 1 + a ≤ 8 := by omega
  have l0 : 0 < ([97, 98, 99, 100].take (1 + b) : List Nat).length := by rw [List.length_take]; show 0 < min _ 4; omega
  have l4 : ([97, 98, 99, 100].take (1 + b) : List Nat).length ≤ 4 := by rw [List.length_take]; show min _ 4 ≤ 4; omega
  have lm : ∀ c ∈ ([97, 98, 99, 100].take (1 + b) : List Nat), c ∈ abc := fun c hc => A4_abc c (List.mem_of_mem_take hc)
  generalize ([97, 98, 99, 100].take (1 + b) : List Nat) = L at *
  generalize 1 + a = n at *
  have eR : iR rng1 (rConsA (rVar 1) rNilA) [.fd fs2, .fz (.int (n : Nat)), .fz (.str (S L)), .un] = some ((List.range n).map (fun (n : Nat) => PyData.int (n : Int)), [.fd fs2, .fz (.int (n : Nat)), .fz (.str (S L)), .un]) := hR (r := n) (by simp! []; try rfl) (by omega)
  obtain ⟨tt, fs4, e6, l6, p6, ok4⟩ := lc_draws (D1 := fun fs => [.fd fs, .fz (.int (n : Nat)), .fz (.str (S L)), .un]) (i := 3) (e := rOp2 fIx (rVarB 2) (rB (rCallF 0 m_draw (rConsA (rOpA fLen (rConsB (rVarB 2) rNilB)) rNilA)))) (fs := fs2) eR rfl (fun _ _ => rfl) (fun _ _ => rfl) (fun c => ∃ a ∈ abc, c = ch a) (fun fs x ok => by
    obtain ⟨r, fs', e, rl, ok'⟩ := drawN (n := L.length) ok l0 (by omega)
    have hl : L.length ≤ 16777216 := by omega
    have g := fIx_T rl hl
    have gm : L.getD r 0 ∈ abc := by
      refine lm _ ?_
      rw [List.getD_eq_getElem?_getD, List.getElem?_eq_getElem rl]
      exact List.getElem_mem _
    exact ⟨_, fs', (by simp! [e, g]; try rfl), ⟨_, gm, rfl⟩, ok'⟩) ok2 (by rw [List.length_map, List.length_range]; omega)
  obtain ⟨q, rfl, ql, qm⟩ := signs_of p6
  rw [← ql, List.length_map, List.length_range] at l6
  have fj := fJoin_ch q (by omega)
  exact ok_ert (by simp! [e6, fj]; try rfl) ⟨_, fs4, _, rfl, q, rfl, qm, by omega, by omega, ok4⟩
theorem word_ok {fs : FS} (ok : fs.ok) : ∃ (l : List Nat) (fs' : FS), m__law_word fs [] = some (.str (S l), fs') ∧ AB l ∧ 1 ≤ l.length ∧ l.length ≤ 8 ∧ fs'.ok := by
  obtain ⟨y, fs', e, l, rfl, h⟩ := mOfF_ex (n := 4) (k := 1) (r := r__law_word) (fs := fs) (xs := []) (P := fun y fs' => ∃ l : List Nat, y = .str (S l) ∧ AB l ∧ 1 ≤ l.length ∧ l.length ≤ 8 ∧ fs'.ok) rfl (word_q rng1_fine ok)
  exact ⟨l, fs', e, h⟩
/-- a text as the law has it -/
structure Tx (mlf mlp mll mis mpf : List D → Option D) (t : List Nat) (P : PL) : Prop where
  pf : mpf [.str (S t)] = some (.list (P.map eT))
  jo : P.flatten = t
  lf : mlf [.list (P.map eT)] = some (.bool true)
  il : mis [.str (S t)] = some (.bool (isL t))
  ll : mll [.str (S t)] = some (.bool (isL t))
  lp : t.length ≤ 8 → mlp [.str (S t)] = some (.list ((dn t t.length).map eP))
  lq : t.length ≤ 8 → ∀ p ∈ dn t t.length, mlf [eP p] = some (.bool (fitsB p))
  one : 0 < t.length → (dn t t.length).filter fitsB = [P]
  len : P.length ≤ 1000
  dl : t.length ≤ 8 → (dn t t.length).length ≤ 10000
theorem flat_le {p : PL} : ∀ x ∈ p, x.length ≤ p.flatten.length := fun x hx => by
  induction p with
  | nil => cases hx
  | cons y p ih =>
    rw [List.flatten_cons, List.length_append]
    rcases List.mem_cons.mp hx with rfl | hx
    · omega
    · have := ih hx; omega
theorem tx_of {t : List Nat} (h8 : t.length ≤ 100) (lt : Lt t) : ∃ P, Tx m__law_fits m__law_partings m__law_least m_is_least m_parts_falling t P := by
  obtain ⟨P, e, sf⟩ := falling_ok (by omega) lt
  have hj : P.flatten = t := by rw [sf.jo, List.take_length]
  have pl : P.length ≤ 1000 := by have := sofar_len sf; omega
  have fl : fitsB P = true := fits_iff.mpr ⟨fun p hp => (sf.ly p hp).2.lr, sf.fa⟩
  refine ⟨P, e, hj, ?_, isl_eq (by omega), lla_eq (by omega), fun h => part_eq h, fun h p hp => ?_, fun h0 => dn_fits h0 sf, pl, fun h => ?_⟩
  · rw [lfits_eq pl (fun p hp => by have := flat_le p hp; rw [hj] at this; omega), fl]
  · obtain ⟨k, h1, h2, _⟩ := dn_mem.mp hp
    obtain ⟨g1, g2, _⟩ := lv_good k p h2
    have gl := g2.length_le
    exact lfits_eq (by omega) fun x hx => by have := flat_le x hx; omega
  · have := dn_len t t.length
    have p8 : 2 ^ t.length ≤ 256 := Nat.pow_le_pow_right (n := 2) (by omega) h
    have : t.length * 2 ^ t.length ≤ 8 * 256 := Nat.mul_le_mul h p8
    omega
theorem encPL : EncOk (fun p : PL => ∀ x ∈ p, Lt x) eP 1 := encL encT
section
variable {rng1 : List D → Option (List D)} (hR : RngOk rng1) {mla mlf mll mlp mlr mal mis mnl mpf : List D → Option D} {mlw : FS → List D → Option (D × FS)}
  (hw : ∀ fs : FS, fs.ok → ∃ (l : List Nat) (fs' : FS), mlw fs [] = some (.str (S l), fs') ∧ AB l ∧ 1 ≤ l.length ∧ l.length ≤ 8 ∧ fs'.ok)
  (hT : ∀ t : List Nat, t.length ≤ 100 → Lt t → ∃ P, Tx mlf mlp mll mis mpf t P)
  (hP : ∀ s l : Nat, 1 ≤ s → s ≤ 5 → 1 ≤ l → l ≤ 3 → (∃ E, Pr mla mal mnl E s l) ∧ mlr [.int (s : Int), .int (l : Int)] = some (.bool true))
  (k1 : mnl [.str "abcd", .int 12, .int 4] = some (.str "abcdabcdabd")) (k2 : mpf [.str (Txt.replace "banana" "n" "c")] = some (.list [.str "b", .str "ac", .str "ac", .str "a"]))
include hR hw hT hP k1 k2
theorem law_q {fs0 : FS} (ok0 : fs0.ok) : Ok (q_law rng1 mla m_draw mlf mll mlp mlr mlw mal mis mnl mpf [.un, .fd fs0, .un, .un, .un, .un, .un, .un, .un, .un, .un, .un]) fun o => ∃ d', o = .rt (.bool true) d' := by
  unfold q_law
  rw [abcd_str, empty_str]
  refine ok_seq (ok_rngE (r := 2) (hR (by simp! []; try rfl) (by omega)) (fun _ d => ∃ (fs : FS) (j2 j3 j4 j5 j6 : J), fs.ok ∧ d = [.un, .fd fs, j2.s, j3.s, j4.s, j5.s, j6.s, .un, .un, .un, .un, .un]) ⟨fs0, .un, .un, .un, .un, .un, ok0, rfl⟩ ?_ ?_)
  · rintro turn d _ ⟨fs, j2, j3, j4, j5, j6, ok, rfl⟩
    refine ⟨_, (by simp! []; try rfl), ?_⟩
    generalize ((turn : Nat) : Int) = tu
    obtain ⟨w, fs1, e1, wa, w1, w8, ok1⟩ := hw fs ok
    obtain ⟨r, fs2, e2, r5, ok2⟩ := drawZ (n := 5) ok1 (by omega) (by omega)
    have eR : iR rng1 (rConsA (rCallF 1 m_draw (rConsA (rC (.int 5)) rNilA)) rNilA) [.un, .fd fs1, .fz (.int tu), j3.s, j4.s, j5.s, j6.s, .un, .un, .un, .un, .un] = some ((List.range r).map (fun (n : Nat) => PyData.int (n : Int)), [.un, .fd fs2, .fz (.int tu), j3.s, j4.s, j5.s, j6.s, .un, .un, .un, .un, .un]) := hR (r := r) (by simp! [e2]; try rfl) (by omega)
    obtain ⟨tt, fs4, e6, l6, p6, ok4⟩ := lc_draws (D1 := fun fs => [.un, .fd fs, .fz (.int tu), j3.s, j4.s, j5.s, j6.s, .un, .un, .un, .un, .un]) (f := fun d => some ((List.range r).map (fun (n : Nat) => PyData.int (n : Int)), d)) (i := 10) (e := rOp2 fIx (rB (rC (.str (S [97, 98, 99, 100])))) (rB (rCallF 1 m_draw (rConsA (rC (.int 4)) rNilA)))) (fs := fs2) rfl rfl (fun _ _ => rfl) (fun _ _ => rfl) (fun c => ∃ a ∈ abc, c = ch a) (fun fs x ok => by
      obtain ⟨r, fs', e, rl, ok'⟩ := drawZ (n := 4) ok (by omega) (by omega)
      have g : fIx (.str (S A4)) (.int (r : Int)) = some (ch (A4.getD r 0)) := fIx_T (by show r < 4; omega) (by decide)
      have gm : A4.getD r 0 ∈ abc := by
        refine A4_abc _ ?_
        rw [List.getD_eq_getElem?_getD, List.getElem?_eq_getElem (show r < A4.length by show r < 4; omega)]
        exact List.getElem_mem _
      unfold A4 at g gm
      exact ⟨_, fs', (by simp! [e, g]; try rfl), ⟨_, gm, rfl⟩, ok'⟩) ok2 (by rw [List.length_map, List.length_range]; omega)
    obtain ⟨q, rfl, ql, qm⟩ := signs_of p6
    rw [← ql, List.length_map, List.length_range] at l6
    rw [← lc_from eR] at e6
    have fj := fJoin_ch q (by omega)
    have ad := fAdd_S w q (by omega)
    refine ok_nx (by simp! [e1, e6, fj, ad]; try rfl) ?_
    have ta : AB (w ++ q) := wa.app qm
    have t0 : 0 < (w ++ q).length := by rw [List.length_append]; omega
    have t60 : (w ++ q).length ≤ 60 := by rw [List.length_append]; omega
    generalize w ++ q = t0' at *
    clear e1 e6 fj ad wa w1 w8 qm l6 eR
    refine ok_cut (fun d => ∃ (t : List Nat) (fs' : FS), AB t ∧ 0 < t.length ∧ t.length ≤ 60 ∧ fs'.ok ∧ d = [.un, .fd fs', .fz (.int tu), .fz (.str (S t)), j4.s, j5.s, j6.s, .un, .un, .un, .un, .un]) ?_ ?_
    · obtain ⟨b, fs5, e7, b2, ok5⟩ := drawZ (n := 10) ok4 (by omega) (by omega)
      by_cases hb : b = 0
      · have tt : decide ((b : Int) = 0) = true := decide_eq_true (by omega)
        have m60 := fMul_T t0' 60 (by omega) (by omega)
        have hel : ((List.replicate 60 t0').flatten).length ≤ 16777216 := by rw [rep_len]; omega
        have s60 := fSl_Tb hel 60
        have hlen : (((List.replicate 60 t0').flatten).take 60).length = 60 := by rw [List.length_take, rep_len]; omega
        have ha : AB (((List.replicate 60 t0').flatten).take 60) := (ta.rep 60).take 60
        have m60 : fMul (.str (S t0')) (.int 60) = some (.str (S (List.replicate 60 t0').flatten)) := m60
        have s60 : fSl (.str (S (List.replicate 60 t0').flatten)) none (some 60) = some (.str (S (((List.replicate 60 t0').flatten).take 60))) := s60
        generalize ((List.replicate 60 t0').flatten).take 60 = T at *
        generalize (List.replicate 60 t0').flatten = EE at *
        refine ok_if (k := true) (by simp! [e7, tt]; try rfl) (fun _ => ?_) (fun z => by cases z)
        exact ok_enx (by simp! [m60, s60]; try rfl) ⟨_, rfl, T, fs5, ha, by omega, by omega, ok5, rfl⟩
      · have tt : decide ((b : Int) = 0) = false := decide_eq_false (by omega)
        refine ok_if (k := false) (by simp! [e7, tt]; try rfl) (fun z => by cases z) (fun _ => ?_)
        exact ok_enx (by simp! []; try rfl) ⟨_, rfl, t0', fs5, ta, t0, t60, ok5, rfl⟩
    rintro d ⟨t, fs5, tab, tp, t60', ok5, rfl⟩
    clear ta t0 t60
    have both : ∀ o ∈ [t, ([] : List Nat)], Lt o ∧ o.length ≤ 60 := fun o ho => by
      rcases List.mem_cons.mp ho with rfl | ho
      · exact ⟨tab.lt, t60'⟩
      rw [List.mem_singleton.mp ho]
      exact ⟨fun c hc => (by cases hc), Nat.zero_le _⟩
    refine ok_seq (ok_forT (ys := [t, []]) (enc := eT) (d1 := [.un, .fd fs5, .fz (.int tu), .fz (.str (S t)), j4.s, j5.s, j6.s, .un, .un, .un, .un, .un]) (by simp! []; try rfl) (fun _ d => ∃ j4 j5 : J, d = [.un, .fd fs5, .fz (.int tu), .fz (.str (S t)), j4.s, j5.s, j6.s, .un, .un, .un, .un, .un]) ⟨j4, j5, rfl⟩ ?_ ?_)
    · rintro i d hi ⟨j4, j5, rfl⟩
      obtain ⟨olt, o60⟩ := both _ (List.getElem_mem hi)
      generalize [t, ([] : List Nat)][i] = o at olt o60
      refine ⟨_, (by simp! []; try rfl), ?_⟩
      obtain ⟨P, T⟩ := hT o (by omega) olt
      have pf := T.pf
      refine ok_nx (by simp! [pf]; try rfl) ?_
      have fj : fJoin (.str (S [])) [.list (P.map eT)] = some (.str (S o)) := by
        have := fJoin_T P (by rw [T.jo]; omega)
        rw [T.jo] at this
        exact this
      have one := neTS olt
      have lf := T.lf
      refine ok_nop (by unfold sIf; simp! [fj, one, lf]; try rfl) ?_
      have plt : ∀ x ∈ P, Lt x := fun x hx c hc => olt c (by rw [← T.jo]; exact List.mem_flatten.mpr ⟨x, hx, hc⟩)
      by_cases h : 0 < o.length ∧ o.length < 9
      · have t1 : decide ((0 : Int) < (o.length : Nat)) = true := decide_eq_true (by omega)
        have t2 : decide ((o.length : Int) < 9) = true := decide_eq_true (by omega)
        have lp := T.lp (by omega)
        have lq := T.lq (by omega)
        have on := T.one h.1
        have dl := T.dl (by omega)
        have c := lcP_sub (ys := dn o o.length) (enc := eP) (f := iX (rCall mlp (rConsA (rVar 4) rNilA))) (t := rT (rB (rCallB mlf (rConsB (rVarB 11) rNilB)))) (i := 11) (d := [.un, .fd fs5, .fz (.int tu), .fz (.str (S t)), .fz (.str (S o)), .fz (.list (P.map eT)), j6.s, .un, .un, .un, .un, .un]) fitsB (by simp! [lp]; try rfl) rfl (Nat.lt_of_sub_eq_succ rfl) (fun p hp => (have e := lq p hp; (by simp! [e]; try rfl))) (by omega)
        rw [on] at c
        have ne : fNe (.list [eP P]) (.list [.list (P.map eT)]) = some (.bool false) := (encL encPL).neS (by decide) (x := [P]) (fun x hx => by rw [List.mem_singleton.mp hx]; exact plt)
        exact ok_enx (by unfold sIf; simp! [ltI, t1, t2, c, ne]; try rfl) ⟨.fz _, .fz _, rfl⟩
      · by_cases h2 : 0 < o.length
        · have t1 : decide ((0 : Int) < (o.length : Nat)) = true := decide_eq_true (by omega)
          have t2 : decide ((o.length : Int) < 9) = false := decide_eq_false (by omega)
          refine ok_if (k := false) (by simp! [ltI, t1, t2]; try rfl) (fun z => by cases z) (fun _ => ?_)
          exact ok_enx (by simp! []; try rfl) ⟨.fz _, .fz _, rfl⟩
        · have t1 : decide ((0 : Int) < (o.length : Nat)) = false := decide_eq_false (by omega)
          refine ok_if (k := false) (by simp! [ltI, t1]; try rfl) (fun z => by cases z) (fun _ => ?_)
          exact ok_enx (by simp! []; try rfl) ⟨.fz _, .fz _, rfl⟩
    rintro d ⟨j4, j5, rfl⟩
    show Ok _ _
    obtain ⟨P, T⟩ := hT t (by omega) tab.lt
    have il := T.il
    have ll := T.ll
    refine ok_nx (by simp! [il]; try rfl) ?_
    exact ok_enx (by unfold sIf; simp! [ll, neBS]; try rfl) ⟨fs5, .fz _, .fz _, j4, j5, .fz _, ok5, rfl⟩
  · rintro d ⟨fs, j2, j3, j4, j5, j6, ok, rfl⟩
    show Ok _ _
    obtain ⟨a, fs1, e1, a1, ok1⟩ := drawZ (n := 5) ok (by omega) (by omega)
    refine ok_nx (by simp! [e1]; try rfl) ?_
    obtain ⟨b, fs2, e2, b2, ok2⟩ := drawZ (n := 3) ok1 (by omega) (by omega)
    refine ok_nx (by simp! [e2]; try rfl) ?_
    obtain ⟨⟨E, R⟩, hr⟩ := hP (1 + a) (1 + b) (by omega) (by omega) (by omega) (by omega)
    generalize 1 + a = s at *
    generalize 1 + b = l at *
    have la := R.la
    have al := R.al
    refine ok_nx (by simp! [la]; try rfl) ?_
    have ne : fNe (.list (E.map eT)) (.list (E.map eT)) = some (.bool false) := encPL.neS (by decide) (x := E) (fun x hx => (R.lt x hx).1)
    refine ok_nop (by unfold sIf; simp! [al, ne, hr]; try rfl) ?_
    have le := R.le
    refine ok_seq (ok_rngE (r := E.length) (hR (r := E.length) (by simp! []; try rfl) (by omega)) (fun _ d => ∃ j10 : J, d = [.un, .fd fs2, j2.s, j3.s, j4.s, j5.s, j6.s, .fz (.int (s : Nat)), .fz (.int (l : Nat)), .fz (.list (E.map eT)), j10.s, .un]) ⟨.un, rfl⟩ ?_ ?_)
    · rintro k d hk ⟨j10, rfl⟩
      refine ⟨_, (by simp! []; try rfl), ?_⟩
      have nl := R.nl k hk
      have x1 := fIx_LT hk
      have ad : fAdd (.list (E.map eT)) (.list [PyData.none]) = some (.list (E.map eT ++ [PyData.none])) := fAdd_list _ _ (by rw [List.length_map]; show _ + 1 ≤ _; omega)
      have x2 : fIx (.list (E.map eT ++ [PyData.none])) (.int ((k + 1 : Nat) : Int)) = some (nx E k) := fIx_list rfl (by
        unfold nx
        exact get_some (by rw [List.length_append, List.length_map]; show _ < _ + 1; omega))
      have sh : SeqAt.shaped (nx E k) = true := by
        unfold nx
        rw [List.getD_eq_getElem?_getD]
        by_cases z : k + 1 < E.length
        · rw [List.getElem?_append_left (by rw [List.length_map]; exact z), List.getElem?_map, List.getElem?_eq_getElem z]
          exact encT.shaped (by decide) (R.lt _ (List.getElem_mem z)).1
        · rw [List.getElem?_append_right (by rw [List.length_map]; omega), List.length_map, show k + 1 - E.length = 0 by omega]
          rfl
      have nn := fNe_self sh
      generalize E.map eT ++ [PyData.none] = EN at *
      generalize nx E k = N at *
      generalize E.getD k [] = u at *
      exact ok_enx (by unfold sIf; simp! [x1, nl, ad, x2, nn]; try rfl) ⟨.fz _, rfl⟩
    · rintro d ⟨j10, rfl⟩
      rw [abcd_str] at k1
      have q1 : fEq (.str "abcdabcdabd") (.str "abcdabcdabd") = some (.bool true) := fEq_self (by decide +kernel)
      have q2 : fEq (.list [.str "b", .str "ac", .str "ac", .str "a"]) (.list [.str "b", .str "ac", .str "ac", .str "a"]) = some (.bool true) := fEq_self (by decide +kernel)
      exact ok_ert (by simp! [k1, k2, q1, q2]; try rfl) ⟨_, rfl⟩
end
theorem law_run : ∀ ns : List Int, ns.length ≤ 63 → ∃ d', r_law (.un :: .fd ⟨ns, 0, 0, 1⟩ :: List.replicate 10 .un) = some (.rt (.bool true) d') := fun ns _ => by
  obtain ⟨o, e, d, rfl⟩ := law_q rng1_fine (mla := m__law_all) (mlf := m__law_fits) (mll := m__law_least) (mlp := m__law_partings) (mlr := m__law_round) (mal := m_all_least) (mis := m_is_least) (mnl := m_next_least) (mpf := m_parts_falling) (mlw := m__law_word) (fun fs ok => word_ok ok) (fun t h lt => tx_of h lt) (fun s l h1 h5 k1 k3 => by
    obtain ⟨E, R⟩ := pr_of h1 h5 k1 k3
    refine ⟨⟨E, R⟩, ?_⟩
    have pw : l ^ s ≤ 243 := by
      have a := Nat.pow_le_pow_left k3 s
      have b : 3 ^ s ≤ 3 ^ 5 := Nat.pow_le_pow_right (by omega) h5
      have : (3 : Nat) ^ 5 = 243 := by decide
      omega
    have ej : m_all_joined [.int (s : Int), .int (l : Int)] = some (.str (S (ajF E s))) := mOf_rt rfl (joined_q (by omega) R.al (fun w hw => (R.lt w hw).2) R.le (by rw [R.wl]; omega))
    exact mOf_rt rfl (round_q rng1_fine rng22_fine h1 h5 k1 k3 ej (fun c hc => by
      unfold ajF at hc
      obtain ⟨w, hw, hc⟩ := List.mem_flatten.mp hc
      exact (R.lt w (List.mem_filter.mp hw).1).1 c hc) R.wl R.nd)) (by_calc (by decide +kernel)) (by_calc (by decide +kernel)) (start_ok ns)
  exact ⟨d, e⟩
end Wk81
end
section
namespace Wk81
open PySem PySem.Spec PyProof.Rows L2 DK
set_option maxHeartbeats 0 in
theorem all_mk {l : PySem.W.OpenLaw} {w : World} {K : PySem.W.Frag} {h : Heap} {mg : Str → Option Value} {fa : Addr} (X : K.In h) (G : h.Ns mainGlobals mg) (hfa : mg "law" = some (.ref fa))
  (hm : ∀ ns : List Int, ns.length ≤ 63 → ∃ d', r_law (.un :: .fd ⟨ns, 0, 0, 1⟩ :: List.replicate 10 .un) = some (.rt (.bool true) d'))
    {f0 : Addr} {od0 an0 : Option Addr} {sl0 : Array (Option Value)} {oc0 kV0 dc0 pm0 cd0 ct0 : Value}
    {f1 : Addr} {od1 an1 : Option Addr} {sl1 : Array (Option Value)} {oc1 kV1 dc1 pm1 cd1 ct1 : Value}
    {f2 : Addr} {od2 an2 : Option Addr} {sl2 : Array (Option Value)} {oc2 kV2 dc2 pm2 cd2 ct2 : Value}
    {f3 : Addr} {od3 an3 : Option Addr} {sl3 : Array (Option Value)} {oc3 kV3 dc3 pm3 cd3 ct3 : Value}
    {f4 : Addr} {od4 an4 : Option Addr} {sl4 : Array (Option Value)} {oc4 kV4 dc4 pm4 cd4 ct4 : Value}
    {f5 : Addr} {od5 an5 : Option Addr} {sl5 : Array (Option Value)} {oc5 kV5 dc5 pm5 cd5 ct5 : Value}
    {f6 : Addr} {od6 an6 : Option Addr} {sl6 : Array (Option Value)} {oc6 kV6 dc6 pm6 cd6 ct6 : Value}
    {f7 : Addr} {od7 an7 : Option Addr} {sl7 : Array (Option Value)} {oc7 kV7 dc7 pm7 cd7 ct7 : Value}
    {f8 : Addr} {od8 an8 : Option Addr} {sl8 : Array (Option Value)} {oc8 kV8 dc8 pm8 cd8 ct8 : Value}
    {f9 : Addr} {od9 an9 : Option Addr} {sl9 : Array (Option Value)} {oc9 kV9 dc9 pm9 cd9 ct9 : Value}
    {f10 : Addr} {od10 an10 : Option Addr} {sl10 : Array (Option Value)} {oc10 kV10 dc10 pm10 cd10 ct10 : Value}
    {f11 : Addr} {od11 an11 : Option Addr} {sl11 : Array (Option Value)} {oc11 kV11 dc11 pm11 cd11 ct11 : Value}
    {f12 : Addr} {od12 an12 : Option Addr} {sl12 : Array (Option Value)} {oc12 kV12 dc12 pm12 cd12 ct12 : Value}
    {f13 : Addr} {od13 an13 : Option Addr} {sl13 : Array (Option Value)} {oc13 kV13 dc13 pm13 cd13 ct13 : Value}
    {f14 : Addr} {od14 an14 : Option Addr} {sl14 : Array (Option Value)} {oc14 kV14 dc14 pm14 cd14 ct14 : Value}
    (a0 : PySem.W.nsIn K mainGlobals "is_least" = some (some (.ref f0))) (l0 : K.lookup f0 = some ⟨oc0, od0, .func (PySem.W.fnOf "is_least" "is_least" (defArgs s_is_least) (defBody s_is_least) (defScope s_is_least) .none kV0 dc0 pm0 an0 cd0 ct0), sl0⟩) (c0 : PySem.W.codeIn K cd0 "is_least" = true) (k0 : PySem.W.keepIn K (.ref f0) = true)
    (a1 : PySem.W.nsIn K mainGlobals "parts_falling" = some (some (.ref f1))) (l1 : K.lookup f1 = some ⟨oc1, od1, .func (PySem.W.fnOf "parts_falling" "parts_falling" (defArgs s_parts_falling) (defBody s_parts_falling) (defScope s_parts_falling) .none kV1 dc1 pm1 an1 cd1 ct1), sl1⟩) (c1 : PySem.W.codeIn K cd1 "parts_falling" = true) (k1 : PySem.W.keepIn K (.ref f1) = true)
    (a2 : PySem.W.nsIn K mainGlobals "next_least" = some (some (.ref f2))) (l2 : K.lookup f2 = some ⟨oc2, od2, .func (PySem.W.fnOf "next_least" "next_least" (defArgs s_next_least) (defBody s_next_least) (defScope s_next_least) .none kV2 dc2 pm2 an2 cd2 ct2), sl2⟩) (c2 : PySem.W.codeIn K cd2 "next_least" = true) (k2 : PySem.W.keepIn K (.ref f2) = true)
    (a3 : PySem.W.nsIn K mainGlobals "all_least" = some (some (.ref f3))) (l3 : K.lookup f3 = some ⟨oc3, od3, .func (PySem.W.fnOf "all_least" "all_least" (defArgs s_all_least) (defBody s_all_least) (defScope s_all_least) .none kV3 dc3 pm3 an3 cd3 ct3), sl3⟩) (c3 : PySem.W.codeIn K cd3 "all_least" = true) (k3 : PySem.W.keepIn K (.ref f3) = true)
    (a4 : PySem.W.nsIn K mainGlobals "all_joined" = some (some (.ref f4))) (l4 : K.lookup f4 = some ⟨oc4, od4, .func (PySem.W.fnOf "all_joined" "all_joined" (defArgs s_all_joined) (defBody s_all_joined) (defScope s_all_joined) .none kV4 dc4 pm4 an4 cd4 ct4), sl4⟩) (c4 : PySem.W.codeIn K cd4 "all_joined" = true) (k4 : PySem.W.keepIn K (.ref f4) = true)
    (a5 : PySem.W.nsIn K mainGlobals "_law_feed" = some (some (.ref f5))) (l5 : K.lookup f5 = some ⟨oc5, od5, .func (PySem.W.fnOf "_law_feed" "_law_feed" (defArgs s__law_feed) (defBody s__law_feed) (defScope s__law_feed) .none kV5 dc5 pm5 an5 cd5 ct5), sl5⟩) (c5 : PySem.W.codeIn K cd5 "_law_feed" = true) (k5 : PySem.W.keepIn K (.ref f5) = true)
    (a6 : PySem.W.nsIn K mainGlobals "_law_draw" = some (some (.ref f6))) (l6 : K.lookup f6 = some ⟨oc6, od6, .func (PySem.W.fnOf "_law_draw" "_law_draw" (defArgs s__law_draw) (defBody s__law_draw) (defScope s__law_draw) .none kV6 dc6 pm6 an6 cd6 ct6), sl6⟩) (c6 : PySem.W.codeIn K cd6 "_law_draw" = true) (k6 : PySem.W.keepIn K (.ref f6) = true)
    (a7 : PySem.W.nsIn K mainGlobals "_law_turned" = some (some (.ref f7))) (l7 : K.lookup f7 = some ⟨oc7, od7, .func (PySem.W.fnOf "_law_turned" "_law_turned" (defArgs s__law_turned) (defBody s__law_turned) (defScope s__law_turned) .none kV7 dc7 pm7 an7 cd7 ct7), sl7⟩) (c7 : PySem.W.codeIn K cd7 "_law_turned" = true) (k7 : PySem.W.keepIn K (.ref f7) = true)
    (a8 : PySem.W.nsIn K mainGlobals "_law_word" = some (some (.ref f8))) (l8 : K.lookup f8 = some ⟨oc8, od8, .func (PySem.W.fnOf "_law_word" "_law_word" (defArgs s__law_word) (defBody s__law_word) (defScope s__law_word) .none kV8 dc8 pm8 an8 cd8 ct8), sl8⟩) (c8 : PySem.W.codeIn K cd8 "_law_word" = true) (k8 : PySem.W.keepIn K (.ref f8) = true)
    (a9 : PySem.W.nsIn K mainGlobals "_law_least" = some (some (.ref f9))) (l9 : K.lookup f9 = some ⟨oc9, od9, .func (PySem.W.fnOf "_law_least" "_law_least" (defArgs s__law_least) (defBody s__law_least) (defScope s__law_least) .none kV9 dc9 pm9 an9 cd9 ct9), sl9⟩) (c9 : PySem.W.codeIn K cd9 "_law_least" = true) (k9 : PySem.W.keepIn K (.ref f9) = true)
    (a10 : PySem.W.nsIn K mainGlobals "_law_partings" = some (some (.ref f10))) (l10 : K.lookup f10 = some ⟨oc10, od10, .func (PySem.W.fnOf "_law_partings" "_law_partings" (defArgs s__law_partings) (defBody s__law_partings) (defScope s__law_partings) .none kV10 dc10 pm10 an10 cd10 ct10), sl10⟩) (c10 : PySem.W.codeIn K cd10 "_law_partings" = true) (k10 : PySem.W.keepIn K (.ref f10) = true)
    (a11 : PySem.W.nsIn K mainGlobals "_law_fits" = some (some (.ref f11))) (l11 : K.lookup f11 = some ⟨oc11, od11, .func (PySem.W.fnOf "_law_fits" "_law_fits" (defArgs s__law_fits) (defBody s__law_fits) (defScope s__law_fits) .none kV11 dc11 pm11 an11 cd11 ct11), sl11⟩) (c11 : PySem.W.codeIn K cd11 "_law_fits" = true) (k11 : PySem.W.keepIn K (.ref f11) = true)
    (a12 : PySem.W.nsIn K mainGlobals "_law_all" = some (some (.ref f12))) (l12 : K.lookup f12 = some ⟨oc12, od12, .func (PySem.W.fnOf "_law_all" "_law_all" (defArgs s__law_all) (defBody s__law_all) (defScope s__law_all) .none kV12 dc12 pm12 an12 cd12 ct12), sl12⟩) (c12 : PySem.W.codeIn K cd12 "_law_all" = true) (k12 : PySem.W.keepIn K (.ref f12) = true)
    (a13 : PySem.W.nsIn K mainGlobals "_law_round" = some (some (.ref f13))) (l13 : K.lookup f13 = some ⟨oc13, od13, .func (PySem.W.fnOf "_law_round" "_law_round" (defArgs s__law_round) (defBody s__law_round) (defScope s__law_round) .none kV13 dc13 pm13 an13 cd13 ct13), sl13⟩) (c13 : PySem.W.codeIn K cd13 "_law_round" = true) (k13 : PySem.W.keepIn K (.ref f13) = true)
    (a14 : PySem.W.nsIn K mainGlobals "law" = some (some (.ref f14))) (l14 : K.lookup f14 = some ⟨oc14, od14, .func (PySem.W.fnOf "law" "law" (defArgs s_law) (defBody s_law) (defScope s_law) .none kV14 dc14 pm14 an14 cd14 ct14), sl14⟩) (c14 : PySem.W.codeIn K cd14 "law" = true) (k14 : PySem.W.keepIn K (.ref f14) = true)
    (z0 : PySem.W.nsIn K mainGlobals "len" = some none)
    (z1 : PySem.W.nsIn K mainGlobals "range" = some none)
    (z2 : PySem.W.nsIn K mainGlobals "all" = some none)
    (z3 : PySem.W.nsIn K mainGlobals "int" = some none)
    (z4 : PySem.W.nsIn K mainGlobals "abs" = some none)
    (z5 : PySem.W.nsIn K mainGlobals "sum" = some none)
    (z6 : PySem.W.nsIn K mainGlobals "sorted" = some none)
    (z7 : PySem.W.nsIn K mainGlobals "isinstance" = some none)
    (z8 : PySem.W.nsIn K mainGlobals "list" = some none)
    (z9 : PySem.W.nsIn K mainGlobals "bool" = some none)
    {yt0 : Tok} (y0 : PySem.W.nsIn K mainGlobals "LETTERS" = some (some (.str "abcdefgh" yt0))) :
    ∃ fd : FuncData, (∀ (s : Shared) (v : Value), BindsTo s fd ⟨[v], []⟩ [("script", v)]) ∧ ∀ base : Heap, K.In base → base.Ns mainGlobals mg → FnOk l.prog w K mg base CX0 5 fa fd ["script"] (spLaw K) := by
  have e := hfa.symm.trans (PySem.W.mg_of X G a14)
  cases e
  have F0 := fun_mk (st := s_is_least) l0 c0 k0
  have F1 := fun_mk (st := s_parts_falling) l1 c1 k1
  have F2 := fun_mk (st := s_next_least) l2 c2 k2
  have F3 := fun_mk (st := s_all_least) l3 c3 k3
  have F4 := fun_mk (st := s_all_joined) l4 c4 k4
  have F5 := fun_mk (st := s__law_feed) l5 c5 k5
  have F6 := fun_mk (st := s__law_draw) l6 c6 k6
  have F7 := fun_mk (st := s__law_turned) l7 c7 k7
  have F8 := fun_mk (st := s__law_word) l8 c8 k8
  have F9 := fun_mk (st := s__law_least) l9 c9 k9
  have F10 := fun_mk (st := s__law_partings) l10 c10 k10
  have F11 := fun_mk (st := s__law_fits) l11 c11 k11
  have F12 := fun_mk (st := s__law_all) l12 c12 k12
  have F13 := fun_mk (st := s__law_round) l13 c13 k13
  have F14 := fun_mk (st := s_law) l14 c14 k14
  have T : Txt K mg := { f_is_least := f0, d_is_least := _, F_is_least := F0, g_is_least := PySem.W.mg_of X G a0, b_is_least := F0.binds (ps := ["text"]) (fun _ _ _ _ _ _ us hl => match us, hl with | [_], _ => rfl), f_parts_falling := f1, d_parts_falling := _, F_parts_falling := F1, g_parts_falling := PySem.W.mg_of X G a1, b_parts_falling := F1.binds (ps := ["text"]) (fun _ _ _ _ _ _ us hl => match us, hl with | [_], _ => rfl), f_next_least := f2, d_next_least := _, F_next_least := F2, g_next_least := PySem.W.mg_of X G a2, b_next_least := F2.binds (ps := ["text", "size", "letters"]) (fun _ _ _ _ _ _ us hl => match us, hl with | [_, _, _], _ => rfl), f_all_least := f3, d_all_least := _, F_all_least := F3, g_all_least := PySem.W.mg_of X G a3, b_all_least := F3.binds (ps := ["size", "letters"]) (fun _ _ _ _ _ _ us hl => match us, hl with | [_, _], _ => rfl), f_all_joined := f4, d_all_joined := _, F_all_joined := F4, g_all_joined := PySem.W.mg_of X G a4, b_all_joined := F4.binds (ps := ["size", "letters"]) (fun _ _ _ _ _ _ us hl => match us, hl with | [_, _], _ => rfl), f__law_feed := f5, d__law_feed := _, F__law_feed := F5, g__law_feed := PySem.W.mg_of X G a5, b__law_feed := F5.binds (ps := ["script"]) (fun _ _ _ _ _ _ us hl => match us, hl with | [_], _ => rfl), f__law_draw := f6, d__law_draw := _, F__law_draw := F6, g__law_draw := PySem.W.mg_of X G a6, b__law_draw := F6.binds (ps := ["feed", "many"]) (fun _ _ _ _ _ _ us hl => match us, hl with | [_, _], _ => rfl), f__law_turned := f7, d__law_turned := _, F__law_turned := F7, g__law_turned := PySem.W.mg_of X G a7, b__law_turned := F7.binds (ps := ["word", "k"]) (fun _ _ _ _ _ _ us hl => match us, hl with | [_, _], _ => rfl), f__law_word := f8, d__law_word := _, F__law_word := F8, g__law_word := PySem.W.mg_of X G a8, b__law_word := F8.binds (ps := ["feed"]) (fun _ _ _ _ _ _ us hl => match us, hl with | [_], _ => rfl), f__law_least := f9, d__law_least := _, F__law_least := F9, g__law_least := PySem.W.mg_of X G a9, b__law_least := F9.binds (ps := ["text"]) (fun _ _ _ _ _ _ us hl => match us, hl with | [_], _ => rfl), f__law_partings := f10, d__law_partings := _, F__law_partings := F10, g__law_partings := PySem.W.mg_of X G a10, b__law_partings := F10.binds (ps := ["text"]) (fun _ _ _ _ _ _ us hl => match us, hl with | [_], _ => rfl), f__law_fits := f11, d__law_fits := _, F__law_fits := F11, g__law_fits := PySem.W.mg_of X G a11, b__law_fits := F11.binds (ps := ["parts"]) (fun _ _ _ _ _ _ us hl => match us, hl with | [_], _ => rfl), f__law_all := f12, d__law_all := _, F__law_all := F12, g__law_all := PySem.W.mg_of X G a12, b__law_all := F12.binds (ps := ["size", "letters"]) (fun _ _ _ _ _ _ us hl => match us, hl with | [_, _], _ => rfl), f__law_round := f13, d__law_round := _, F__law_round := F13, g__law_round := PySem.W.mg_of X G a13, b__law_round := F13.binds (ps := ["size", "letters"]) (fun _ _ _ _ _ _ us hl => match us, hl with | [_, _], _ => rfl), f_law := fa, d_law := _, F_law := F14, g_law := PySem.W.mg_of X G a14, b_law := F14.binds (ps := ["script"]) (fun _ _ _ _ _ _ us hl => match us, hl with | [_], _ => rfl), z_len := PySem.W.mg_none_of X G z0, z_range := PySem.W.mg_none_of X G z1, z_all := PySem.W.mg_none_of X G z2, z_int := PySem.W.mg_none_of X G z3, z_abs := PySem.W.mg_none_of X G z4, z_sum := PySem.W.mg_none_of X G z5, z_sorted := PySem.W.mg_none_of X G z6, z_isinstance := PySem.W.mg_none_of X G z7, z_list := PySem.W.mg_none_of X G z8, z_bool := PySem.W.mg_none_of X G z9, c_LETTERS := ⟨_, PySem.W.mg_of X G y0⟩ }
  exact ⟨_, fun s v => .of_eq rfl, fun base _ _ => ok_law { f_is_least := f0, d_is_least := _, F_is_least := F0, g_is_least := PySem.W.mg_of X G a0, b_is_least := F0.binds (ps := ["text"]) (fun _ _ _ _ _ _ us hl => match us, hl with | [_], _ => rfl), f_parts_falling := f1, d_parts_falling := _, F_parts_falling := F1, g_parts_falling := PySem.W.mg_of X G a1, b_parts_falling := F1.binds (ps := ["text"]) (fun _ _ _ _ _ _ us hl => match us, hl with | [_], _ => rfl), f_next_least := f2, d_next_least := _, F_next_least := F2, g_next_least := PySem.W.mg_of X G a2, b_next_least := F2.binds (ps := ["text", "size", "letters"]) (fun _ _ _ _ _ _ us hl => match us, hl with | [_, _, _], _ => rfl), f_all_least := f3, d_all_least := _, F_all_least := F3, g_all_least := PySem.W.mg_of X G a3, b_all_least := F3.binds (ps := ["size", "letters"]) (fun _ _ _ _ _ _ us hl => match us, hl with | [_, _], _ => rfl), f_all_joined := f4, d_all_joined := _, F_all_joined := F4, g_all_joined := PySem.W.mg_of X G a4, b_all_joined := F4.binds (ps := ["size", "letters"]) (fun _ _ _ _ _ _ us hl => match us, hl with | [_, _], _ => rfl), f__law_feed := f5, d__law_feed := _, F__law_feed := F5, g__law_feed := PySem.W.mg_of X G a5, b__law_feed := F5.binds (ps := ["script"]) (fun _ _ _ _ _ _ us hl => match us, hl with | [_], _ => rfl), f__law_draw := f6, d__law_draw := _, F__law_draw := F6, g__law_draw := PySem.W.mg_of X G a6, b__law_draw := F6.binds (ps := ["feed", "many"]) (fun _ _ _ _ _ _ us hl => match us, hl with | [_, _], _ => rfl), f__law_turned := f7, d__law_turned := _, F__law_turned := F7, g__law_turned := PySem.W.mg_of X G a7, b__law_turned := F7.binds (ps := ["word", "k"]) (fun _ _ _ _ _ _ us hl => match us, hl with | [_, _], _ => rfl), f__law_word := f8, d__law_word := _, F__law_word := F8, g__law_word := PySem.W.mg_of X G a8, b__law_word := F8.binds (ps := ["feed"]) (fun _ _ _ _ _ _ us hl => match us, hl with | [_], _ => rfl), f__law_least := f9, d__law_least := _, F__law_least := F9, g__law_least := PySem.W.mg_of X G a9, b__law_least := F9.binds (ps := ["text"]) (fun _ _ _ _ _ _ us hl => match us, hl with | [_], _ => rfl), f__law_partings := f10, d__law_partings := _, F__law_partings := F10, g__law_partings := PySem.W.mg_of X G a10, b__law_partings := F10.binds (ps := ["text"]) (fun _ _ _ _ _ _ us hl => match us, hl with | [_], _ => rfl), f__law_fits := f11, d__law_fits := _, F__law_fits := F11, g__law_fits := PySem.W.mg_of X G a11, b__law_fits := F11.binds (ps := ["parts"]) (fun _ _ _ _ _ _ us hl => match us, hl with | [_], _ => rfl), f__law_all := f12, d__law_all := _, F__law_all := F12, g__law_all := PySem.W.mg_of X G a12, b__law_all := F12.binds (ps := ["size", "letters"]) (fun _ _ _ _ _ _ us hl => match us, hl with | [_, _], _ => rfl), f__law_round := f13, d__law_round := _, F__law_round := F13, g__law_round := PySem.W.mg_of X G a13, b__law_round := F13.binds (ps := ["size", "letters"]) (fun _ _ _ _ _ _ us hl => match us, hl with | [_, _], _ => rfl), f_law := fa, d_law := _, F_law := F14, g_law := PySem.W.mg_of X G a14, b_law := F14.binds (ps := ["script"]) (fun _ _ _ _ _ _ us hl => match us, hl with | [_], _ => rfl), z_len := PySem.W.mg_none_of X G z0, z_range := PySem.W.mg_none_of X G z1, z_all := PySem.W.mg_none_of X G z2, z_int := PySem.W.mg_none_of X G z3, z_abs := PySem.W.mg_none_of X G z4, z_sum := PySem.W.mg_none_of X G z5, z_sorted := PySem.W.mg_none_of X G z6, z_isinstance := PySem.W.mg_none_of X G z7, z_list := PySem.W.mg_none_of X G z8, z_bool := PySem.W.mg_none_of X G z9, c_LETTERS := ⟨_, PySem.W.mg_of X G y0⟩ } hm⟩
end Wk81
open PySem PySem.W PyProof.Rows
set_option maxHeartbeats 0 in
theorem PySem.Challenge.cw_backletters_k81_whole_texts_least_of_the_holds : PySem.Challenge.rw_backletters_k81_whole_texts_least_of_the.Holds := by
  w_on; o_law; k_head; (case hw => w_witness2)
  k_fill
  refine L2.walk_of (l := PySem.Challenge.rw_backletters_k81_whole_texts_least_of_the) (n := 63) (k := 5) (x := "script") (CX := fun _ => L2.CX0) (sp := fun w => DK.spLaw _) rfl (by decide) rfl ⟨rfl, by decide, by decide⟩ (fun w h Y => PySem.W.kIn_of Y) ?F (fun _ _ a ns hl _ hS => ⟨a, ns, rfl, hS, hl, fun _ => rfl⟩) (fun _ _ _ _ _ h => h)
  case F =>
    intro w mg fa h KX G hmg
    refine' Wk81.all_mk KX G hmg Wk81.law_run ?a0 ?l0 ?c0 ?k0 ?a1 ?l1 ?c1 ?k1 ?a2 ?l2 ?c2 ?k2 ?a3 ?l3 ?c3 ?k3 ?a4 ?l4 ?c4 ?k4 ?a5 ?l5 ?c5 ?k5 ?a6 ?l6 ?c6 ?k6 ?a7 ?l7 ?c7 ?k7 ?a8 ?l8 ?c8 ?k8 ?a9 ?l9 ?c9 ?k9 ?a10 ?l10 ?c10 ?k10 ?a11 ?l11 ?c11 ?k11 ?a12 ?l12 ?c12 ?k12 ?a13 ?l13 ?c13 ?k13 ?a14 ?l14 ?c14 ?k14 ?z0 ?z1 ?z2 ?z3 ?z4 ?z5 ?z6 ?z7 ?z8 ?z9 ?y0
    (case a0 => k_is); (case l0 => k_is); (case c0 => k_is); (case k0 => k_is)
    (case a1 => k_is); (case l1 => k_is); (case c1 => k_is); (case k1 => k_is)
    (case a2 => k_is); (case l2 => k_is); (case c2 => k_is); (case k2 => k_is)
    (case a3 => k_is); (case l3 => k_is); (case c3 => k_is); (case k3 => k_is)
    (case a4 => k_is); (case l4 => k_is); (case c4 => k_is); (case k4 => k_is)
    (case a5 => k_is); (case l5 => k_is); (case c5 => k_is); (case k5 => k_is)
    (case a6 => k_is); (case l6 => k_is); (case c6 => k_is); (case k6 => k_is)
    (case a7 => k_is); (case l7 => k_is); (case c7 => k_is); (case k7 => k_is)
    (case a8 => k_is); (case l8 => k_is); (case c8 => k_is); (case k8 => k_is)
    (case a9 => k_is); (case l9 => k_is); (case c9 => k_is); (case k9 => k_is)
    (case a10 => k_is); (case l10 => k_is); (case c10 => k_is); (case k10 => k_is)
    (case a11 => k_is); (case l11 => k_is); (case c11 => k_is); (case k11 => k_is)
    (case a12 => k_is); (case l12 => k_is); (case c12 => k_is); (case k12 => k_is)
    (case a13 => k_is); (case l13 => k_is); (case c13 => k_is); (case k13 => k_is)
    (case a14 => k_is); (case l14 => k_is); (case c14 => k_is); (case k14 => k_is)
    (case z0 => k_is)
    (case z1 => k_is)
    (case z2 => k_is)
    (case z3 => k_is)
    (case z4 => k_is)
    (case z5 => k_is)
    (case z6 => k_is)
    (case z7 => k_is)
    (case z8 => k_is)
    (case z9 => k_is)
    (case y0 => k_is)
end
